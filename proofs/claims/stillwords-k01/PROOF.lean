import PyProof.Rows.All
import Wide.All
import OpenK.AllK
import Wide.FinOn
import HandS.ForMost
import HandS.Exc
import HandS.ExcOwn
import HandS.WordsExc
import HandS.Lambda
import HandS.IsInst
import HandS.Deep
import HandS.TupAny
import HandS.Wide
import HandS.WideBits
import HandS.RaiseMore
import HandS.Defaults
import HandS.TryOnly
import PyProof.RulesMatch
import HandS.ExcCtx
import HandS.EndBits
import HandS.EndTab
import HandS.Codes
import HandS.Head0
import HandS.Head1
import HandS.Head2
import HandS.HeadEnd
import HandS.HeadHook1
import HandS.HeadHook2
import HandS.HeadHook3
import HandS.HeadHook4
import HandS.ExcInit
import KE.KTryMore
import HandS.TryMany
import HandS.ExcField
import HandS.ExcIs
import HandS.Hot
import HandS.HotCalls
import KE.KRevSl
import HandS.Style
import HandS.List
import PyProof.ReprLen
import PySem.Challenge.RW_stillwords_k01_division_refused_and_told
set_option Elab.async false
set_option linter.all false
set_option maxRecDepth 100000
set_option maxHeartbeats 4000000
/-! FX: a functional reading of the program's text, over the hand layer. -/
namespace FX
open PySem PySem.Spec PyProof.Rows L2

/-- the tables of code objects that lambdas of the text are put into, by their defs' -/
class LamT where
  T : PySem.W.Frag → List (Addr × Str)
  X : Nat → Str
variable [LamT]
/-- the address that a name of the top has -/
def glA (K : PySem.W.Frag) (x : Str) : Addr := match PySem.W.nsIn K mainGlobals x with
  | some (some (.ref a)) => a
  | _ => 0
/-- the own classes, numbered -/
def xA (K : PySem.W.Frag) (c : Nat) : Addr := glA K (LamT.X c)
/-! ### values, objects, results -/
inductive FV where
  | non
  | bl (b : Bool)
  | int (i : Int)
  | str (x : Str)
  | tup (xs : List FV)
  | ref (n : Nat)
  | cls (c : Nat)
  | ty (n : String)
inductive FO where
  | lst (xs : List FV)
  | ro (xs : List FV)
  | dic (kvs : List (Key × FV))
  | ins (C : Nat) (fs : List (Str × FV))
  | xdo (fs : List (Str × FV))
  | opq
abbrev FH := List FO
abbrev FSt := List (Option FV)
inductive Res (α : Type) where
  | ok (a : α) (h : FH)
  | exc (c : Nat) (fs : List (Str × FV)) (h : FH)
  | stuck
def Res.bind {α β : Type} (r : Res α) (k : α → FH → Res β) : Res β := match r with
  | .ok a h => k a h
  | .exc c fs h => .exc c fs h
  | .stuck => .stuck
/-- a statement's end -/
inductive SR where
  | nx (σ : FSt) (h : FH)
  | rt (v : FV) (h : FH)
  | bk (σ : FSt) (h : FH)
  | ct (σ : FSt) (h : FH)
  | ex (c : Nat) (fs : List (Str × FV)) (σ : FSt) (h : FH)
  | stuck
abbrev EvE := FSt → FH → Res FV
abbrev EvT := FSt → FH → Res Bool
abbrev EvA := FSt → FH → Res (List FV)
abbrev EvS := FSt → FH → SR

/-! ### what stands for what -/
mutual
inductive RV (K : PySem.W.Frag) (ρ : List Addr) (H : Hp) : FV → V → Prop
  | non : RV K ρ H .non .non
  | bl (b : Bool) : RV K ρ H (.bl b) (.bl b)
  | int (i : Int) : RV K ρ H (.int i) (.int i)
  | str (x : Str) : RV K ρ H (.str x) (.str x)
  | tup {xs : List FV} {a : Addr} {vs : List V} : SqT K H a vs → RVs K ρ H xs vs → RV K ρ H (.tup xs) (.ref a)
  | ref {n : Nat} {a : Addr} : ρ[n]? = some a → RV K ρ H (.ref n) (.ref a)
  | cls (c : Nat) : RV K ρ H (.cls c) (.ref (xA K c))
  | ty (n : String) : RV K ρ H (.ty n) (.ty n)
inductive RVs (K : PySem.W.Frag) (ρ : List Addr) (H : Hp) : List FV → List V → Prop
  | nil : RVs K ρ H [] []
  | cons {x : FV} {v : V} {xs : List FV} {vs : List V} : RV K ρ H x v → RVs K ρ H xs vs → RVs K ρ H (x :: xs) (v :: vs)
end
/-- the tuples stay, the numbering grows -/
structure Ev (K : PySem.W.Frag) (ρ : List Addr) (H : Hp) (ρ' : List Addr) (H' : Hp) : Prop where
  pre : ∃ more, ρ' = ρ ++ more
  tups : ∀ a vs, SqT K H a vs → SqT K H' a vs
  tabs : LamX.Tabs (LamT.T K) H → LamX.Tabs (LamT.T K) H'
  codes : ∀ c q, H c = some (LamX.CodeO c q) → H' c = some (LamX.CodeO c q)
  xds : ∀ d vs, H d = some (.xd vs) → H' d = some (.xd vs)
theorem Ev.refl {K : PySem.W.Frag} {ρ : List Addr} {H : Hp} : Ev K ρ H ρ H := ⟨⟨[], (List.append_nil ρ).symm⟩, fun _ _ h => h, id, fun _ _ h => h, fun _ _ h => h⟩
theorem Ev.trans {K : PySem.W.Frag} {ρ ρ1 ρ2 : List Addr} {H H1 H2 : Hp} (a : Ev K ρ H ρ1 H1) (b : Ev K ρ1 H1 ρ2 H2) : Ev K ρ H ρ2 H2 := by
  obtain ⟨⟨m1, e1⟩, t1, u1, c1, x1⟩ := a
  obtain ⟨⟨m2, e2⟩, t2, u2, c2, x2⟩ := b
  exact ⟨⟨m1 ++ m2, by rw [e2, e1, List.append_assoc]⟩, fun x vs h => t2 x vs (t1 x vs h), fun h => u2 (u1 h), fun c q h => c2 c q (c1 c q h), fun d vs h => x2 d vs (x1 d vs h)⟩
theorem Ev.get {K : PySem.W.Frag} {ρ ρ1 : List Addr} {H H1 : Hp} (e : Ev K ρ H ρ1 H1) {n : Nat} {a : Addr} (h : ρ[n]? = some a) : ρ1[n]? = some a := by
  obtain ⟨⟨m, q⟩, _, _, _, _⟩ := e
  rw [q, List.getElem?_append_left (List.getElem?_eq_some_iff.mp h).1, h]
mutual
theorem RV.ev {K : PySem.W.Frag} {ρ ρ1 : List Addr} {H H1 : Hp} (e : Ev K ρ H ρ1 H1) : ∀ {x : FV} {v : V}, RV K ρ H x v → RV K ρ1 H1 x v
  | _, _, .non => .non
  | _, _, .bl b => .bl b
  | _, _, .int i => .int i
  | _, _, .str x => .str x
  | _, _, .tup s r => .tup (e.tups _ _ s) (RVs.ev e r)
  | _, _, .ref h => .ref (e.get h)
  | _, _, .cls c => .cls c
  | _, _, .ty n => .ty n
theorem RVs.ev {K : PySem.W.Frag} {ρ ρ1 : List Addr} {H H1 : Hp} (e : Ev K ρ H ρ1 H1) : ∀ {xs : List FV} {vs : List V}, RVs K ρ H xs vs → RVs K ρ1 H1 xs vs
  | _, _, .nil => .nil
  | _, _, .cons a b => .cons (RV.ev e a) (RVs.ev e b)
end
section
variable {K : PySem.W.Frag} {ρ : List Addr} {H : Hp}
theorem RVs.len : ∀ {xs : List FV} {vs : List V}, RVs K ρ H xs vs → xs.length = vs.length
  | _, _, .nil => rfl
  | _, _, .cons _ b => congrArg Nat.succ (RVs.len b)
theorem RVs.get : ∀ {xs : List FV} {vs : List V} {i : Nat} {x : FV}, RVs K ρ H xs vs → xs[i]? = some x → ∃ v, vs[i]? = some v ∧ RV K ρ H x v
  | _, _, 0, _, .cons a _, h => by
    cases (Option.some.inj h)
    exact ⟨_, rfl, a⟩
  | _, _, i + 1, _, .cons _ b, h => by
    obtain ⟨v, e, r⟩ := RVs.get (i := i) b (by simpa using h)
    exact ⟨v, by simpa using e, r⟩
theorem RVs.back : ∀ {xs : List FV} {vs : List V} {i : Nat} {v : V}, RVs K ρ H xs vs → vs[i]? = some v → ∃ x, xs[i]? = some x ∧ RV K ρ H x v
  | _, _, 0, _, .cons a _, h => by
    cases (Option.some.inj h)
    exact ⟨_, rfl, a⟩
  | _, _, i + 1, _, .cons _ b, h => by
    obtain ⟨v, e, r⟩ := RVs.back (i := i) b (by simpa using h)
    exact ⟨v, by simpa using e, r⟩
theorem RVs.app : ∀ {xs ys : List FV} {vs us : List V}, RVs K ρ H xs vs → RVs K ρ H ys us → RVs K ρ H (xs ++ ys) (vs ++ us)
  | _, _, _, _, .nil, h => h
  | _, _, _, _, .cons a b, h => .cons a (RVs.app b h)
theorem RVs.set {y : FV} {u : V} (r : RV K ρ H y u) : ∀ {xs : List FV} {vs : List V} (i : Nat), RVs K ρ H xs vs → RVs K ρ H (xs.set i y) (vs.set i u)
  | _, _, _, .nil => .nil
  | _, _, 0, .cons _ b => .cons r b
  | _, _, i + 1, .cons a b => .cons a (RVs.set r i b)
theorem RVs.take : ∀ {xs : List FV} {vs : List V} (n : Nat), RVs K ρ H xs vs → RVs K ρ H (xs.take n) (vs.take n)
  | _, _, 0, _ => .nil
  | _, _, _ + 1, .nil => .nil
  | _, _, n + 1, .cons a b => .cons a (RVs.take n b)
theorem RVs.drop : ∀ {xs : List FV} {vs : List V} (n : Nat), RVs K ρ H xs vs → RVs K ρ H (xs.drop n) (vs.drop n)
  | _, _, 0, h => h
  | _, _, _ + 1, .nil => .nil
  | _, _, n + 1, .cons _ b => RVs.drop n b
theorem RVs.rev {xs : List FV} {vs : List V} (h : RVs K ρ H xs vs) : RVs K ρ H xs.reverse vs.reverse := by
  induction xs generalizing vs with
  | nil => cases h; exact .nil
  | cons x xs ih =>
    cases h with
    | cons a b =>
      rw [List.reverse_cons, List.reverse_cons]
      exact (ih b).app (.cons a .nil)
theorem RVs.erase : ∀ {xs : List FV} {vs : List V} (i : Nat), RVs K ρ H xs vs → RVs K ρ H (xs.eraseIdx i) (vs.eraseIdx i)
  | _, _, _, .nil => .nil
  | _, _, 0, .cons _ b => b
  | _, _, i + 1, .cons a b => .cons a (RVs.erase i b)
end
/-- entries of a dict, of an instance -/
inductive RK (K : PySem.W.Frag) (ρ : List Addr) (H : Hp) {κ : Type} : List (κ × FV) → List (κ × V) → Prop
  | nil : RK K ρ H [] []
  | cons {k : κ} {x : FV} {v : V} {xs : List (κ × FV)} {vs : List (κ × V)} : RV K ρ H x v → RK K ρ H xs vs → RK K ρ H ((k, x) :: xs) ((k, v) :: vs)
theorem RK.ev {K : PySem.W.Frag} {ρ ρ1 : List Addr} {H H1 : Hp} {κ : Type} (e : Ev K ρ H ρ1 H1) : ∀ {xs : List (κ × FV)} {vs : List (κ × V)}, RK K ρ H xs vs → RK K ρ1 H1 xs vs
  | _, _, .nil => .nil
  | _, _, .cons a b => .cons (a.ev e) (RK.ev e b)
/-- the fields of a raised exception: its dict, if there is one -/
def XD (K : PySem.W.Frag) (ρ : List Addr) (H : Hp) (fs : List (Str × FV)) : Option Addr → Prop
  | none => fs = []
  | some d => ∃ vs, H d = some (.xd vs) ∧ RK K ρ H fs vs
theorem XD.ev {K : PySem.W.Frag} {ρ ρ1 : List Addr} {H H1 : Hp} (e : Ev K ρ H ρ1 H1) {fs : List (Str × FV)} : ∀ {d : Option Addr}, XD K ρ H fs d → XD K ρ1 H1 fs d
  | none, h => h
  | some _, ⟨vs, q, r⟩ => ⟨vs, e.xds _ _ q, r.ev e⟩
/-- a list of the written part -/
def KC (K : PySem.W.Frag) (ρ : List Addr) (H : Hp) (a : Addr) (xs : List FV) : Prop :=
  ∃ vs, (∃ (o : Obj) (its : Array Value) (n : Nat), K.lookup a = some o ∧ o.cls = .type "list" ∧ o.dict = none ∧ o.data = .seq its n ∧ its.size ≤ sizeLine ∧ Vals vs its.toList) ∧ RVs K ρ H xs vs
theorem KC.ev {K : PySem.W.Frag} {ρ ρ1 : List Addr} {H H1 : Hp} (e : Ev K ρ H ρ1 H1) {a : Addr} {xs : List FV} : KC K ρ H a xs → KC K ρ1 H1 a xs
  | ⟨vs, q, r⟩ => ⟨vs, q, r.ev e⟩
/-- an object -/
def RO (K : PySem.W.Frag) (ρ : List Addr) (H : Hp) (a : Addr) : FO → Prop
  | .lst xs => ∃ vs, H a = some (.lst vs) ∧ RVs K ρ H xs vs
  | .ro xs => KC K ρ H a xs ∨ ∃ vs, Rd H a (.lst vs) ∧ RVs K ρ H xs vs
  | .dic kvs => ∃ vs, H a = some (.dK vs) ∧ RK K ρ H kvs vs
  | .ins C fs => ∃ dx vs, H a = some (.ins (xA K C) dx vs) ∧ RK K ρ H fs vs
  | .xdo fs => fs = [] ∨ ∃ vs, H a = some (.xd vs) ∧ RK K ρ H fs vs
  | .opq => True
/-- what stands whatever is written -/
def Soft (K : PySem.W.Frag) (ρ : List Addr) (H : Hp) (a : Addr) : FO → Prop
  | .ro xs => KC K ρ H a xs
  | .xdo fs => fs = [] ∨ ∃ vs, H a = some (.xd vs) ∧ RK K ρ H fs vs
  | .opq => True
  | _ => False
theorem Soft.ev {K : PySem.W.Frag} {ρ ρ1 : List Addr} {H H1 : Hp} (e : Ev K ρ H ρ1 H1) {a : Addr} : ∀ {u : FO}, Soft K ρ H a u → Soft K ρ1 H1 a u
  | .ro _, k => KC.ev e k
  | .xdo _, .inl k => .inl k
  | .xdo _, .inr ⟨vs, q, r⟩ => .inr ⟨vs, e.xds a vs q, r.ev e⟩
  | .opq, _ => trivial
theorem Soft.ro {K : PySem.W.Frag} {ρ : List Addr} {H : Hp} {a : Addr} : ∀ {u : FO}, Soft K ρ H a u → RO K ρ H a u
  | .ro _, k => .inl k
  | .xdo _, k => k
  | .opq, _ => trivial
structure RH (K : PySem.W.Frag) (ρ : List Addr) (h : FH) (H : Hp) : Prop where
  len : ρ.length = h.length
  nd : ∀ (i j : Nat) (a : Addr), ρ[i]? = some a → ρ[j]? = some a → i = j ∨ (∃ u : FO, h[i]? = some u ∧ Soft K ρ H a u) ∨ ∃ u : FO, h[j]? = some u ∧ Soft K ρ H a u
  at_ : ∀ (n : Nat) (o : FO), h[n]? = some o → ∃ a, ρ[n]? = some a ∧ RO K ρ H a o
/-- what is wished of an exception; the point from where all grew -/
structure Wsh where
  w : WX
  ρ0 : List Addr
  H0 : Hp
abbrev Wsh.nox (W : Wsh) : Wsh := ⟨fun _ _ _ _ => False, W.ρ0, W.H0⟩
structure RS (K : PySem.W.Frag) (W : Wsh) (ρ : List Addr) (H : Hp) (σf : FSt) (σ : L2.St) : Prop where
  len : σf.length = σ.length
  at_ : ∀ (i : Nat) (x : FV), σf[i]? = some (some x) → ∃ v : V, σ[i]? = some (some v) ∧ RV K ρ H x v
  tabs : LamX.Tabs (LamT.T K) H
  base : Ev K W.ρ0 W.H0 ρ H
theorem RS.ev {K : PySem.W.Frag} {W : Wsh} {ρ ρ1 : List Addr} {H H1 : Hp} (e : Ev K ρ H ρ1 H1) {σf : FSt} {σ : L2.St} (r : RS K W ρ H σf σ) : RS K W ρ1 H1 σf σ :=
  ⟨r.len, fun i x h => let ⟨v, q, w⟩ := r.at_ i x h; ⟨v, q, w.ev e⟩, e.tabs r.tabs, r.base.trans e⟩
theorem RS.wish {K : PySem.W.Frag} {W : Wsh} {ρ : List Addr} {H : Hp} {σf : FSt} {σ : L2.St} (r : RS K W ρ H σf σ) (w : WX) : RS K ⟨w, W.ρ0, W.H0⟩ ρ H σf σ := ⟨r.len, r.at_, r.tabs, r.base⟩
theorem RS.set {K : PySem.W.Frag} {W : Wsh} {ρ : List Addr} {H : Hp} {σf : FSt} {σ : L2.St} (r : RS K W ρ H σf σ) (i : Nat) {x : FV} {v : V} (rv : RV K ρ H x v) : RS K W ρ H (σf.set i (some x)) (σ.set i (some v)) := by
  refine ⟨by rw [List.length_set, List.length_set, r.len], fun j y h => ?_, r.tabs, r.base⟩
  by_cases e : i = j
  · subst e
    have hi : i < σf.length := by
      have := (List.getElem?_eq_some_iff.mp h).1
      rwa [List.length_set] at this
    rw [List.getElem?_set_self hi] at h
    cases h
    exact ⟨v, by rw [List.getElem?_set_self (by rw [← r.len]; exact hi)], rv⟩
  · rw [List.getElem?_set_ne e] at h
    obtain ⟨u, q, w⟩ := r.at_ j y h
    exact ⟨u, by rw [List.getElem?_set_ne e]; exact q, w⟩

/-! ### heaps that change -/
section
variable {K : PySem.W.Frag} {ρ : List Addr} {h : FH} {H : Hp}
theorem tups_new {p : Addr} {o : HO} (n : H p = none) : ∀ a vs, SqT K H a vs → SqT K (upd H p o) a vs := fun a vs s => by
  have other : ∀ u, H a = some u → upd H p o a = some u := fun u e => by rw [upd_ne (ne_of_none e n)]; exact e
  rcases s with (s | ⟨ob, s⟩) | s
  · exact .inl (.inl (other _ s))
  · exact .inl (.inr ⟨ob, other _ s⟩)
  · exact .inr s
/-- what stands at p is no tuple, nothing locked -/
def Loose : HO → Prop
  | .lst _ => True
  | .dK _ => True
  | .ins _ _ _ => True
  | _ => False
theorem tabs_new {p : Addr} {o : HO} (n : H p = none) : ∀ P q, LamX.TabS H P q → LamX.TabS (upd H p o) P q := fun P q t => t.ext fun b u e => by rw [upd_ne (ne_of_none e n)]; exact e
theorem xds_new {p : Addr} {o : HO} (n : H p = none) : ∀ d vs, H d = some (.xd vs) → upd H p o d = some (.xd vs) := fun d vs e => by rw [upd_ne (ne_of_none e n)]; exact e
theorem xds_wr {p : Addr} {o u : HO} (n : H p = some u) (l : Loose u) : ∀ d vs, H d = some (.xd vs) → upd H p o d = some (.xd vs) := fun d vs e => by
  rw [upd_ne (fun z => by subst z; rw [n] at e; cases e; exact l)]
  exact e
theorem codes_new {p : Addr} {o : HO} (n : H p = none) : ∀ c q, H c = some (LamX.CodeO c q) → upd H p o c = some (LamX.CodeO c q) := fun c q e => by rw [upd_ne (ne_of_none e n)]; exact e
theorem codes_wr {p : Addr} {o u : HO} (n : H p = some u) (l : Loose u) : ∀ c q, H c = some (LamX.CodeO c q) → upd H p o c = some (LamX.CodeO c q) := fun c q e => by
  rw [upd_ne (fun z => by subst z; rw [n] at e; cases e; exact l)]
  exact e
theorem tabs_wr {p : Addr} {o u : HO} (n : H p = some u) (l : Loose u) : ∀ P q, LamX.TabS H P q → LamX.TabS (upd H p o) P q := fun P q t => by
  obtain ⟨ps, h1, h2, h3⟩ := t
  have other : ∀ b w, H b = some w → ¬ Loose w → upd H p o b = some w := fun b w e nl => by
    rw [upd_ne (fun z => by subst z; rw [n] at e; cases e; exact nl l)]
    exact e
  refine ⟨ps, other _ _ h1 (fun z => z), h2, fun pos cv hc => ?_⟩
  obtain ⟨c, e1, e2⟩ := h3 pos cv hc
  exact ⟨c, e1, other _ _ e2 (fun z => z)⟩
theorem tups_wr {p : Addr} {o u : HO} (n : H p = some u) (l : Loose u) : ∀ a vs, SqT K H a vs → SqT K (upd H p o) a vs := fun a vs s => by
  have other : ∀ w, H a = some w → ¬ Loose w → upd H p o a = some w := fun w e nl => by
    rw [upd_ne (fun z => by subst z; rw [n] at e; cases e; exact nl l)]
    exact e
  rcases s with (s | ⟨ob, s⟩) | s
  · exact .inl (.inl (other _ s (fun z => z)))
  · exact .inl (.inr ⟨ob, other _ s (fun z => z)⟩)
  · exact .inr s
theorem RO.ne {p a : Addr} {ρ1 : List Addr} {H' : Hp} (e : Ev K ρ H ρ1 H') (hp : ∀ b, b ≠ p → H' b = H b) (ha : a ≠ p) : ∀ {u : FO}, RO K ρ H a u → RO K ρ1 H' a u
  | .lst _, ⟨vs, q, r⟩ => ⟨vs, by rw [hp a ha]; exact q, r.ev e⟩
  | .ro _, .inl k => .inl (k.ev e)
  | .ro _, .inr ⟨vs, q, r⟩ => .inr ⟨vs, by
      rcases q with q | ⟨ob, q⟩
      · exact .inl (by rw [hp a ha]; exact q)
      · exact .inr ⟨ob, by rw [hp a ha]; exact q⟩, r.ev e⟩
  | .dic _, ⟨vs, q, r⟩ => ⟨vs, by rw [hp a ha]; exact q, r.ev e⟩
  | .ins _ _, ⟨dx, vs, q, r⟩ => ⟨dx, vs, by rw [hp a ha]; exact q, r.ev e⟩
  | .xdo _, .inl k => .inl k
  | .xdo _, .inr ⟨vs, q, r⟩ => .inr ⟨vs, by rw [hp a ha]; exact q, r.ev e⟩
  | .opq, _ => trivial
/-- tracked, or a list of the written part -/
theorem RO.there {a : Addr} : ∀ {u : FO}, RO K ρ H a u → H a ≠ none ∨ Soft K ρ H a u
  | .lst _, ⟨vs, q, r⟩ => .inl (by rw [q]; exact Option.some_ne_none _)
  | .ro xs, .inl k => .inr k
  | .ro _, .inr ⟨vs, q, r⟩ => .inl (by
      rcases q with q | ⟨ob, q⟩ <;> (rw [q]; exact Option.some_ne_none _))
  | .dic _, ⟨vs, q, r⟩ => .inl (by rw [q]; exact Option.some_ne_none _)
  | .ins _ _, ⟨dx, vs, q, r⟩ => .inl (by rw [q]; exact Option.some_ne_none _)
  | .xdo _, k => .inr k
  | .opq, _ => .inr trivial
/-- a new object, numbered -/
theorem RH.push (r : RH K ρ h H) {p : Addr} {o : HO} {u : FO} (n : H p = none) (e : Ev K ρ H (ρ ++ [p]) (upd H p o)) (new : RO K (ρ ++ [p]) (upd H p o) p u) : RH K (ρ ++ [p]) (h ++ [u]) (upd H p o) := by
  have old : ∀ i a, ρ[i]? = some a → ∃ w, h[i]? = some w ∧ RO K ρ H a w := fun i a q => by
    have hl : i < h.length := by rw [← r.len]; exact (List.getElem?_eq_some_iff.mp q).1
    obtain ⟨b, q1, q2⟩ := r.at_ i h[i] (List.getElem?_eq_getElem hl)
    rw [q] at q1
    cases q1
    exact ⟨_, List.getElem?_eq_getElem hl, q2⟩
  have lt : ∀ {i : Nat} {x : FO}, h[i]? = some x → (h ++ [u])[i]? = some x := fun {i x} q => by
    rw [List.getElem?_append_left (List.getElem?_eq_some_iff.mp q).1]; exact q
  have cases_ : ∀ i a, (ρ ++ [p])[i]? = some a → (ρ[i]? = some a) ∨ (i = ρ.length ∧ a = p) := fun i a q => by
    by_cases hi : i < ρ.length
    · rw [List.getElem?_append_left hi] at q
      exact .inl q
    · rw [List.getElem?_append_right (by omega)] at q
      have : i - ρ.length = 0 := by
        by_cases z : i - ρ.length = 0
        · exact z
        · rw [List.getElem?_eq_none (by simp; omega)] at q
          cases q
      rw [this] at q
      exact .inr ⟨by omega, (Option.some.inj q).symm⟩
  have atP : ∀ i, ρ[i]? = some p → ∃ w : FO, (h ++ [u])[i]? = some w ∧ Soft K (ρ ++ [p]) (upd H p o) p w := fun i q => by
    obtain ⟨w, q1, q2⟩ := old i p q
    rcases q2.there with z | k
    · exact absurd n z
    · exact ⟨w, lt q1, k.ev e⟩
  refine ⟨by rw [List.length_append, List.length_append, r.len]; rfl, fun i j a q1 q2 => ?_, fun i w q => ?_⟩
  · rcases cases_ i a q1 with z1 | ⟨z1, y1⟩ <;> rcases cases_ j a q2 with z2 | ⟨z2, y2⟩
    · rcases r.nd i j a z1 z2 with y | ⟨w, y, k⟩ | ⟨w, y, k⟩
      · exact .inl y
      · exact .inr (.inl ⟨w, lt y, k.ev e⟩)
      · exact .inr (.inr ⟨w, lt y, k.ev e⟩)
    · subst y2
      exact .inr (.inl (atP i z1))
    · subst y1
      exact .inr (.inr (atP j z2))
    · exact .inl (z1.trans z2.symm)
  · by_cases hi : i < h.length
    · rw [List.getElem?_append_left hi] at q
      obtain ⟨a, q1, q2⟩ := r.at_ i w q
      refine ⟨a, e.get q1, ?_⟩
      by_cases ha : a = p
      · subst ha
        rcases q2.there with z | k
        · exact absurd n z
        · exact (k.ev e).ro
      · exact q2.ne (p := p) e (fun b hb => upd_ne hb) ha
    · rw [List.getElem?_append_right (by omega)] at q
      have hz : i - h.length = 0 := by
        by_cases z : i - h.length = 0
        · exact z
        · rw [List.getElem?_eq_none (by simp; omega)] at q
          cases q
      rw [hz] at q
      have hi' : i = ρ.length := by rw [r.len]; omega
      refine ⟨p, by rw [hi']; simp, ?_⟩
      rw [← Option.some.inj q]
      exact new
/-- a numbered object is written -/
theorem RH.write (r : RH K ρ h H) {m : Nat} {p : Addr} {o : HO} {u w : FO} (hm : h[m]? = some w) (hw : ∀ (ρ : List Addr) (H : Hp) (a : Addr), ¬ Soft K ρ H a w) (hp : ρ[m]? = some p) (e : Ev K ρ H ρ (upd H p o)) (new : RO K ρ (upd H p o) p u) : RH K ρ (h.set m u) (upd H p o) := by
  have hml : m < h.length := (List.getElem?_eq_some_iff.mp hm).1
  have keep : ∀ {i : Nat} {x : FO} {a : Addr}, h[i]? = some x → Soft K ρ H a x → (h.set m u)[i]? = some x := fun {i x a} q k => by
    rw [List.getElem?_set_ne]
    · exact q
    · intro z
      subst z
      rw [hm] at q
      cases q
      exact hw _ _ _ k
  refine ⟨by rw [List.length_set]; exact r.len, fun i j a q1 q2 => ?_, fun i x q => ?_⟩
  · rcases r.nd i j a q1 q2 with y | ⟨xs, y, k⟩ | ⟨xs, y, k⟩
    · exact .inl y
    · exact .inr (.inl ⟨xs, keep y k, k.ev e⟩)
    · exact .inr (.inr ⟨xs, keep y k, k.ev e⟩)
  · by_cases hi : m = i
    · subst hi
      rw [List.getElem?_set_self hml] at q
      cases q
      exact ⟨p, hp, new⟩
    · rw [List.getElem?_set_ne hi] at q
      obtain ⟨a, q1, q2⟩ := r.at_ i x q
      refine ⟨a, q1, ?_⟩
      by_cases ha : a = p
      · subst ha
        rcases r.nd m i a hp q1 with y | ⟨xs, y, k⟩ | ⟨xs, y, k⟩
        · exact absurd y hi
        · rw [hm] at y
          cases y
          exact absurd k (hw _ _ _)
        · rw [q] at y
          cases y
          exact (k.ev e).ro
      · exact q2.ne (p := p) e (fun b hb => upd_ne hb) ha
theorem Ev.push {p : Addr} {o : HO} (n : H p = none) : Ev K ρ H (ρ ++ [p]) (upd H p o) := ⟨⟨[p], rfl⟩, tups_new n, fun t p hp => tabs_new n _ _ (t p hp), codes_new n, xds_new n⟩
theorem Ev.wr {p : Addr} {o u : HO} (n : H p = some u) (l : Loose u) : Ev K ρ H ρ (upd H p o) := ⟨⟨[], (List.append_nil ρ).symm⟩, tups_wr n l, fun t p hp => tabs_wr n l _ _ (t p hp), codes_wr n l, xds_wr n l⟩
/-- a new thing that is not numbered (a tuple) -/
theorem RH.beside (r : RH K ρ h H) {p : Addr} {o : HO} (n : H p = none) (e : Ev K ρ H ρ (upd H p o)) : RH K ρ h (upd H p o) := by
  refine ⟨r.len, fun i j a q1 q2 => ?_, fun i w q => ?_⟩
  · rcases r.nd i j a q1 q2 with y | ⟨xs, y, k⟩ | ⟨xs, y, k⟩
    · exact .inl y
    · exact .inr (.inl ⟨xs, y, k.ev e⟩)
    · exact .inr (.inr ⟨xs, y, k.ev e⟩)
  · obtain ⟨a, q1, q2⟩ := r.at_ i w q
    refine ⟨a, q1, ?_⟩
    by_cases ha : a = p
    · subst ha
      rcases q2.there with z | k
      · exact absurd n z
      · exact (k.ev e).ro
    · exact q2.ne (p := p) e (fun b hb => upd_ne hb) ha
theorem Ev.beside {p : Addr} {o : HO} (n : H p = none) : Ev K ρ H ρ (upd H p o) := ⟨⟨[], (List.append_nil ρ).symm⟩, tups_new n, fun t p hp => tabs_new n _ _ (t p hp), codes_new n, xds_new n⟩
/-- a thing of which nothing is known, numbered -/
theorem RH.opq (r : RH K ρ h H) (p : Addr) (e : Ev K ρ H (ρ ++ [p]) H) : RH K (ρ ++ [p]) (h ++ [.opq]) H := by
  have lt : ∀ {i : Nat} {x : FO}, h[i]? = some x → (h ++ [FO.opq])[i]? = some x := fun {i x} q => by
    rw [List.getElem?_append_left (List.getElem?_eq_some_iff.mp q).1]; exact q
  have last : (h ++ [FO.opq])[ρ.length]? = some .opq := by rw [r.len]; simp
  have cases_ : ∀ i a, (ρ ++ [p])[i]? = some a → (ρ[i]? = some a) ∨ (i = ρ.length ∧ a = p) := fun i a q => by
    by_cases hi : i < ρ.length
    · rw [List.getElem?_append_left hi] at q
      exact .inl q
    · rw [List.getElem?_append_right (by omega)] at q
      have : i - ρ.length = 0 := by
        by_cases z : i - ρ.length = 0
        · exact z
        · rw [List.getElem?_eq_none (by simp; omega)] at q
          cases q
      rw [this] at q
      exact .inr ⟨by omega, (Option.some.inj q).symm⟩
  refine ⟨by rw [List.length_append, List.length_append, r.len]; rfl, fun i j a q1 q2 => ?_, fun i w q => ?_⟩
  · rcases cases_ i a q1 with z1 | ⟨z1, y1⟩
    · rcases cases_ j a q2 with z2 | ⟨z2, y2⟩
      · rcases r.nd i j a z1 z2 with y | ⟨w, y, k⟩ | ⟨w, y, k⟩
        · exact .inl y
        · exact .inr (.inl ⟨w, lt y, k.ev e⟩)
        · exact .inr (.inr ⟨w, lt y, k.ev e⟩)
      · exact .inr (.inr ⟨.opq, by rw [z2]; exact last, trivial⟩)
    · exact .inr (.inl ⟨.opq, by rw [z1]; exact last, trivial⟩)
  · by_cases hi : i < h.length
    · rw [List.getElem?_append_left hi] at q
      obtain ⟨a, q1, q2⟩ := r.at_ i w q
      refine ⟨a, e.get q1, ?_⟩
      by_cases ha : a = p
      · exact RO.ne (p := a + 1) e (fun b hb => rfl) (Nat.ne_of_lt (Nat.lt_succ_self a)) q2
      · exact q2.ne (p := p) e (fun b hb => rfl) ha
    · rw [List.getElem?_append_right (by omega)] at q
      have hz : i - h.length = 0 := by
        by_cases z : i - h.length = 0
        · exact z
        · rw [List.getElem?_eq_none (by simp; omega)] at q
          cases q
      rw [hz] at q
      have hi' : i = ρ.length := by rw [r.len]; omega
      refine ⟨p, by rw [hi']; simp, ?_⟩
      rw [← Option.some.inj q]
      trivial
/-- all but tables stay -/
theorem RH.extN {H' : Hp} (r : RH K ρ h H) (x : LamX.ExtN H H') (e : Ev K ρ H ρ H') : RH K ρ h H' := by
  refine ⟨r.len, fun i j a q1 q2 => ?_, fun i w q => ?_⟩
  · rcases r.nd i j a q1 q2 with y | ⟨w, y, k⟩ | ⟨w, y, k⟩
    · exact .inl y
    · exact .inr (.inl ⟨w, y, k.ev e⟩)
    · exact .inr (.inr ⟨w, y, k.ev e⟩)
  · obtain ⟨a, q1, q2⟩ := r.at_ i w q
    refine ⟨a, q1, ?_⟩
    cases w with
    | lst xs => obtain ⟨vs, z, k⟩ := q2; exact ⟨vs, x _ _ z (fun _ y => nomatch y), k.ev e⟩
    | ro xs =>
      rcases q2 with k | ⟨vs, z | ⟨o, z⟩, k⟩
      · exact .inl (k.ev e)
      · exact .inr ⟨vs, .inl (x _ _ z (fun _ y => nomatch y)), k.ev e⟩
      · exact .inr ⟨vs, .inr ⟨o, x _ _ z (fun _ y => nomatch y)⟩, k.ev e⟩
    | dic kvs => obtain ⟨vs, z, k⟩ := q2; exact ⟨vs, x _ _ z (fun _ y => nomatch y), k.ev e⟩
    | ins C fs => obtain ⟨dx, vs, z, k⟩ := q2; exact ⟨dx, vs, x _ _ z (fun _ y => nomatch y), k.ev e⟩
    | xdo fs =>
      rcases q2 with k | ⟨vs, z, k⟩
      · exact .inl k
      · exact .inr ⟨vs, x _ _ z (fun _ y => nomatch y), k.ev e⟩
    | opq => trivial
end
end FX
set_option maxRecDepth 100000
set_option maxHeartbeats 4000000
namespace FX
open PySem PySem.Spec PyProof.Rows L2
variable [LamT]

/-! ### what follows a result -/
abbrev Rel (α β : Type) := List Addr → Hp → α → β → Prop
def Post {α β : Type} (K : PySem.W.Frag) (W : Wsh) (R : Rel α β) (ρ : List Addr) (H : Hp) (σ : L2.St) (r : Res α) (Q : β → Hp → Prop) : Prop := match r with
  | .ok x h' => ∀ (ρ' : List Addr) (H' : Hp) (v : β), Ev K ρ H ρ' H' → RH K ρ' h' H' → R ρ' H' x v → Q v H'
  | .exc c fs h' => ∀ (ρ' : List Addr) (H' : Hp) (d : Option Addr), Ev K ρ H ρ' H' → RH K ρ' h' H' → XD K ρ' H' fs d → W.w (.ref (xA K c)) d σ H'
  | .stuck => False
theorem Post.at_ {α β : Type} {K : PySem.W.Frag} {W : Wsh} {R : Rel α β} {ρ ρ1 : List Addr} {H H1 : Hp} {σ : L2.St} {r : Res α} {Q : β → Hp → Prop} (p : Post K W R ρ H σ r Q) (e : Ev K ρ H ρ1 H1) : Post K W R ρ1 H1 σ r Q := by
  cases r with
  | ok x h' => exact fun ρ' H' v e' => p ρ' H' v (e.trans e')
  | exc c fs h' => exact fun ρ' H' d e' => p ρ' H' d (e.trans e')
  | stuck => exact p
theorem Post.imp {α β : Type} {K : PySem.W.Frag} {W : Wsh} {R : Rel α β} {ρ : List Addr} {H : Hp} {σ : L2.St} {r : Res α} {Q Q' : β → Hp → Prop} (p : Post K W R ρ H σ r Q) (m : ∀ v H', Q v H' → Q' v H') : Post K W R ρ H σ r Q' := by
  cases r with
  | ok x h' => exact fun ρ' H' v e a b => m _ _ (p ρ' H' v e a b)
  | exc c fs h' => exact p
  | stuck => exact p
/-- a reading by a function -/
def tG {α β : Type} (R : Rel α β) (K : PySem.W.Frag) (W : Wsh) (ev : FSt → FH → Res α) : L2.St → Hp → (β → Hp → Prop) → Prop := fun σ H Q =>
  ∃ (ρ : List Addr) (σf : FSt) (h : FH), RS K W ρ H σf σ ∧ RH K ρ h H ∧ Post K W R ρ H σ (ev σf h) Q
def RB : Rel Bool Bool := fun _ _ a b => a = b
theorem coreE {α β γ δ : Type} {K : PySem.W.Frag} {W : Wsh} {R : Rel γ δ} {R1 : Rel α β} {ρ : List Addr} {H : Hp} {σf : FSt} {σ : L2.St} {h : FH} {ev : FSt → FH → Res α} {k : α → FH → Res γ} {Q : δ → Hp → Prop} {Q1 : β → Hp → Prop}
    (rs : RS K W ρ H σf σ) (rh : RH K ρ h H) (p : Post K W R ρ H σ ((ev σf h).bind k) Q)
    (go : ∀ (ρ1 : List Addr) (H1 : Hp) (h1 : FH) (b : α) (u : β), ev σf h = .ok b h1 → Ev K ρ H ρ1 H1 → RS K W ρ1 H1 σf σ → RH K ρ1 h1 H1 → R1 ρ1 H1 b u → Post K W R ρ1 H1 σ (k b h1) Q → Q1 u H1) : tG R1 K W ev σ H Q1 := by
  refine ⟨ρ, σf, h, rs, rh, ?_⟩

  cases e : ev σf h with
  | ok b h1 =>
    rw [e] at p
    exact fun ρ1 H1 u e1 rh1 r1 => go ρ1 H1 h1 b u e e1 (rs.ev e1) rh1 r1 (Post.at_ (r := k b h1) p e1)
  | exc c fs h1 =>
    rw [e] at p
    exact p
  | stuck =>
    rw [e] at p
    exact p.elim
theorem core {α β γ δ : Type} {K : PySem.W.Frag} {W : Wsh} {R : Rel γ δ} {R1 : Rel α β} {ρ : List Addr} {H : Hp} {σf : FSt} {σ : L2.St} {h : FH} {ev : FSt → FH → Res α} {k : α → FH → Res γ} {Q : δ → Hp → Prop} {Q1 : β → Hp → Prop}
    (rs : RS K W ρ H σf σ) (rh : RH K ρ h H) (p : Post K W R ρ H σ ((ev σf h).bind k) Q)
    (go : ∀ (ρ1 : List Addr) (H1 : Hp) (h1 : FH) (b : α) (u : β), Ev K ρ H ρ1 H1 → RS K W ρ1 H1 σf σ → RH K ρ1 h1 H1 → R1 ρ1 H1 b u → Post K W R ρ1 H1 σ (k b h1) Q → Q1 u H1) : tG R1 K W ev σ H Q1 := coreE rs rh p fun ρ1 H1 h1 b u _ => go ρ1 H1 h1 b u
/-- the last step -/
theorem Post.ok_ {α β : Type} {K : PySem.W.Frag} {W : Wsh} {R : Rel α β} {ρ : List Addr} {H : Hp} {σ : L2.St} {x : α} {h : FH} {Q : β → Hp → Prop} {v : β} (p : Post K W R ρ H σ (.ok x h) Q) (rh : RH K ρ h H) (r : R ρ H x v) : Q v H := p ρ H v .refl rh r

/-! ### judgements -/
abbrev FE (X : Cx) (W : Wsh) (e : Expr) (ev : EvE) : Prop := PE X e (tG (RV X.K) X.K W ev)
abbrev FT (X : Cx) (W : Wsh) (e : Expr) (ev : EvT) : Prop := PT X e (tG RB X.K W ev)
abbrev FW (X : Cx) (W : Wsh) (e : Expr) (ev : EvT) : Prop := PW X e (tG RB X.K W ev)
abbrev FA (X : Cx) (W : Wsh) (es : List Expr) (ev : EvA) : Prop := PA X es (tG (RVs X.K) X.K W ev)
theorem pe_imp {X : Cx} {e : Expr} {t t' : TE} (h : PE X e t) (m : ∀ σ H Q, t' σ H Q → t σ H Q) : PE X e t' := ⟨fun pins s σ H Q I q => h.run pins s σ H Q I (m σ H Q q)⟩
theorem pt_imp {X : Cx} {e : Expr} {t t' : TT} (h : PT X e t) (m : ∀ σ H Q, t' σ H Q → t σ H Q) : PT X e t' := ⟨fun pins s σ H Q I q => h.run pins s σ H Q I (m σ H Q q)⟩
theorem pw_imp {X : Cx} {e : Expr} {t t' : TT} (h : PW X e t) (m : ∀ σ H Q, t' σ H Q → t σ H Q) : PW X e t' := ⟨fun wh pins s σ H Q I q => h.run wh pins s σ H Q I (m σ H Q q)⟩
theorem pa_imp {X : Cx} {es : List Expr} {t t' : TA} (h : PA X es t) (m : ∀ σ H Q, t' σ H Q → t σ H Q) : PA X es t' := ⟨fun pos pins s σ H Q I q => h.run pos pins s σ H Q I (m σ H Q q)⟩
theorem ps_imp {X : Cx} {st : Stmt} {t t' : TS} (h : PS X st t) (m : ∀ D σ H, t' D σ H → t D σ H) : PS X st t' := ⟨fun pins s σ H D I q => h.run pins s σ H D I (m D σ H q)⟩
theorem pss_imp {X : Cx} {st : List Stmt} {t t' : TS} (h : PSs X st t) (m : ∀ D σ H, t' D σ H → t D σ H) : PSs X st t' := ⟨fun pins s σ H D I q => h.run pins s σ H D I (m D σ H q)⟩

/-! ### names, constants -/
def cVar (i : Nat) : EvE := fun σ h => match σ[i]? with
  | some (some v) => .ok v h
  | _ => .stuck
def cC (v : FV) : EvE := fun _ h => .ok v h
section
variable {X : Cx} {W : Wsh} {a b e : Expr} {es : List Expr} {ea eb : EvE} {pos : Pos}
theorem fe_var (i : Nat) {x : Str} (hN : X.N[i]? = some x := by rfl) (hv : Vis X.env.scope x := by first | exact Or.inl rfl | exact Or.inr (Or.inl rfl) | exact Or.inr (Or.inr rfl)) (hd : (x == ("__debug__" : Str)) = false := by decide)
    (hcd : (x == ("__classdict__" : Str)) = false := by decide) : FE X W (.Name x pos) (cVar i) := by
  refine pe_imp (pe_var hN hv hd hcd) fun σ H Q ⟨ρ, σf, h, rs, rh, p⟩ => ?_
  unfold cVar at p
  split at p
  · rename_i v q
    obtain ⟨u, q1, r⟩ := rs.at_ i v q
    exact ⟨u, q1, p.ok_ rh r⟩
  · exact p.elim
theorem fe_int {i : Int} {j : Nat} : FE X W (.Constant (.int i) j pos) (cC (.int i)) := pe_imp pe_int fun σ H Q ⟨ρ, σf, h, rs, rh, p⟩ => Post.ok_ (x := FV.int i) p rh (.int i)
theorem fe_bl {i : Bool} {j : Nat} : FE X W (.Constant (.bool i) j pos) (cC (.bl i)) := pe_imp pe_bl fun σ H Q ⟨ρ, σf, h, rs, rh, p⟩ => Post.ok_ (x := FV.bl i) p rh (.bl i)
theorem fe_non {j : Nat} : FE X W (.Constant .none j pos) (cC .non) := pe_imp pe_non fun σ H Q ⟨ρ, σf, h, rs, rh, p⟩ => Post.ok_ (x := FV.non) p rh .non
theorem fe_str {i : Str} {j : Nat} : FE X W (.Constant (.str i) j pos) (cC (.str i)) := pe_imp pe_str fun σ H Q ⟨ρ, σf, h, rs, rh, p⟩ => Post.ok_ (x := FV.str i) p rh (.str i)

/-! ### arguments -/
def cNil : EvA := fun _ h => .ok [] h
def cCons (ea : EvE) (er : EvA) : EvA := fun σ h => (ea σ h).bind fun x h1 => (er σ h1).bind fun xs h2 => .ok (x :: xs) h2
theorem fa_nil : FA X W [] cNil := pa_imp pa_nil fun σ H Q ⟨ρ, σf, h, rs, rh, p⟩ => Post.ok_ (x := ([] : List FV)) p rh .nil
theorem fa_cons {er : EvA} (ha : FE X W e ea) (hr : FA X W es er) (hs : starEach (e :: es) X.env = (false, eval e X.env) :: starEach es X.env := by rfl) : FA X W (e :: es) (cCons ea er) := by
  refine pa_imp (pa_cons ha hr hs) fun σ H Q ⟨ρ, σf, h, rs, rh, p⟩ => ?_
  refine core rs rh p fun ρ1 H1 h1 x v e1 rs1 rh1 r1 p1 => ?_
  refine core rs1 rh1 p1 fun ρ2 H2 h2 xs vs e2 rs2 rh2 r2 p2 => ?_
  exact Post.ok_ p2 rh2 (.cons (r1.ev e2) r2)

/-! ### operators by values -/
abbrev Op2 := FV → FV → FH → Option (FV × FH)
def Res.of {α : Type} : Option (α × FH) → Res α
  | some (x, h) => .ok x h
  | none => .stuck
def rF (K : PySem.W.Frag) (g : Op2) : R2 := fun x y H Q => ∃ (ρ : List Addr) (fx fy : FV) (h : FH) (fz : FV) (h' : FH), RV K ρ H fx x ∧ RV K ρ H fy y ∧ RH K ρ h H ∧ g fx fy h = some (fz, h') ∧
  ∀ (ρ' : List Addr) (H' : Hp) (v : V), Ev K ρ H ρ' H' → RH K ρ' h' H' → RV K ρ' H' fz v → Q v H'
def cBin (g : Op2) (ea eb : EvE) : EvE := fun σ h => (ea σ h).bind fun x h1 => (eb σ h1).bind fun y h2 => Res.of (g x y h2)
theorem rF_of {K : PySem.W.Frag} {g : Op2} {ρ : List Addr} {H : Hp} {σ : L2.St} {x y : FV} {u v : V} {h : FH} {Q : VK} (p : Post K W (RV K) ρ H σ (Res.of (g x y h)) Q) (rh : RH K ρ h H) (rx : RV K ρ H x u) (ry : RV K ρ H y v) : rF K g u v H Q := by
  cases q : g x y h with
  | none =>
    rw [q] at p
    exact p.elim
  | some z =>
    obtain ⟨z, h'⟩ := z
    rw [q] at p
    exact ⟨ρ, x, y, h, z, h', rx, ry, rh, q, p⟩
theorem tOp_of {g : Op2} {σ : L2.St} {H : Hp} {Q : VK} (h : tG (RV X.K) X.K W (cBin g ea eb) σ H Q) : tOp (rF X.K g) (tG (RV X.K) X.K W ea) (tG (RV X.K) X.K W eb) σ H Q := by
  obtain ⟨ρ, σf, h, rs, rh, p⟩ := h
  refine core rs rh p fun ρ1 H1 h1 x u e1 rs1 rh1 r1 p1 => ?_
  refine core rs1 rh1 p1 fun ρ2 H2 h2 y v e2 rs2 rh2 r2 p2 => ?_
  exact rF_of p2 rh2 (r1.ev e2) r2
theorem fe_bin {op : Operator} {g : Op2} (ho : OpR X (binaryOp op) (rF X.K g)) (ha : FE X W a ea) (hb : FE X W b eb) : FE X W (.BinOp a op b pos) (cBin g ea eb) := pe_imp (pe_op ho ha hb) fun _ _ _ h => tOp_of h
theorem fe_cmp {op : CmpOp} {g : Op2} (ho : OpR X (compareOp op) (rF X.K g)) (ha : FE X W a ea) (hb : FE X W b eb) (hm : behindInMarks op b = false := by first | exact nomark _ | rfl) : FE X W (.Compare a [op] [b] pos) (cBin g ea eb) :=
  pe_imp (pe_cmpR ho ha hb hm) fun _ _ _ h => tOp_of h
/-- one of two rules, by the values -/
theorem fe_two {g : Op2} {r1 r2 : R2} {t1 t2 : TE} (sel : FV → FV → FH → Bool) (p1 : PE X e t1) (p2 : PE X e t2) (m1 : ∀ σ H Q, tOp r1 (tG (RV X.K) X.K W ea) (tG (RV X.K) X.K W eb) σ H Q → t1 σ H Q) (m2 : ∀ σ H Q, tOp r2 (tG (RV X.K) X.K W ea) (tG (RV X.K) X.K W eb) σ H Q → t2 σ H Q)
    (w1 : ∀ fx fy h z x y (H : Hp) (ρ : List Addr) (Q : VK), sel fx fy h = true → g fx fy h = some z → RV X.K ρ H fx x → RV X.K ρ H fy y → RH X.K ρ h H → (∀ (ρ' : List Addr) (H' : Hp) (v : V), Ev X.K ρ H ρ' H' → RH X.K ρ' z.2 H' → RV X.K ρ' H' z.1 v → Q v H') → r1 x y H Q)
    (w2 : ∀ fx fy h z x y (H : Hp) (ρ : List Addr) (Q : VK), sel fx fy h = false → g fx fy h = some z → RV X.K ρ H fx x → RV X.K ρ H fy y → RH X.K ρ h H → (∀ (ρ' : List Addr) (H' : Hp) (v : V), Ev X.K ρ H ρ' H' → RH X.K ρ' z.2 H' → RV X.K ρ' H' z.1 v → Q v H') → r2 x y H Q) :
    FE X W e (cBin g ea eb) := by
  refine ⟨fun pins s σ H Q I ⟨ρ, σf, h, rs, rh, p⟩ => ?_⟩
  have go : ∀ (r : R2), (∀ fx h1 fy h2, ea σf h = .ok fx h1 → eb σf h1 = .ok fy h2 → ∀ z x y (H : Hp) (ρ : List Addr) (Q : VK), g fx fy h2 = some z → RV X.K ρ H fx x → RV X.K ρ H fy y → RH X.K ρ h2 H → (∀ (ρ' : List Addr) (H' : Hp) (v : V), Ev X.K ρ H ρ' H' → RH X.K ρ' z.2 H' → RV X.K ρ' H' z.1 v → Q v H') → r x y H Q) →
      tOp r (tG (RV X.K) X.K W ea) (tG (RV X.K) X.K W eb) σ H Q := fun r w => by
    refine coreE (R1 := RV X.K) rs rh p fun ρ1 H1 h1 x u q1 e1 rs1 rh1 r1 p1 => ?_
    refine coreE (R1 := RV X.K) rs1 rh1 p1 fun ρ2 H2 h2 y v q2 e2 rs2 rh2 r2 p2 => ?_
    cases q : g x y h2 with
    | none =>
      rw [q] at p2
      exact p2.elim
    | some z =>
      rw [q] at p2
      exact w x h1 y h2 q1 q2 z u v H2 ρ2 Q q (r1.ev e2) r2 rh2 p2
  by_cases c : ∃ fx h1 fy h2, ea σf h = .ok fx h1 ∧ eb σf h1 = .ok fy h2 ∧ sel fx fy h2 = false
  · obtain ⟨fx, h1, fy, h2, c1, c2, c3⟩ := c
    refine p2.run pins s σ H Q I (m2 σ H Q (go r2 fun fx' h1' fy' h2' q1 q2 z x y H ρ Q gz => ?_))
    rw [c1] at q1
    cases q1
    rw [c2] at q2
    cases q2
    exact w2 _ _ _ z x y H ρ Q c3 gz
  · refine p1.run pins s σ H Q I (m1 σ H Q (go r1 fun fx' h1' fy' h2' q1 q2 z x y H ρ Q gz => w1 _ _ _ z x y H ρ Q ?_ gz))
    cases s3 : sel fx' fy' h2' with
    | true => rfl
    | false => exact absurd ⟨_, _, _, _, q1, q2, s3⟩ c
/-- a bool, as a test -/
def cTb (ea : EvE) : EvT := fun σ h => (ea σ h).bind fun x h1 => match x with
  | .bl b => .ok b h1
  | _ => .stuck
theorem tTest_of {t : TE} {ev : EvE} {σ : L2.St} {H : Hp} {Q : Bool → Hp → Prop} (ht : ∀ σ H Q, tG (RV X.K) X.K W ev σ H Q → t σ H Q) (h : tG RB X.K W (cTb ev) σ H Q) : tTest t σ H Q := by
  obtain ⟨ρ, σf, h, rs, rh, p⟩ := h
  refine ht σ H _ (core rs rh p fun ρ1 H1 h1 x u e1 rs1 rh1 r1 p1 => ?_)
  cases x with
  | bl b =>
    cases r1
    exact ⟨b, rfl, Post.ok_ (R := RB) p1 rh1 rfl⟩
  | _ => exact p1.elim
theorem ft_cmp {op : CmpOp} {g : Op2} (ho : OpR X (compareOp op) (rF X.K g)) (ha : FE X W a ea) (hb : FE X W b eb) (hm : behindInMarks op b = false := by first | exact nomark _ | rfl) : FT X W (.Compare a [op] [b] pos) (cTb (cBin g ea eb)) :=
  pt_imp (pt_cmpR ho ha hb hm) fun _ _ _ h => tTest_of (fun _ _ _ z => tOp_of z) h
/-- a < b < c -/
def cChain (g g' : Op2) (ea eb ec : EvE) : EvE := fun σ h => (ea σ h).bind fun x h1 => (eb σ h1).bind fun y h2 => (Res.of (g x y h2)).bind fun k h3 => match k with
  | .bl true => (ec σ h3).bind fun z h4 => Res.of (g' y z h4)
  | .bl false => .ok (.bl false) h3
  | _ => .stuck
theorem tChain_of {c : Expr} {ec : EvE} {g g' : Op2} {σ : L2.St} {H : Hp} {Q : VK} (h : tG (RV X.K) X.K W (cChain g g' ea eb ec) σ H Q) : tChain (rF X.K g) (rF X.K g') (tG (RV X.K) X.K W ea) (tG (RV X.K) X.K W eb) (tG (RV X.K) X.K W ec) σ H Q := by
  obtain ⟨ρ, σf, h, rs, rh, p⟩ := h
  refine core rs rh p fun ρ1 H1 h1 x u e1 rs1 rh1 r1 p1 => ?_
  refine core rs1 rh1 p1 fun ρ2 H2 h2 y v e2 rs2 rh2 r2 p2 => ?_
  cases q : g x y h2 with
  | none =>
    rw [q] at p2
    exact p2.elim
  | some z =>
    obtain ⟨z, h3⟩ := z
    rw [q] at p2
    refine ⟨ρ2, x, y, h2, z, h3, r1.ev e2, r2, rh2, q, fun ρ3 H3 w e3 rh3 r3 => ?_⟩
    cases z with
    | bl k =>
      cases r3
      cases k with
      | true =>
        refine ⟨true, rfl, ?_⟩
        rw [if_pos rfl]
        refine core (rs2.ev e3) rh3 (p2.at_ e3) fun ρ4 H4 h4 z' u4 e4 rs4 rh4 r4 p4 => ?_
        exact rF_of p4 rh4 ((r2.ev e3).ev e4) r4
      | false =>
        refine ⟨false, rfl, ?_⟩
        rw [if_neg Bool.false_ne_true]
        exact Post.ok_ (x := FV.bl false) (p2.at_ e3) rh3 (.bl false)
    | _ => exact p2.elim
theorem fe_chain {c : Expr} {ec : EvE} {op op' : CmpOp} {g g' : Op2} (ho : OpR X (compareOp op) (rF X.K g)) (ho' : OpR X (compareOp op') (rF X.K g')) (ha : FE X W a ea) (hb : FE X W b eb) (hc : FE X W c ec) (hm : lastMarks [op, op'] [b, c] = false := by rfl) :
    FE X W (.Compare a [op, op'] [b, c] pos) (cChain g g' ea eb ec) := pe_imp (pe_chain ho ho' ha hb hc hm) fun _ _ _ h => tChain_of (c := c) h
theorem ft_chain {c : Expr} {ec : EvE} {op op' : CmpOp} {g g' : Op2} (ho : OpR X (compareOp op) (rF X.K g)) (ho' : OpR X (compareOp op') (rF X.K g')) (ha : FE X W a ea) (hb : FE X W b eb) (hc : FE X W c ec) (hm : lastMarks [op, op'] [b, c] = false := by rfl) :
    FT X W (.Compare a [op, op'] [b, c] pos) (cTb (cChain g g' ea eb ec)) := pt_imp (pt_chain ho ho' ha hb hc hm) fun σ H Q h => tTest_of (t := tChain (rF X.K g) (rF X.K g') (tG (RV X.K) X.K W ea) (tG (RV X.K) X.K W eb) (tG (RV X.K) X.K W ec)) (fun _ _ _ z => tChain_of (c := c) z) h

/-! ### and, or, not, if -/
def cAndT (ta tb : EvT) : EvT := fun σ h => (ta σ h).bind fun b h1 => if b = true then tb σ h1 else .ok false h1
def cOrT (ta tb : EvT) : EvT := fun σ h => (ta σ h).bind fun b h1 => if b = true then .ok true h1 else tb σ h1
def cNotT (ta : EvT) : EvT := fun σ h => (ta σ h).bind fun b h1 => .ok (!b) h1
section
variable {ta tb : EvT} {rest : List Expr}
theorem fw_and1 (ha : FT X W a ta) : FW X W (.BoolOp .And [a] pos) ta := pw_and1 ha
theorem fw_or1 (ha : FT X W a ta) : FW X W (.BoolOp .Or [a] pos) ta := pw_or1 ha
theorem fw_and (ha : FT X W a ta) (hb : FW X W (.BoolOp .And (b :: rest) pos) tb) : FW X W (.BoolOp .And (a :: b :: rest) pos) (cAndT ta tb) := by
  refine pw_imp (pw_and ha hb) fun σ H Q ⟨ρ, σf, h, rs, rh, p⟩ => ?_
  refine core (R1 := RB) rs rh p fun ρ1 H1 h1 x u e1 rs1 rh1 r1 p1 => ?_
  cases r1
  cases x with
  | true => exact ⟨ρ1, σf, h1, rs1, rh1, p1⟩
  | false => exact Post.ok_ (R := RB) p1 rh1 rfl
theorem fw_or (ha : FT X W a ta) (hb : FW X W (.BoolOp .Or (b :: rest) pos) tb) : FW X W (.BoolOp .Or (a :: b :: rest) pos) (cOrT ta tb) := by
  refine pw_imp (pw_or ha hb) fun σ H Q ⟨ρ, σf, h, rs, rh, p⟩ => ?_
  refine core (R1 := RB) rs rh p fun ρ1 H1 h1 x u e1 rs1 rh1 r1 p1 => ?_
  cases r1
  cases x with
  | false => exact ⟨ρ1, σf, h1, rs1, rh1, p1⟩
  | true => exact Post.ok_ (R := RB) p1 rh1 rfl
theorem ft_w (h : FW X W e ta) : FT X W e ta := h.pt
theorem ft_not (ha : FT X W a ta) : FT X W (.UnaryOp .Not a pos) (cNotT ta) := by
  refine pt_imp (pt_not ha) fun σ H Q ⟨ρ, σf, h, rs, rh, p⟩ => ?_
  refine core (R1 := RB) rs rh p fun ρ1 H1 h1 x u e1 rs1 rh1 r1 p1 => ?_
  cases r1
  exact Post.ok_ (R := RB) p1 rh1 rfl
def cIf (tc : EvT) (ea eb : EvE) : EvE := fun σ h => (tc σ h).bind fun k h1 => if k = true then ea σ h1 else eb σ h1
theorem fe_ifExp {c : Expr} {tc : EvT} (hc : FT X W c tc) (ha : FE X W a ea) (hb : FE X W b eb) : FE X W (.IfExp c a b pos) (cIf tc ea eb) := by
  refine pe_imp (pe_ifExp hc ha hb) fun σ H Q ⟨ρ, σf, h, rs, rh, p⟩ => ?_
  refine core (R1 := RB) rs rh p fun ρ1 H1 h1 x u e1 rs1 rh1 r1 p1 => ?_
  cases r1
  cases x with
  | true => exact ⟨ρ1, σf, h1, rs1, rh1, p1⟩
  | false => exact ⟨ρ1, σf, h1, rs1, rh1, p1⟩
/-- as values, all but the last bools -/
def cAnd (ea eb : EvE) : EvE := fun σ h => (ea σ h).bind fun x h1 => match x with
  | .bl true => eb σ h1
  | .bl false => .ok (.bl false) h1
  | _ => .stuck
def cOr (ea eb : EvE) : EvE := fun σ h => (ea σ h).bind fun x h1 => match x with
  | .bl false => eb σ h1
  | .bl true => .ok (.bl true) h1
  | _ => .stuck
def cNot (ea : EvE) : EvE := fun σ h => (ea σ h).bind fun x h1 => match x with
  | .bl b => .ok (.bl (!b)) h1
  | _ => .stuck
theorem fe_one {op : BoolOp} (ha : FE X W a ea) : FE X W (.BoolOp op [a] pos) ea := pe_one ha
theorem fe_and (ha : FE X W a ea) (hb : FE X W (.BoolOp .And (b :: rest) pos) eb) : FE X W (.BoolOp .And (a :: b :: rest) pos) (cAnd ea eb) := by
  refine pe_imp (pe_and ha hb) fun σ H Q ⟨ρ, σf, h, rs, rh, p⟩ => ?_
  refine core rs rh p fun ρ1 H1 h1 x u e1 rs1 rh1 r1 p1 => ?_
  cases x with
  | bl k =>
    cases r1
    cases k with
    | true => exact ⟨true, rfl, ρ1, σf, h1, rs1, rh1, p1⟩
    | false => exact ⟨false, rfl, Post.ok_ (x := FV.bl false) p1 rh1 (.bl false)⟩
  | _ => exact p1.elim
theorem fe_or (ha : FE X W a ea) (hb : FE X W (.BoolOp .Or (b :: rest) pos) eb) : FE X W (.BoolOp .Or (a :: b :: rest) pos) (cOr ea eb) := by
  refine pe_imp (pe_or ha hb) fun σ H Q ⟨ρ, σf, h, rs, rh, p⟩ => ?_
  refine core rs rh p fun ρ1 H1 h1 x u e1 rs1 rh1 r1 p1 => ?_
  cases x with
  | bl k =>
    cases r1
    cases k with
    | false => exact ⟨false, rfl, ρ1, σf, h1, rs1, rh1, p1⟩
    | true => exact ⟨true, rfl, Post.ok_ (x := FV.bl true) p1 rh1 (.bl true)⟩
  | _ => exact p1.elim
theorem fe_not (ha : FE X W a ea) : FE X W (.UnaryOp .Not a pos) (cNot ea) := by
  refine pe_imp (pe_not ha) fun σ H Q ⟨ρ, σf, h, rs, rh, p⟩ => ?_
  refine core rs rh p fun ρ1 H1 h1 x u e1 rs1 rh1 r1 p1 => ?_
  cases x with
  | bl k =>
    cases r1
    exact ⟨k, rfl, Post.ok_ (x := FV.bl (!k)) p1 rh1 (.bl _)⟩
  | _ => exact p1.elim
end

/-! ### truth -/
def truF : FV → FH → Option Bool
  | .non, _ => some false
  | .bl b, _ => some b
  | .int i, _ => some (i != 0)
  | .str y, _ => if y.length ≤ sizeLine then some ((y.length : Int) != 0) else none
  | .tup xs, _ => some !xs.isEmpty
  | .ref n, h => match h[n]? with
    | some (.lst xs) => some !xs.isEmpty
    | some (.dic kvs) => some !kvs.isEmpty
    | _ => none
  | _, _ => none
theorem RVs.empty {K : PySem.W.Frag} {ρ : List Addr} {H : Hp} : ∀ {xs : List FV} {vs : List V}, RVs K ρ H xs vs → xs.isEmpty = vs.isEmpty
  | _, _, .nil => rfl
  | _, _, .cons _ _ => rfl
theorem RK.empty {K : PySem.W.Frag} {ρ : List Addr} {H : Hp} {κ : Type} : ∀ {xs : List (κ × FV)} {vs : List (κ × V)}, RK K ρ H xs vs → xs.isEmpty = vs.isEmpty
  | _, _, .nil => rfl
  | _, _, .cons _ _ => rfl
theorem RH.ref {K : PySem.W.Frag} {ρ : List Addr} {h : FH} {H : Hp} (rh : RH K ρ h H) {n : Nat} {o : FO} {a : Addr} (e : h[n]? = some o) (q : ρ[n]? = some a) : RO K ρ H a o := by
  obtain ⟨b, q1, q2⟩ := rh.at_ n o e
  rw [q] at q1
  cases q1
  exact q2
theorem truV_of {K : PySem.W.Frag} {ρ : List Addr} {h : FH} {H : Hp} {x : FV} {v : V} {k : Bool} (rh : RH K ρ h H) (r : RV K ρ H x v) (e : truF x h = some k) : TruV K v H k := by
  cases r with
  | non => exact (Option.some.inj e).symm
  | bl b => exact (Option.some.inj e).symm
  | int i => exact (Option.some.inj e).symm
  | str y =>
    simp only [truF] at e
    split at e
    · rename_i z
      exact ⟨z, (Option.some.inj e).symm⟩
    · cases e
  | tup s rs =>
    refine .inr (.inl ⟨_, s, ?_⟩)
    rw [← rs.empty]
    exact (Option.some.inj e).symm
  | ref q =>
    simp only [truF] at e
    split at e
    · rename_i xs z
      obtain ⟨vs, q1, q2⟩ := rh.ref z q
      refine .inl ⟨vs, .of q1, ?_⟩
      rw [← q2.empty]
      exact (Option.some.inj e).symm
    · rename_i kvs z
      obtain ⟨vs, q1, q2⟩ := rh.ref z q
      refine .inr (.inr ⟨vs, q1, ?_⟩)
      rw [← q2.empty]
      exact (Option.some.inj e).symm
    · cases e
  | cls c => cases e
  | ty n => cases e
def cTru (ea : EvE) : EvT := fun σ h => (ea σ h).bind fun x h1 => match truF x h1 with
  | some b => .ok b h1
  | none => .stuck
theorem ft_val (ha : FE X W a ea) (he : ∀ whole, isTrue a X.env whole = (do let v ← whole; standAt a.pos; holding [v] (truthy v)) := by intro _; rfl) : FT X W a (cTru ea) := by
  refine pt_imp (pt_truth ha he) fun σ H Q ⟨ρ, σf, h, rs, rh, p⟩ => ?_
  refine core rs rh p fun ρ1 H1 h1 x u e1 rs1 rh1 r1 p1 => ?_
  cases q : truF x h1 with
  | none =>
    rw [q] at p1
    exact p1.elim
  | some k =>
    rw [q] at p1
    exact ⟨k, truV_of rh1 r1 q, Post.ok_ (R := RB) p1 rh1 rfl⟩
end
end FX
set_option maxRecDepth 100000
set_option maxHeartbeats 4000000
namespace FX
open PySem PySem.Spec PyProof.Rows L2
variable [LamT]

/-! ### sizes of numbers -/
def BIG : Nat := 2 ^ 8000
theorem big_of {n : Nat} (h : n ≤ 10 ^ 2000) : n < BIG := Nat.lt_of_le_of_lt h (by unfold BIG; decide +kernel)
def sm (i : Int) : Bool := decide (i.natAbs < BIG)
theorem sm_log {i : Int} (h : sm i = true) : i.natAbs.log2 < 8001 := by
  have h1 : i.natAbs < 2 ^ 8000 := of_decide_eq_true h
  by_cases z : i.natAbs = 0
  · rw [z]; decide
  · have := (Nat.log2_lt z).mpr h1
    omega

/-! ### what is read -/
def seqF : FV → FH → Option (List FV)
  | .tup xs, _ => some xs
  | .ref n, h => match h[n]? with
    | some (.lst xs) => some xs
    | some (.ro xs) => some xs
    | _ => none
  | _, _ => none
section
variable {K : PySem.W.Frag} {ρ : List Addr} {h : FH} {H : Hp}
theorem ro_sq {a : Addr} {xs : List FV} (r : RO K ρ H a (.ro xs)) : ∃ vs, SqL K H a vs ∧ RVs K ρ H xs vs := by
  rcases r with ⟨vs, q, r⟩ | ⟨vs, q, r⟩
  · exact ⟨vs, .inr q, r⟩
  · exact ⟨vs, .inl q, r⟩
theorem seqF_of (rh : RH K ρ h H) {x : FV} {v : V} {xs : List FV} (r : RV K ρ H x v) (e : seqF x h = some xs) : ∃ a vs, v = .ref a ∧ (SqL K H a vs ∨ SqT K H a vs) ∧ RVs K ρ H xs vs := by
  cases r with
  | tup s rs =>
    cases e
    exact ⟨_, _, rfl, .inr s, rs⟩
  | ref q =>
    simp only [seqF] at e
    split at e
    · rename_i ys z
      cases e
      obtain ⟨vs, q1, q2⟩ := rh.ref z q
      exact ⟨_, vs, rfl, .inl (.of q1), q2⟩
    · rename_i ys z
      cases e
      obtain ⟨vs, q1, q2⟩ := ro_sq (rh.ref z q)
      exact ⟨_, vs, rfl, .inl q1, q2⟩
    · cases e
  | _ => cases e
/-- a list that may be written -/
theorem lst_of (rh : RH K ρ h H) {n : Nat} {a : Addr} {xs : List FV} (q : ρ[n]? = some a) (e : h[n]? = some (.lst xs)) : ∃ vs, H a = some (.lst vs) ∧ RVs K ρ H xs vs := rh.ref e q
theorem RVs.len' {xs : List FV} {vs : List V} (r : RVs K ρ H xs vs) : vs.length = xs.length := r.len.symm

/-! ### data at any depth -/
def datF (h : FH) : Nat → FV → Option PyData
  | 0, _ => none
  | n + 1, v => match v with
    | .non => some .none
    | .bl b => some (.bool b)
    | .int i => some (.int i)
    | .str x => if PyData.strOk x = true then some (.str x) else none
    | .tup xs => (xs.mapM (datF h n)).map .tuple
    | .ref k => match h[k]? with
      | some (.lst xs) => (xs.mapM (datF h n)).map .list
      | some (.ro xs) => (xs.mapM (datF h n)).map .list
      | _ => none
    | _ => none
theorem mapM_cons {α β : Type} {f : α → Option β} {x : α} {xs : List α} {ds : List β} (e : (x :: xs).mapM f = some ds) : ∃ d r, ds = d :: r ∧ f x = some d ∧ xs.mapM f = some r := by
  rw [List.mapM_cons] at e
  cases q : f x with
  | none => rw [q] at e; cases e
  | some d =>
    rw [q] at e
    cases q2 : xs.mapM f with
    | none => rw [q2] at e; cases e
    | some r =>
      rw [q2] at e
      cases e
      exact ⟨d, r, rfl, rfl, rfl⟩
theorem mapM_nil {α β : Type} {f : α → Option β} {ds : List β} (e : ([] : List α).mapM f = some ds) : ds = [] := by
  rw [List.mapM_nil] at e
  cases e
  rfl
theorem datF_dp (rh : RH K ρ h H) : ∀ (n : Nat) {x : FV} {v : V} {d : PyData}, RV K ρ H x v → datF h n x = some d → Dp K H v d ∧ d.canLay0 = true ∧ d.depth ≤ n := by
  intro n
  induction n with
  | zero => intro x v d r e; cases e
  | succ n ih =>
    have all : ∀ (xs : List FV) (vs : List V) (ds : List PyData), RVs K ρ H xs vs → xs.mapM (datF h n) = some ds → DpAll K H vs ds ∧ PyData.canLayAll0 ds = true ∧ PyData.depthAll ds ≤ n := by
      intro xs
      induction xs with
      | nil =>
        intro vs ds r e
        cases r
        cases mapM_nil e
        exact ⟨.nil, by simp only [PyData.canLayAll0], by simp only [PyData.depthAll]; omega⟩
      | cons x xs ihx =>
        intro vs ds r e
        cases r with
        | cons r1 r2 =>
          obtain ⟨d, rr, rfl, q1, q2⟩ := mapM_cons e
          obtain ⟨a1, a2, a3⟩ := ih r1 q1
          obtain ⟨b1, b2, b3⟩ := ihx _ _ r2 q2
          exact ⟨.cons a1 b1, by simp only [PyData.canLayAll0, a2, b2]; rfl, by simp only [PyData.depthAll]; omega⟩
    intro x v d r e
    cases r with
    | non => cases e; exact ⟨.non, by simp only [PyData.canLay0], by simp only [PyData.depth]; omega⟩
    | bl b => cases e; exact ⟨.bl b, by simp only [PyData.canLay0], by simp only [PyData.depth]; omega⟩
    | int i => cases e; exact ⟨.int i, by simp only [PyData.canLay0], by simp only [PyData.depth]; omega⟩
    | str y =>
      simp only [datF] at e
      split at e
      · rename_i z
        cases e
        exact ⟨.str y, by simpa only [PyData.canLay0] using z, by simp only [PyData.depth]; omega⟩
      · cases e
    | tup s rs =>
      simp only [datF] at e
      obtain ⟨ds, q, rfl⟩ := Option.map_eq_some_iff.mp e
      obtain ⟨a1, a2, a3⟩ := all _ _ _ rs q
      exact ⟨.tup s a1, by simpa only [PyData.canLay0] using a2, by simp only [PyData.depth]; omega⟩
    | ref q =>
      simp only [datF] at e
      split at e
      · rename_i xs z
        obtain ⟨ds, q3, rfl⟩ := Option.map_eq_some_iff.mp e
        obtain ⟨vs, q1, q2⟩ := rh.ref z q
        obtain ⟨a1, a2, a3⟩ := all _ _ _ q2 q3
        exact ⟨.lst (.of q1) a1, by simpa only [PyData.canLay0] using a2, by simp only [PyData.depth]; omega⟩
      · rename_i xs z
        obtain ⟨ds, q3, rfl⟩ := Option.map_eq_some_iff.mp e
        obtain ⟨vs, q1, q2⟩ := ro_sq (rh.ref z q)
        obtain ⟨a1, a2, a3⟩ := all _ _ _ q2 q3
        exact ⟨.lst q1 a1, by simpa only [PyData.canLay0] using a2, by simp only [PyData.depth]; omega⟩
      · cases e
    | cls c => cases e
    | ty n => cases e
/-- as deep as is looked -/
def DEEP : Nat := 60
theorem shaped_of {d : PyData} (a : d.canLay0 = true) (b : d.depth ≤ DEEP) : SeqAt.shaped d = true := by
  unfold SeqAt.shaped
  rw [a, Bool.true_and]
  unfold DEEP at b
  exact decide_eq_true (by omega)
end

/-! ### the operators -/
def addF : Op2 := fun x y h => match x, y with
  | .int i, .int j => some (.int (i + j), h)
  | .str i, .str j => if i.length + j.length ≤ sizeLine then some (.str (i ++ j), h) else none
  | .tup xs, .tup ys => if xs.length + ys.length ≤ sizeLine then some (.tup (xs ++ ys), h) else none
  | .ref n, .ref m => match h[n]?, h[m]? with
    | some (.lst xs), some (.lst ys) => if xs.length + ys.length ≤ sizeLine then some (.ref h.length, h ++ [.lst (xs ++ ys)]) else none
    | _, _ => none
  | _, _ => none
def subF : Op2 := fun x y h => match x, y with
  | .int i, .int j => some (.int (i - j), h)
  | _, _ => none
def mulF : Op2 := fun x y h => match x, y with
  | .int i, .int j => if (sm i && sm j) = true then some (.int (i * j), h) else none
  | .ref n, .int k => match h[n]? with
    | some (.lst xs) => if -(2 ^ 63) ≤ k ∧ k < 2 ^ 63 ∧ xs.length * k.toNat ≤ sizeLine then some (.ref h.length, h ++ [.lst (List.replicate k.toNat xs).flatten]) else none
    | _ => none
  | _, _ => none
def divF : Op2 := fun x y h => match x, y with
  | .int i, .int j => if j ≠ 0 ∧ sm j = true then some (.int (i.fdiv j), h) else none
  | _, _ => none
def modF : Op2 := fun x y h => match x, y with
  | .int i, .int j => if j ≠ 0 then some (.int (i.fmod j), h) else none
  | _, _ => none
def powF : Op2 := fun x y h => match x, y with
  | .int i, .int j => if 0 ≤ j ∧ j ≤ 1000000 ∧ i.natAbs < 2 ^ 64 then some (.int (i ^ j.toNat), h) else none
  | _, _ => none
def eqF : Op2 := fun x y h => match datF h DEEP x, datF h DEEP y with
  | some d, some e => some (.bl (PyData.eqv d e), h)
  | _, _ => none
def neF : Op2 := fun x y h => match datF h DEEP x, datF h DEEP y with
  | some d, some e => some (.bl (!PyData.eqv d e), h)
  | _, _ => none
def ltF : Op2 := fun x y h => match x, y with
  | .int i, .int j => some (.bl (decide (i < j)), h)
  | _, _ => none
def leF : Op2 := fun x y h => match x, y with
  | .int i, .int j => some (.bl (decide (i ≤ j)), h)
  | _, _ => none
def gtF : Op2 := fun x y h => match x, y with
  | .int i, .int j => some (.bl (decide (j < i)), h)
  | _, _ => none
def geF : Op2 := fun x y h => match x, y with
  | .int i, .int j => some (.bl (decide (j ≤ i)), h)
  | _, _ => none
def isNon : FV → Bool
  | .non => true
  | _ => false
def isF : Op2 := fun x y h => match y with
  | .non => some (.bl (isNon x), h)
  | _ => none
def isnF : Op2 := fun x y h => match y with
  | .non => some (.bl (!isNon x), h)
  | _ => none
/-- x in xs -/
def inF : Op2 := fun x y h => match datF h DEEP x, datF h DEEP y with
  | some d, some (.list ds) => some (.bl (ds.any fun e => PyData.eqv e d), h)
  | some d, some (.tuple ds) => some (.bl (ds.any fun e => PyData.eqv e d), h)
  | some (.str i), some (.str j) => some (.bl (!(Builtin.Str.occurrences j i 0 j.length 1).isEmpty), h)
  | _, _ => none
def ninF : Op2 := fun x y h => match datF h DEEP x, datF h DEEP y with
  | some d, some (.list ds) => some (.bl (!ds.any fun e => PyData.eqv e d), h)
  | some d, some (.tuple ds) => some (.bl (!ds.any fun e => PyData.eqv e d), h)
  | some (.str i), some (.str j) => some (.bl (!(!(Builtin.Str.occurrences j i 0 j.length 1).isEmpty)), h)
  | _, _ => none
theorem room_in {A : Around} {d : PyData} {m : Nat} (hd : d.depth ≤ DEEP) (hu : A.units + 64 < cLine) : A.units + 1 + min m d.depth < cLine := by
  have h2 : min m d.depth ≤ d.depth := Nat.min_le_right _ _
  unfold DEEP at hd
  omega
section
variable {X : Cx}
theorem rF_ok {K : PySem.W.Frag} {ρ' : List Addr} {h' : FH} {H' : Hp} {ρ : List Addr} {H : Hp} {fz : FV} {v : V} {Q : VK} (go : ∀ (ρ' : List Addr) (H' : Hp) (v : V), Ev K ρ H ρ' H' → RH K ρ' h' H' → RV K ρ' H' fz v → Q v H')
    (e : Ev K ρ H ρ' H') (rh : RH K ρ' h' H') (r : RV K ρ' H' fz v) : Q v H' := go ρ' H' v e rh r
theorem new_list {K : PySem.W.Frag} {ρ : List Addr} {h : FH} {H : Hp} {xs : List FV} {vs : List V} {Q : VK} (rh : RH K ρ h H) (r : RVs K ρ H xs vs)
    (go : ∀ (ρ' : List Addr) (H' : Hp) (v : V), Ev K ρ H ρ' H' → RH K ρ' (h ++ [.lst xs]) H' → RV K ρ' H' (.ref h.length) v → Q v H') (p : Addr) (hp : H p = none) : Q (.ref p) (upd H p (.lst vs)) := by
  have e : Ev K ρ H (ρ ++ [p]) (upd H p (.lst vs)) := .push hp
  exact go _ _ _ e (rh.push hp e ⟨vs, upd_same, r.ev e⟩) (.ref (by rw [← rh.len]; simp))
theorem new_tup {K : PySem.W.Frag} {ρ : List Addr} {h : FH} {H : Hp} {xs : List FV} {vs : List V} {Q : VK} (rh : RH K ρ h H) (r : RVs K ρ H xs vs)
    (go : ∀ (ρ' : List Addr) (H' : Hp) (v : V), Ev K ρ H ρ' H' → RH K ρ' h H' → RV K ρ' H' (.tup xs) v → Q v H') (p : Addr) (hp : H p = none) : Q (.ref p) (upd H p (.tup vs)) := by
  have e : Ev K ρ H ρ (upd H p (.tup vs)) := .beside hp
  exact go _ _ _ e (rh.beside hp e) (.tup (.inl (.inl upd_same)) (r.ev e))
theorem of_add : OpR X (binaryOp .Add) (rF X.K addF) := by
  intro pins s σ H x y v u Q I rx ry ⟨ρ, fx, fy, h, fz, h', r1, r2, rh, e, go⟩
  cases r1 with
  | int i =>
    cases r2 with
    | int j =>
      cases e
      exact op_add pins s σ H _ _ v u Q I rx ry ⟨i, j, rfl, rfl, go ρ H _ .refl rh (.int _)⟩
    | _ => cases e
  | str i =>
    cases r2 with
    | str j =>
      simp only [addF] at e
      split at e
      · rename_i z
        cases e
        exact op_add_str pins s σ H _ _ v u Q I rx ry ⟨i, j, rfl, rfl, z, go ρ H _ .refl rh (.str _)⟩
      · cases e
    | _ => cases e
  | tup s1 q1 =>
    cases r2 with
    | tup s2 q2 =>
      simp only [addF] at e
      split at e
      · rename_i z
        cases e
        refine op_catA pins s σ H _ _ v u Q I rx ry ⟨_, _, _, _, rfl, rfl, s1, s2, by rw [q1.len', q2.len']; exact z, fun n => ?_, fun n1 n2 => ?_, fun n1 n2 p hp => new_tup rh (q1.app q2) go p hp⟩
        · subst n
          cases q1
          exact go ρ H _ .refl rh (.tup s2 q2)
        · subst n2
          cases q2
          rw [List.append_nil] at go
          exact go ρ H _ .refl rh (.tup s1 q1)
      · cases e
    | _ => cases e
  | ref n =>
    cases r2 with
    | ref m =>
      simp only [addF] at e
      split at e
      · rename_i xs ys z1 z2
        split at e
        · rename_i z
          cases e
          obtain ⟨vs, a1, a2⟩ := lst_of rh n z1
          obtain ⟨us, b1, b2⟩ := lst_of rh m z2
          exact op_cat pins s σ H _ _ v u Q I rx ry ⟨_, _, vs, us, rfl, rfl, a1, b1, by rw [a2.len', b2.len']; exact z, fun p hp => new_list rh (a2.app b2) go p hp⟩
        · cases e
      · cases e
    | _ => cases e
  | _ => cases e
theorem of_sub : OpR X (binaryOp .Sub) (rF X.K subF) := by
  intro pins s σ H x y v u Q I rx ry ⟨ρ, fx, fy, h, fz, h', r1, r2, rh, e, go⟩
  cases r1 with
  | int i =>
    cases r2 with
    | int j =>
      cases e
      exact op_sub pins s σ H _ _ v u Q I rx ry ⟨i, j, rfl, rfl, go ρ H _ .refl rh (.int _)⟩
    | _ => cases e
  | _ => cases e
theorem of_mul : OpR X (binaryOp .Mult) (rF X.K mulF) := by
  intro pins s σ H x y v u Q I rx ry ⟨ρ, fx, fy, h, fz, h', r1, r2, rh, e, go⟩
  cases r1 with
  | int i =>
    cases r2 with
    | int j =>
      simp only [mulF] at e
      split at e
      · rename_i z
        cases e
        obtain ⟨z1, z2⟩ := Bool.and_eq_true_iff.mp z
        have l1 := sm_log z1
        have l2 := sm_log z2
        exact op_mulW pins s σ H _ _ v u Q I rx ry ⟨i, j, rfl, rfl, (by unfold CMulW; omega), go ρ H _ .refl rh (.int _)⟩
      · cases e
    | _ => cases e
  | ref n =>
    cases r2 with
    | int k =>
      simp only [mulF] at e
      split at e
      · rename_i xs z1
        split at e
        · rename_i z
          cases e
          obtain ⟨vs, a1, a2⟩ := lst_of rh n z1
          obtain ⟨b1, b2, b3⟩ := z
          have rep : ∀ m : Nat, RVs X.K ρ H (List.replicate m xs).flatten (List.replicate m vs).flatten := by
            intro m
            induction m with
            | zero => exact .nil
            | succ m ih =>
              rw [List.replicate_succ, List.replicate_succ, List.flatten_cons, List.flatten_cons]
              exact a2.app ih
          exact op_rep pins s σ H _ _ v u Q I rx ry ⟨_, k, vs, rfl, rfl, a1, b1, b2, by rw [a2.len']; exact b3, fun p hp => new_list rh (rep _) go p hp⟩
        · cases e
      · cases e
    | _ => cases e
  | _ => cases e
theorem of_div : OpR X (binaryOp .FloorDiv) (rF X.K divF) := by
  intro pins s σ H x y v u Q I rx ry ⟨ρ, fx, fy, h, fz, h', r1, r2, rh, e, go⟩
  cases r1 with
  | int i =>
    cases r2 with
    | int j =>
      simp only [divF] at e
      split at e
      · rename_i z
        cases e
        obtain ⟨z1, z2⟩ := z
        have l := sm_log z2
        obtain ⟨t, rfl⟩ := rx
        obtain ⟨t', rfl⟩ := ry
        exact floordiv_int z1 ⟨.int _, H, I.tok _, ⟨_, rfl⟩, go ρ H _ .refl rh (.int _)⟩ (.inl (PyProof.noPylong_of_log2 (by omega)))
      · cases e
    | _ => cases e
  | _ => cases e
theorem of_mod : OpR X (binaryOp .Mod) (rF X.K modF) := by
  intro pins s σ H x y v u Q I rx ry ⟨ρ, fx, fy, h, fz, h', r1, r2, rh, e, go⟩
  cases r1 with
  | int i =>
    cases r2 with
    | int j =>
      simp only [modF] at e
      split at e
      · rename_i z
        cases e
        exact op_modN pins s σ H _ _ v u Q I rx ry ⟨i, j, rfl, rfl, z, go ρ H _ .refl rh (.int _)⟩
      · cases e
    | _ => cases e
  | _ => cases e
theorem of_pow : OpR X (binaryOp .Pow) (rF X.K powF) := by
  intro pins s σ H x y v u Q I rx ry ⟨ρ, fx, fy, h, fz, h', r1, r2, rh, e, go⟩
  cases r1 with
  | int i =>
    cases r2 with
    | int j =>
      simp only [powF] at e
      split at e
      · rename_i z
        cases e
        exact op_pow pins s σ H _ _ v u Q I rx ry ⟨i, j, rfl, rfl, z, go ρ H _ .refl rh (.int _)⟩
      · cases e
    | _ => cases e
  | _ => cases e
theorem of_eq (hu : X.A.units + 64 < cLine) : OpR X (compareOp .Eq) (rF X.K eqF) := by
  intro pins s σ H x y v u Q I rx ry ⟨ρ, fx, fy, h, fz, h', r1, r2, rh, e, go⟩
  simp only [eqF] at e
  split at e
  · rename_i d1 d2 q1 q2
    cases e
    obtain ⟨a1, a2, a3⟩ := datF_dp rh _ r1 q1
    obtain ⟨b1, b2, b3⟩ := datF_dp rh _ r2 q2
    exact op_eqD hu pins s σ H _ _ v u Q I rx ry ⟨_, _, a1, b1, shaped_of a2 a3, shaped_of b2 b3, go ρ H _ .refl rh (.bl _)⟩
  · cases e
theorem of_ne (hu : X.A.units + 64 < cLine) : OpR X (compareOp .NotEq) (rF X.K neF) := by
  intro pins s σ H x y v u Q I rx ry ⟨ρ, fx, fy, h, fz, h', r1, r2, rh, e, go⟩
  simp only [neF] at e
  split at e
  · rename_i d1 d2 q1 q2
    cases e
    obtain ⟨a1, a2, a3⟩ := datF_dp rh _ r1 q1
    obtain ⟨b1, b2, b3⟩ := datF_dp rh _ r2 q2
    exact op_neD hu pins s σ H _ _ v u Q I rx ry ⟨_, _, a1, b1, shaped_of a2 a3, shaped_of b2 b3, go ρ H _ .refl rh (.bl _)⟩
  · cases e
theorem of_lt : OpR X (compareOp .Lt) (rF X.K ltF) := by
  intro pins s σ H x y v u Q I rx ry ⟨ρ, fx, fy, h, fz, h', r1, r2, rh, e, go⟩
  cases r1 with
  | int i =>
    cases r2 with
    | int j =>
      cases e
      exact op_lt pins s σ H _ _ v u Q I rx ry ⟨i, j, rfl, rfl, go ρ H _ .refl rh (.bl _)⟩
    | _ => cases e
  | _ => cases e
theorem of_le : OpR X (compareOp .LtE) (rF X.K leF) := by
  intro pins s σ H x y v u Q I rx ry ⟨ρ, fx, fy, h, fz, h', r1, r2, rh, e, go⟩
  cases r1 with
  | int i =>
    cases r2 with
    | int j =>
      cases e
      exact op_le pins s σ H _ _ v u Q I rx ry ⟨i, j, rfl, rfl, go ρ H _ .refl rh (.bl _)⟩
    | _ => cases e
  | _ => cases e
theorem of_gt : OpR X (compareOp .Gt) (rF X.K gtF) := by
  intro pins s σ H x y v u Q I rx ry ⟨ρ, fx, fy, h, fz, h', r1, r2, rh, e, go⟩
  cases r1 with
  | int i =>
    cases r2 with
    | int j =>
      cases e
      exact op_gt pins s σ H _ _ v u Q I rx ry ⟨i, j, rfl, rfl, go ρ H _ .refl rh (.bl _)⟩
    | _ => cases e
  | _ => cases e
theorem of_ge : OpR X (compareOp .GtE) (rF X.K geF) := by
  intro pins s σ H x y v u Q I rx ry ⟨ρ, fx, fy, h, fz, h', r1, r2, rh, e, go⟩
  cases r1 with
  | int i =>
    cases r2 with
    | int j =>
      cases e
      exact op_ge pins s σ H _ _ v u Q I rx ry ⟨i, j, rfl, rfl, go ρ H _ .refl rh (.bl _)⟩
    | _ => cases e
  | _ => cases e
theorem isNon_of {K : PySem.W.Frag} {ρ : List Addr} {H : Hp} {x : FV} {v : V} (r : RV K ρ H x v) : decide (v = .non) = isNon x := by
  cases r <;> rfl
theorem of_is : OpR X (compareOp .Is) (rF X.K isF) := by
  intro pins s σ H x y v u Q I rx ry ⟨ρ, fx, fy, h, fz, h', r1, r2, rh, e, go⟩
  cases r2 with
  | non =>
    cases e
    exact op_isN pins s σ H _ _ v u Q I rx ry ⟨rfl, by rw [isNon_of r1]; exact go ρ H _ .refl rh (.bl _)⟩
  | _ => cases e
theorem of_isn : OpR X (compareOp .IsNot) (rF X.K isnF) := by
  intro pins s σ H x y v u Q I rx ry ⟨ρ, fx, fy, h, fz, h', r1, r2, rh, e, go⟩
  cases r2 with
  | non =>
    cases e
    exact op_notN pins s σ H _ _ v u Q I rx ry ⟨rfl, by rw [isNon_of r1]; exact go ρ H _ .refl rh (.bl _)⟩
  | _ => cases e
theorem dat_str {h : FH} {n : Nat} {x : FV} {i : Str} (e : datF h n x = some (.str i)) : x = .str i := by
  cases n with
  | zero => cases e
  | succ n =>
    cases x with
    | str y =>
      simp only [datF] at e
      split at e
      · cases e; rfl
      · cases e
    | tup xs =>
      simp only [datF] at e
      obtain ⟨ds, _, q⟩ := Option.map_eq_some_iff.mp e
      cases q
    | ref k =>
      simp only [datF] at e
      split at e
      · obtain ⟨ds, _, q⟩ := Option.map_eq_some_iff.mp e
        cases q
      · obtain ⟨ds, _, q⟩ := Option.map_eq_some_iff.mp e
        cases q
      · cases e
    | _ => cases e
theorem of_in (hu : X.A.units + 64 < cLine) : OpR X (compareOp .In) (rF X.K inF) := by
  intro pins s σ H x y v u Q I rx ry ⟨ρ, fx, fy, h, fz, h', r1, r2, rh, e, go⟩
  simp only [inF] at e
  split at e
  · rename_i d ds q1 q2
    cases e
    obtain ⟨a1, a2, a3⟩ := datF_dp rh _ r1 q1
    obtain ⟨b1, b2, b3⟩ := datF_dp rh _ r2 q2
    obtain ⟨as, w1⟩ := Dp.reads I d x v a1 rx
    obtain ⟨bs, w2⟩ := Dp.reads I (.list ds) y u b1 ry
    exact SeqAt.in_list_reads w2 w1 (by simpa only [PyData.canLay0] using b2) a2 (room_in a3 hu) ⟨.bl _, H, I, rfl, go ρ H _ .refl rh (.bl _)⟩
  · rename_i d ds q1 q2
    cases e
    obtain ⟨a1, a2, a3⟩ := datF_dp rh _ r1 q1
    obtain ⟨b1, b2, b3⟩ := datF_dp rh _ r2 q2
    obtain ⟨as, w1⟩ := Dp.reads I d x v a1 rx
    obtain ⟨bs, w2⟩ := Dp.reads I (.tuple ds) y u b1 ry
    exact SeqAt.in_tuple_reads w2 w1 (by simpa only [PyData.canLay0] using b2) a2 (room_in a3 hu) ⟨.bl _, H, I, rfl, go ρ H _ .refl rh (.bl _)⟩
  · rename_i i j q1 q2
    cases e
    have e1 := dat_str q1
    have e2 := dat_str q2
    subst e1
    subst e2
    cases r1
    cases r2
    exact op_in_str pins s σ H _ _ v u Q I rx ry ⟨i, j, rfl, rfl, go ρ H _ .refl rh (.bl _)⟩
  · cases e
theorem of_nin (hu : X.A.units + 64 < cLine) : OpR X (compareOp .NotIn) (rF X.K ninF) := by
  intro pins s σ H x y v u Q I rx ry ⟨ρ, fx, fy, h, fz, h', r1, r2, rh, e, go⟩
  simp only [ninF] at e
  split at e
  · rename_i d ds q1 q2
    cases e
    obtain ⟨a1, a2, a3⟩ := datF_dp rh _ r1 q1
    obtain ⟨b1, b2, b3⟩ := datF_dp rh _ r2 q2
    obtain ⟨as, w1⟩ := Dp.reads I d x v a1 rx
    obtain ⟨bs, w2⟩ := Dp.reads I (.list ds) y u b1 ry
    exact SeqAt.notIn_list_reads w2 w1 (by simpa only [PyData.canLay0] using b2) a2 (room_in a3 hu) ⟨.bl _, H, I, rfl, go ρ H _ .refl rh (.bl _)⟩
  · rename_i d ds q1 q2
    cases e
    obtain ⟨a1, a2, a3⟩ := datF_dp rh _ r1 q1
    obtain ⟨b1, b2, b3⟩ := datF_dp rh _ r2 q2
    obtain ⟨as, w1⟩ := Dp.reads I d x v a1 rx
    obtain ⟨bs, w2⟩ := Dp.reads I (.tuple ds) y u b1 ry
    exact SeqAt.notIn_tuple_reads w2 w1 (by simpa only [PyData.canLay0] using b2) a2 (room_in a3 hu) ⟨.bl _, H, I, rfl, go ρ H _ .refl rh (.bl _)⟩
  · rename_i i j q1 q2
    cases e
    have e1 := dat_str q1
    have e2 := dat_str q2
    subst e1
    subst e2
    cases r1
    cases r2
    exact op_notin_str pins s σ H _ _ v u Q I rx ry ⟨i, j, rfl, rfl, go ρ H _ .refl rh (.bl _)⟩
  · cases e
end
end FX
set_option maxRecDepth 100000
set_option maxHeartbeats 4000000
namespace FX
open PySem PySem.Spec PyProof.Rows L2
variable [LamT]

/-! ### calls of what is built in -/
abbrev OpN := List FV → FH → Option (FV × FH)
def rC (K : PySem.W.Frag) (g : OpN) : List V → Hp → VK → Prop := fun xs H Q => ∃ (ρ : List Addr) (fs : List FV) (h : FH) (fz : FV) (h' : FH), RVs K ρ H fs xs ∧ RH K ρ h H ∧ g fs h = some (fz, h') ∧
  ∀ (ρ' : List Addr) (H' : Hp) (v : V), Ev K ρ H ρ' H' → RH K ρ' h' H' → RV K ρ' H' fz v → Q v H'
def cCB (g : OpN) (ea : EvA) : EvE := fun σ h => (ea σ h).bind fun xs h1 => Res.of (g xs h1)
section
variable {X : Cx} {W : Wsh} {a b e : Expr} {es : List Expr} {ea eb : EvE} {er : EvA} {pos p : Pos} {x : Str}
theorem tCB_of {g : OpN} {σ : L2.St} {H : Hp} {Q : VK} (h : tG (RV X.K) X.K W (cCB g er) σ H Q) : tCB (rC X.K g) (tG (RVs X.K) X.K W er) σ H Q := by
  obtain ⟨ρ, σf, h, rs, rh, p⟩ := h
  refine core (R1 := RVs X.K) rs rh p fun ρ1 H1 h1 xs vs e1 rs1 rh1 r1 p1 => ?_
  cases q : g xs h1 with
  | none =>
    rw [q] at p1
    exact p1.elim
  | some z =>
    obtain ⟨z, h'⟩ := z
    rw [q] at p1
    exact ⟨ρ1, xs, h1, z, h', r1, rh1, q, p1⟩
theorem fe_callB {g : OpN} {id : String} (hc : CallR X (.builtin id) (rC X.K g)) (hm : X.mg x = none) (hv : bootBuiltins x = some (.builtin id)) (ha : FA X W (e :: es) er) (hg : Gl X x := by rfl) (hn : x ≠ "__name__" := by decide) (hdb : (x == ("__debug__" : Str)) = false := by decide)
    (he : starEach (e :: es) X.env = (false, eval e X.env) :: starEach es X.env := by rfl) (hpl : (backTo pos (starEach es X.env)).any (·.1) = false := by rfl) : FE X W (.Call (.Name x p) (e :: es) [] pos) (cCB g er) :=
  pe_imp (pe_callB hc hg hm hv ha hn hdb he hpl) fun _ _ _ h => tCB_of h
theorem fe_callTy {g : OpN} {T : String} (hc : CallR X (.type T) (rC X.K g)) (hm : X.mg x = none) (hv : bootBuiltins x = some (.type T)) (ha : FA X W (e :: es) er) (hg : Gl X x := by rfl) (hn : x ≠ "__name__" := by decide) (hdb : (x == ("__debug__" : Str)) = false := by decide)
    (he : starEach (e :: es) X.env = (false, eval e X.env) :: starEach es X.env := by rfl) (hpl : (backTo pos (starEach es X.env)).any (·.1) = false := by rfl) : FE X W (.Call (.Name x p) (e :: es) [] pos) (cCB g er) :=
  pe_imp (pe_callTy hc hg hm hv ha hn hdb he hpl) fun _ _ _ h => tCB_of h
/-- a builtin class as a value -/
theorem fe_ty {T : String} (hm : X.mg x = none) (hv : bootBuiltins x = some (.type T)) (hg : Gl X x := by rfl) (hn : x ≠ "__name__" := by decide) (hdb : (x == ("__debug__" : Str)) = false := by decide) : FE X W (.Name x pos) (cC (.ty T)) :=
  pe_imp (pe_bltn (v := .ty T) hg hm hv rfl hn hdb) fun σ H Q ⟨ρ, σf, h, rs, rh, p⟩ => Post.ok_ (x := FV.ty T) p rh (.ty T)
theorem one_of {K : PySem.W.Frag} {ρ : List Addr} {H : Hp} {y : FV} {vs : List V} (r : RVs K ρ H [y] vs) : ∃ v, vs = [v] ∧ RV K ρ H y v := by
  cases r with
  | cons r1 r2 => cases r2; exact ⟨_, rfl, r1⟩
theorem two_of {K : PySem.W.Frag} {ρ : List Addr} {H : Hp} {y z : FV} {vs : List V} (r : RVs K ρ H [y, z] vs) : ∃ v u, vs = [v, u] ∧ RV K ρ H y v ∧ RV K ρ H z u := by
  cases r with
  | cons r1 r2 =>
    obtain ⟨u, rfl, r3⟩ := one_of r2
    exact ⟨_, u, rfl, r1, r3⟩

def lenF : OpN := fun xs h => match xs with
  | [.str y] => if y.length ≤ sizeLine then some (.int y.length, h) else none
  | [y] => match seqF y h with
    | some ys => some (.int ys.length, h)
    | none => none
  | _ => none
theorem of_len : CallR X (.builtin "len") (rC X.K lenF) := by
  intro pins s σ H vs us Q I r ⟨ρ, fs, h, fz, h', r1, rh, e, go⟩
  unfold lenF at e
  split at e
  · rename_i y
    split at e
    · rename_i z
      cases e
      obtain ⟨v, rfl, r2⟩ := one_of r1
      cases r2
      exact call_len pins s σ H _ us Q I r ⟨.str y, y.length, rfl, ⟨z, rfl⟩, go ρ H _ .refl rh (.int _)⟩
    · cases e
  · rename_i y _
    split at e
    · rename_i ys q
      cases e
      obtain ⟨v, rfl, r2⟩ := one_of r1
      obtain ⟨a, ws, rfl, sq, rw_⟩ := seqF_of rh r2 q
      refine call_len pins s σ H _ us Q I r ⟨.ref a, ys.length, rfl, ?_, go ρ H _ .refl rh (.int _)⟩
      rcases sq with sq | sq
      · exact .inl ⟨ws, sq, rw_.len⟩
      · exact .inr ⟨ws, sq, rw_.len⟩
    · cases e
  · cases e
def absF : OpN := fun xs h => match xs with
  | [.int i] => some (.int (if i < 0 then -i else i), h)
  | _ => none
theorem of_abs : CallR X (.builtin "abs") (rC X.K absF) := by
  intro pins s σ H vs us Q I r ⟨ρ, fs, h, fz, h', r1, rh, e, go⟩
  unfold absF at e
  split at e
  · rename_i i
    cases e
    obtain ⟨v, rfl, r2⟩ := one_of r1
    cases r2
    exact call_abs pins s σ H _ us Q I r ⟨i, rfl, go ρ H _ .refl rh (.int _)⟩
  · cases e
def intF : OpN := fun xs h => match xs with
  | [.int i] => some (.int i, h)
  | [.bl k] => some (.int (if k then 1 else 0), h)
  | _ => none
theorem of_int : CallR X (.type "int") (rC X.K intF) := by
  intro pins s σ H vs us Q I r ⟨ρ, fs, h, fz, h', r1, rh, e, go⟩
  unfold intF at e
  split at e
  · rename_i i
    cases e
    obtain ⟨v, rfl, r2⟩ := one_of r1
    cases r2
    exact call_int1 pins s σ H _ us Q I r (.inl ⟨i, rfl, go ρ H _ .refl rh (.int _)⟩)
  · rename_i i
    cases e
    obtain ⟨v, rfl, r2⟩ := one_of r1
    cases r2
    exact call_int1 pins s σ H _ us Q I r (.inr ⟨i, rfl, go ρ H _ .refl rh (.int _)⟩)
  · cases e
def divmodF : OpN := fun xs h => match xs with
  | [.int i, .int j] => if 0 < j ∧ sm j = true then some (.tup [.int (i / j), .int (i % j)], h) else none
  | _ => none
theorem of_divmod : CallR X (.builtin "divmod") (rC X.K divmodF) := by
  intro pins s σ H vs us Q I r ⟨ρ, fs, h, fz, h', r1, rh, e, go⟩
  unfold divmodF at e
  split at e
  · rename_i i j
    split at e
    · rename_i z
      cases e
      obtain ⟨v, u, rfl, r2, r3⟩ := two_of r1
      cases r2
      cases r3
      have l := sm_log z.2
      exact call_divmodW pins s σ H _ us Q I r ⟨i, j, rfl, ⟨z.1, PyProof.noPylong_of_log2 (by omega)⟩, fun p hp => new_tup rh (.cons (.int _) (.cons (.int _) .nil)) go p hp⟩
    · cases e
  · cases e
def tupleF : OpN := fun xs h => match xs with
  | [y] => match seqF y h with
    | some ys => some (.tup ys, h)
    | none => none
  | _ => none
theorem of_tuple : CallR X (.type "tuple") (rC X.K tupleF) := by
  intro pins s σ H vs us Q I r ⟨ρ, fs, h, fz, h', r1, rh, e, go⟩
  unfold tupleF at e
  split at e
  · rename_i y
    split at e
    · rename_i ys q
      cases e
      obtain ⟨v, rfl, r2⟩ := one_of r1
      obtain ⟨a, ws, rfl, sq, rw_⟩ := seqF_of rh r2 q
      refine call_tuple_of pins s σ H _ us Q I r ⟨a, ws, rfl, ?_⟩
      rcases sq with sq | sq
      · exact .inl ⟨sq, fun l hl => new_tup rh rw_ go l hl⟩
      · exact .inr ⟨sq, go ρ H _ .refl rh (.tup sq rw_)⟩
    · cases e
  · cases e
def listF : OpN := fun xs h => match xs with
  | [y] => match seqF y h with
    | some ys => some (.ref h.length, h ++ [.lst ys])
    | none => none
  | _ => none
theorem of_list : CallR X (.type "list") (rC X.K listF) := by
  intro pins s σ H vs us Q I r ⟨ρ, fs, h, fz, h', r1, rh, e, go⟩
  unfold listF at e
  split at e
  · rename_i y
    split at e
    · rename_i ys q
      cases e
      obtain ⟨v, rfl, r2⟩ := one_of r1
      obtain ⟨a, ws, rfl, sq, rw_⟩ := seqF_of rh r2 q
      exact call_list_of pins s σ H _ us Q I r ⟨a, ws, rfl, sq, fun l hl => new_list rh rw_ go l hl⟩
    · cases e
  · cases e

/-! ### repr -/
def reprF : OpN := fun xs h => match xs with
  | [y] => match datF h DEEP y with
    | some d => if d.showable = true ∧ d.shown.length ≤ sizeLine then some (.str d.shown, h) else none
    | none => none
  | _ => none
theorem of_repr (hg : X.A.guards = some []) (hu : X.A.units + 64 < cLine) : CallR X (.builtin "repr") (rC X.K reprF) := by
  intro pins s σ H vs us Q I r ⟨ρ, fs, h, fz, h', r1, rh, e, go⟩
  unfold reprF at e
  split at e
  · rename_i y
    split at e
    · rename_i d q
      split at e
      · rename_i z
        cases e
        obtain ⟨v, rfl, r2⟩ := one_of r1
        obtain ⟨u, rfl, ru⟩ := Vals.one r
        obtain ⟨a1, a2, a3⟩ := datF_dp rh _ r2 q
        obtain ⟨as, w⟩ := Dp.reads I d v u a1 ru
        have hd := PyData.hasDict_of_canLay d a2
        have hq := go ρ H (.str d.shown) .refl rh (.str _)
        unfold DEEP at a3
        cases a1 with
        | lst _ _ =>
          cases ru
          exact PySem.repr_of_reads' w z.1 (fun y => by rw [hd] at y; cases y) hg (by omega) (fun _ _ k => k) (fun h' u tk k => ⟨.str _, H, I.kept (t' := tk) k, ⟨u, rfl⟩, hq⟩) z.2
        | tup _ _ =>
          cases ru
          exact PySem.repr_of_reads' w z.1 (fun y => by rw [hd] at y; cases y) hg (by omega) (fun _ _ k => k) (fun h' u tk k => ⟨.str _, H, I.kept (t' := tk) k, ⟨u, rfl⟩, hq⟩) z.2
        | non =>
          cases ru
          exact PySem.P.repr_of_none ⟨.str _, H, I.tok _, ⟨_, rfl⟩, by simpa only [PyData.shown] using hq⟩
        | bl b =>
          cases ru
          exact PySem.P.repr_of_bool ⟨.str _, H, I.tok _, ⟨_, rfl⟩, by simpa only [PyData.shown_bool] using hq⟩
        | int i =>
          obtain ⟨t, rfl⟩ := ru
          have z1 : decide (i.natAbs.log2 < 1920) = true := by simpa only [PyData.showable] using z.1
          exact PySem.P.repr_of_int (of_decide_eq_true z1) ⟨.str _, H, I.tok _, ⟨_, rfl⟩, by simpa only [PyData.shown_int] using hq⟩
        | str i =>
          obtain ⟨t, rfl⟩ := ru
          exact PySem.P.repr_of_str ⟨.str _, H, I.tok _, ⟨_, rfl⟩, by simpa only [PyData.shown_str] using hq⟩ (by simpa only [PyData.shown_str] using z.2)
      · cases e
    · cases e
  · cases e
end
end FX
set_option maxRecDepth 100000
set_option maxHeartbeats 4000000
namespace FX
open PySem PySem.Spec PyProof.Rows L2
variable [LamT]

/-! ### isinstance against built-in classes -/
inductive BT where
  | non | bl | int | str | tup | lst | dic
  deriving DecidableEq
def BT.name : BT → String
  | .non => "NoneType"
  | .bl => "bool"
  | .int => "int"
  | .str => "str"
  | .tup => "tuple"
  | .lst => "list"
  | .dic => "dict"
def btOf (n : String) : Option BT :=
  if n = "bool" then some .bl else if n = "int" then some .int else if n = "str" then some .str else if n = "tuple" then some .tup else if n = "list" then some .lst else if n = "dict" then some .dic else none
theorem btOf_name {n : String} {t : BT} (e : btOf n = some t) : n = t.name := by
  unfold btOf at e
  split at e
  · cases e; assumption
  · split at e
    · cases e; assumption
    · split at e
      · cases e; assumption
      · split at e
        · cases e; assumption
        · split at e
          · cases e; assumption
          · split at e
            · cases e; assumption
            · cases e
def kindF : FV → FH → Option BT
  | .non, _ => some .non
  | .bl _, _ => some .bl
  | .int _, _ => some .int
  | .str _, _ => some .str
  | .tup _, _ => some .tup
  | .ref n, h => match h[n]? with
    | some (.lst _) => some .lst
    | some (.ro _) => some .lst
    | some (.dic _) => some .dic
    | _ => none
  | _, _ => none
def subB : BT → BT → Bool
  | .bl, .int => true
  | a, b => decide (a = b)
theorem kitB_sub (a b : BT) (hb : b ≠ .non) : kitB a.name b.name = some (subB a b) := by
  cases a <;> cases b <;> first | exact absurd rfl hb | decide +kernel
section
variable {K : PySem.W.Frag} {ρ : List Addr} {h : FH} {H : Hp}
theorem kindF_ty (rh : RH K ρ h H) {x : FV} {v : V} {t : BT} (r : RV K ρ H x v) (e : kindF x h = some t) : TyX K H v (.type t.name) := by
  cases r with
  | non => cases e; exact .base .non
  | bl b => cases e; exact .base (.bl b)
  | int i => cases e; exact .base (.int i)
  | str i => cases e; exact .base (.str i)
  | tup s _ =>
    cases e
    rcases s with (s | ⟨o, s⟩) | ⟨o, its, n, k, c, _⟩
    · exact .base (.tup s)
    · exact .fTuple s
    · exact .kTuple k c
  | ref q =>
    simp only [kindF] at e
    split at e
    · rename_i xs z
      cases e
      obtain ⟨vs, q1, q2⟩ := rh.ref z q
      exact .base (.lst q1)
    · rename_i xs z
      cases e
      rcases rh.ref z q with ⟨vs, ⟨o, its, n, k, c, _⟩, _⟩ | ⟨vs, q1 | ⟨o, q1⟩, _⟩
      · exact .kList k c
      · exact .base (.lst q1)
      · exact .base (.frz q1)
    · rename_i xs z
      cases e
      obtain ⟨vs, q1, q2⟩ := rh.ref z q
      exact .base (.dK q1)
    · cases e
  | cls c => cases e
  | ty n => cases e
end
/-- the classes that are asked -/
def clsF : List FV → Option (List BT)
  | [] => some []
  | .ty n :: r => match btOf n, clsF r with
    | some t, some ts => some (t :: ts)
    | _, _ => none
  | _ => none
def isiF : OpN := fun xs h => match xs with
  | [x, .ty n] => match kindF x h, btOf n with
    | some t, some u => some (.bl (subB t u), h)
    | _, _ => none
  | [x, .tup cs] => match kindF x h, clsF cs with
    | some t, some us => some (.bl (us.any fun u => subB t u), h)
    | _, _ => none
  | _ => none
theorem btOf_ne {n : String} {t : BT} (e : btOf n = some t) : t ≠ .non := by
  intro z
  subst z
  unfold btOf at e
  repeat (first | (split at e) | cases e)
section
variable {K : PySem.W.Frag} {ρ : List Addr} {H : Hp}
theorem clsF_of : ∀ {cs : List FV} {vs : List V} {us : List BT}, RVs K ρ H cs vs → clsF cs = some us → Paired ClsV vs (us.map fun u => Value.type u.name) ∧ ∀ u ∈ us, u ≠ BT.non
  | [], _, us, .nil, e => by
    cases e
    exact ⟨.nil, fun u hu => by cases hu⟩
  | .ty n :: r, _, us, .cons r1 r2, e => by
    cases r1
    simp only [clsF] at e
    split at e
    · rename_i t ts q1 q2
      cases e
      obtain ⟨a, b⟩ := clsF_of r2 q2
      have z := btOf_name q1
      refine ⟨.cons (by rw [z]; exact .ty _) a, fun u hu => ?_⟩
      rcases List.mem_cons.mp hu with e1 | e1
      · subst e1
        exact btOf_ne q1
      · exact b u e1
    · cases e
theorem kitAny_of {t : BT} : ∀ {us : List BT}, (∀ u ∈ us, u ≠ BT.non) → PySem.W.kitAny K (.type t.name) (us.map fun u => Value.type u.name) = some (us.any fun u => subB t u)
  | [], _ => rfl
  | u :: r, h => by
    have h1 := kitB_sub t u (h u List.mem_cons_self)
    have h2 := kitAny_of (t := t) (us := r) fun x hx => h x (List.mem_cons_of_mem _ hx)
    rw [List.map_cons, List.any_cons]
    refine kitAny_cons (kit_ty h1) (fun z => ?_) (fun z => ?_)
    · rw [z, Bool.false_or]
      exact h2
    · rw [z, Bool.true_or]
end
section
variable {X : Cx} {W : Wsh} {a b e : Expr} {es : List Expr} {ea eb : EvE} {er : EvA} {pos p : Pos} {x : Str}
theorem of_isi : CallR X (.builtin "isinstance") (rC X.K isiF) := by
  intro pins s σ H vs us Q I r ⟨ρ, fs, h, fz, h', r1, rh, e, go⟩
  unfold isiF at e
  split at e
  · rename_i y n
    split at e
    · rename_i t u q1 q2
      cases e
      obtain ⟨v, c, rfl, r2, r3⟩ := two_of r1
      cases r3
      have z := btOf_name q2
      refine call_isi pins s σ H _ us Q I r ⟨v, .ty n, .type t.name, .type u.name, subB t u, rfl, by rw [z]; exact .ty _, kindF_ty rh r2 q1, kit_ty (kitB_sub t u (btOf_ne q2)), go ρ H _ .refl rh (.bl _)⟩
    · cases e
  · rename_i y cs
    split at e
    · rename_i t ts q1 q2
      cases e
      obtain ⟨v, c, rfl, r2, r3⟩ := two_of r1
      cases r3 with
      | tup sq rc =>
        obtain ⟨pc, ne⟩ := clsF_of rc q2
        have hq := go ρ H _ .refl rh (.bl _)
        rcases sq with (sq | ⟨o, sq⟩) | ⟨o, its, n, k, c, d, hz, rr⟩
        · exact call_isiT pins s σ H _ us Q I r ⟨v, _, _, .type t.name, _, _, rfl, sq, pc, kindF_ty rh r2 q1, kitAny_of ne, hq⟩
        · -- a locked tuple
          obtain ⟨u1, u2, rfl, s1, s2⟩ := vals2 r
          cases s2
          obtain ⟨P, Z, pp, hx⟩ := kit_of I s1 (kindF_ty rh r2 q1)
          obtain ⟨_, _, its, rv, o2, h1, h2, n, h3⟩ := I.hok _ _ sq
          have e3 := ClsV.all pc rv
          subst e3
          obtain ⟨oc, od, dt, sl⟩ := o2
          simp only at h2 h3
          subst h2 h3
          exact PySem.W.kia_tup Z I.kIn pp h1 (kitAny_of ne) hx fun tk => ⟨.bl _, H, I.tok tk, rfl, hq⟩
        · obtain ⟨u1, u2, rfl, s1, s2⟩ := vals2 r
          cases s2
          obtain ⟨P, Z, pp, hx⟩ := kit_of I s1 (kindF_ty rh r2 q1)
          have e3 := ClsV.all pc rr
          obtain ⟨oc, od, dt, sl⟩ := o
          simp only at c d
          subst c d
          have h1 := I.kIn _ _ k
          have e4 : its = (List.map (fun u => Value.type (BT.name u)) ts).toArray := by rw [← e3]
          subst e4
          exact PySem.W.kia_tup Z I.kIn pp h1 (kitAny_of ne) hx fun tk => ⟨.bl _, H, I.tok tk, rfl, hq⟩
    · cases e
  · cases e

/-! ### - a, displays, subscripts -/
def cNeg (ea : EvE) : EvE := fun σ h => (ea σ h).bind fun x h1 => match x with
  | .int i => .ok (.int (-i)) h1
  | _ => .stuck
theorem fe_neg (ha : FE X W a ea) : FE X W (.UnaryOp .USub a pos) (cNeg ea) := by
  refine pe_imp (pe_un un_neg ha) fun σ H Q ⟨ρ, σf, h, rs, rh, p⟩ => ?_
  refine core rs rh p fun ρ1 H1 h1 x u e1 rs1 rh1 r1 p1 => ?_
  cases x with
  | int i =>
    cases r1
    exact ⟨i, rfl, Post.ok_ (x := FV.int (-i)) p1 rh1 (.int _)⟩
  | _ => exact p1.elim
def small (n : Nat) : Bool := decide (n ≤ sizeLine)
def cTup (er : EvA) : EvE := fun σ h => (er σ h).bind fun xs h1 => if small xs.length = true then .ok (.tup xs) h1 else .stuck
def cLst (er : EvA) : EvE := fun σ h => (er σ h).bind fun xs h1 => if small xs.length = true then .ok (.ref h1.length) (h1 ++ [.lst xs]) else .stuck
theorem fe_tup {x1 : Nat} (h : FA X W es er) : FE X W (.Tuple es x1 pos) (cTup er) := by
  refine pe_imp (pe_tup h) fun σ H Q ⟨ρ, σf, h, rs, rh, p⟩ => ?_
  refine core (R1 := RVs X.K) rs rh p fun ρ1 H1 h1 xs vs e1 rs1 rh1 r1 p1 => ?_
  by_cases z : small xs.length = true
  · rw [if_pos z] at p1
    exact ⟨by rw [r1.len']; exact of_decide_eq_true z, fun q hq => new_tup rh1 r1 p1 q hq⟩
  · rw [if_neg z] at p1
    exact p1.elim
theorem fe_lst (h : FA X W es er) : FE X W (.List es pos) (cLst er) := by
  refine pe_imp (pe_lst h) fun σ H Q ⟨ρ, σf, h, rs, rh, p⟩ => ?_
  refine core (R1 := RVs X.K) rs rh p fun ρ1 H1 h1 xs vs e1 rs1 rh1 r1 p1 => ?_
  by_cases z : small xs.length = true
  · rw [if_pos z] at p1
    exact ⟨by rw [r1.len']; exact of_decide_eq_true z, fun q hq => new_list rh1 r1 p1 q hq⟩
  · rw [if_neg z] at p1
    exact p1.elim
theorem atI_rel {K : PySem.W.Frag} {ρ : List Addr} {H : Hp} {xs : List FV} {vs : List V} {i : Int} {y : FV} (r : RVs K ρ H xs vs) (e : atI xs i = some y) : ∃ v, atI vs i = some v ∧ RV K ρ H y v := by
  unfold atI at e ⊢
  rw [r.len'] at *
  cases q : ixN xs.length i with
  | none => rw [q] at e; cases e
  | some j =>
    rw [q] at e
    obtain ⟨v, e1, r1⟩ := r.get (i := j) e
    exact ⟨v, e1, r1⟩
def fkey : FV → Option Key
  | .int i => some (.inl i)
  | .str x => some (.inr x)
  | _ => none
def lookF (kvs : List (Key × FV)) (k : Key) : Option FV := (kvs.find? fun q => decide (q.1 = k)).map (·.2)
theorem lookF_of {K : PySem.W.Frag} {ρ : List Addr} {H : Hp} {k : Key} : ∀ {kvs : List (Key × FV)} {vs : List (Key × V)}, RK K ρ H kvs vs → (∀ y, lookF kvs k = some y → ∃ v, valV vs k = some v ∧ RV K ρ H y v) ∧ (lookF kvs k = none → valV vs k = none)
  | _, _, .nil => ⟨fun y e => (by cases e), fun _ => rfl⟩
  | _, _, @RK.cons _ _ _ _ _ j x v xs vs r1 r2 => by
    obtain ⟨i1, i2⟩ := lookF_of (k := k) r2
    unfold lookF valV
    rw [List.find?_cons, List.find?_cons]
    by_cases z : j = k
    · rw [decide_eq_true z]
      exact ⟨fun y e => ⟨v, rfl, by cases (Option.some.inj e); exact r1⟩, fun e => (by cases e)⟩
    · rw [decide_eq_false z]
      exact ⟨i1, i2⟩
def ixF : Op2 := fun x y h => match x, y with
  | .str z, .int i => if z.length ≤ sizeLine then (match atI z.cps.toList i with
    | some c => some (.str ⟨#[c]⟩, h)
    | none => none) else none
  | x, y => match seqF x h with
    | some xs => (match y with
      | .int i => (match atI xs i with
        | some v => some (v, h)
        | none => none)
      | _ => none)
    | none => match x with
      | .ref n => (match h[n]?, fkey y with
        | some (.dic kvs), some k => (match lookF kvs k with
          | some v => some (v, h)
          | none => none)
        | _, _ => none)
      | _ => none
theorem fkey_of {K : PySem.W.Frag} {ρ : List Addr} {H : Hp} {y : FV} {u : V} {k : Key} (r : RV K ρ H y u) (e : fkey y = some k) : u = kV k := by
  cases r with
  | int i => cases e; rfl
  | str i => cases e; rfl
  | _ => cases e
def isDic (x : FV) (h : FH) : Bool := match x with
  | .ref n => (match h[n]? with
    | some (.dic _) => true
    | _ => false)
  | _ => false
theorem fe_ix (hu : X.A.units + 1 < cLine) (ha : FE X W a ea) (hb : FE X W b eb) (hs : PlainIx b := by exact fun _ _ => rfl) (hs2 : NoSl b := by exact fun _ _ => rfl) : FE X W (.Subscript a b pos) (cBin ixF ea eb) := by
  refine fe_two (r1 := rIx X.K) (r2 := fun x y H2 Q => ∃ a v, x = .ref a ∧ DGet H2 a y (some v) ∧ Q v H2) (fun fx _ h => !isDic fx h) (pe_ix (pos := pos) ix_seq ha hb hs) (pe_dget (pos := pos) hu ha hb hs2) (fun _ _ _ z => z) (fun _ _ _ z => z) ?_ ?_
  · intro fx fy h z x y H ρ Q c e r1 r2 rh go
    unfold ixF at e
    split at e
    · rename_i z' i
      split at e
      · rename_i hl
        split at e
        · rename_i cc q
          cases e
          cases r1
          cases r2
          exact .inr (.inr ⟨_, _, cc, rfl, rfl, hl, q, go ρ H _ .refl rh (.str _)⟩)
        · cases e
      · cases e
    · split at e
      · rename_i xs q
        split at e
        · rename_i i
          split at e
          · rename_i v q2
            cases e
            cases r2
            obtain ⟨a, ws, rfl, sq, rw_⟩ := seqF_of rh r1 q
            obtain ⟨u, e1, r3⟩ := atI_rel rw_ q2
            rcases sq with sq | sq
            · exact .inl ⟨a, ws, _, u, rfl, rfl, sq, e1, go ρ H _ .refl rh r3⟩
            · exact .inr (.inl ⟨a, ws, _, u, rfl, rfl, sq, e1, go ρ H _ .refl rh r3⟩)
          · cases e
        · cases e
      · split at e
        · rename_i n
          split at e
          · rename_i kvs k q1 q2
            simp only [isDic, q1] at c
            exact absurd c (by decide)
          · cases e
        · cases e
  · intro fx fy h z x y H ρ Q c e r1 r2 rh go
    unfold isDic at c
    split at c
    · rename_i n
      split at c
      · rename_i kvs q0
        unfold ixF at e
        simp only [seqF, q0] at e
        split at e
        · rename_i kvs' k q1 q2
          cases q1
          split at e
          · rename_i v q3
            cases e
            cases r1 with
            | ref qn =>
              obtain ⟨vs, a1, a2⟩ := rh.ref q0 qn
              obtain ⟨u, b1, b2⟩ := (lookF_of a2).1 v q3
              rw [fkey_of r2 q2]
              refine ⟨_, u, rfl, ?_, go ρ H _ .refl rh b2⟩
              rw [← b1]
              exact DGet.k a1
          · cases e
        · cases e
      · exact absurd c (by decide)
    · exact absurd c (by decide)
end
end FX
set_option maxRecDepth 100000
set_option maxHeartbeats 4000000
namespace FX
open PySem PySem.Spec PyProof.Rows L2
variable [LamT]

/-! ### slices -/
def cutG (xs : List FV) (lo hi : Option Int) : List FV := (xs.drop (HT.sIx xs.length 0 lo)).take (HT.sIx xs.length xs.length hi - HT.sIx xs.length 0 lo)
theorem cutG_of {K : PySem.W.Frag} {ρ : List Addr} {H : Hp} {xs : List FV} {vs : List V} (r : RVs K ρ H xs vs) (lo hi : Option Int) : RVs K ρ H (cutG xs lo hi) (cutV vs lo hi) := by
  unfold cutG cutV
  rw [r.len']
  exact (r.drop _).take _
abbrev EvO := FSt → FH → Res (Option Int)
def RO_ : Rel (Option Int) (Option Int) := fun _ _ a b => a = b
abbrev FO_ (X : Cx) (W : Wsh) (e : Option Expr) (ev : EvO) : Prop := PO X e (tG RO_ X.K W ev)
def cNoP : EvO := fun _ h => .ok none h
def cPart (ea : EvE) : EvO := fun σ h => (ea σ h).bind fun x h1 => match x with
  | .int i => .ok (some i) h1
  | _ => .stuck
def lstF (n : Nat) (h : FH) : Option (List FV) := match h[n]? with
  | some (.lst xs) => some xs
  | some (.ro xs) => some xs
  | _ => none
theorem lstF_of {K : PySem.W.Frag} {ρ : List Addr} {h : FH} {H : Hp} (rh : RH K ρ h H) {n : Nat} {a : Addr} {xs : List FV} (q : ρ[n]? = some a) (e : lstF n h = some xs) : ∃ vs, SqL K H a vs ∧ RVs K ρ H xs vs := by
  unfold lstF at e
  split at e
  · rename_i ys z
    cases e
    obtain ⟨vs, q1, q2⟩ := rh.ref z q
    exact ⟨vs, .of q1, q2⟩
  · rename_i ys z
    cases e
    exact ro_sq (rh.ref z q)
  · cases e
def slF (x : FV) (lo hi : Option Int) (h : FH) : Option (FV × FH) := match x with
  | .tup xs => some (.tup (cutG xs lo hi), h)
  | .ref n => (match lstF n h with
    | some xs => some (.ref h.length, h ++ [.lst (cutG xs lo hi)])
    | none => none)
  | _ => none
def cSl (ea : EvE) (elo ehi : EvO) : EvE := fun σ h => (ea σ h).bind fun x h1 => (elo σ h1).bind fun lo h2 => (ehi σ h2).bind fun hi h3 => Res.of (slF x lo hi h3)
section
variable {X : Cx} {W : Wsh} {a b e : Expr} {es : List Expr} {ea eb : EvE} {er : EvA} {pos p p2 : Pos} {x : Str}
theorem fo_none : FO_ X W none cNoP := by
  refine ⟨fun pins s σ H Q I ⟨ρ, σf, h, rs, rh, p⟩ => ?_⟩
  exact (po_none (X := X)).run pins s σ H Q I (Post.ok_ (R := RO_) p rh rfl)
theorem fo_some (ha : FE X W a ea) : FO_ X W (some a) (cPart ea) := by
  refine ⟨fun pins s σ H Q I ⟨ρ, σf, h, rs, rh, p⟩ => ?_⟩
  refine (po_some ha).run pins s σ H Q I (core rs rh p fun ρ1 H1 h1 x u e1 rs1 rh1 r1 p1 => ?_)
  cases x with
  | int i =>
    cases r1
    exact ⟨i, rfl, Post.ok_ (R := RO_) p1 rh1 rfl⟩
  | _ => exact p1.elim
theorem fe_slice {lo hi : Option Expr} {elo ehi : EvO} (ha : FE X W a ea) (hl : FO_ X W lo elo) (hh : FO_ X W hi ehi) : FE X W (.Subscript a (.Slice lo hi none p2) pos) (cSl ea elo ehi) := by
  refine pe_imp (pe_slice (sl_tupA.or sl_list) ha hl hh) fun σ H Q ⟨ρ, σf, h, rs, rh, p⟩ => ?_
  refine core rs rh p fun ρ1 H1 h1 y u e1 rs1 rh1 r1 p1 => ?_
  refine core (R1 := RO_) rs1 rh1 p1 fun ρ2 H2 h2 l l' e2 rs2 rh2 r2 p2' => ?_
  refine core (R1 := RO_) rs2 rh2 p2' fun ρ3 H3 h3 k k' e3 rs3 rh3 r3 p3 => ?_
  cases r2
  cases r3
  have ry := (r1.ev e2).ev e3
  cases q : slF y l k h3 with
  | none =>
    rw [q] at p3
    exact p3.elim
  | some z =>
    rw [q] at p3
    cases ry with
    | tup sq rw_ =>
      cases q
      refine .inl ⟨_, _, rfl, sq, fun w => ?_, fun _ p hp => new_tup rh3 (cutG_of rw_ _ _) p3 p hp⟩
      refine p3 _ _ _ .refl rh3 (.tup sq ?_)
      have g := cutG_of rw_ l k
      unfold cutV at g
      rw [w.1, w.2] at g
      simpa using g
    | ref qn =>
      simp only [slF] at q
      split at q
      · rename_i xs qs
        cases q
        obtain ⟨ws, sq, rw_⟩ := lstF_of rh3 qn qs
        exact .inr ⟨_, ws, rfl, sq, fun p hp => new_list rh3 (cutG_of rw_ _ _) p3 p hp⟩
      · cases q
    | _ => cases q

/-! ### statements -/
def PostS (K : PySem.W.Frag) (W : Wsh) (ρ : List Addr) (H : Hp) (D : Ends) : SR → Prop
  | .nx σf h => ∀ (ρ' : List Addr) (H' : Hp) (σ' : L2.St), Ev K ρ H ρ' H' → RS K W ρ' H' σf σ' → RH K ρ' h H' → D.nx σ' H'
  | .rt v h => ∀ (ρ' : List Addr) (H' : Hp) (u : V), Ev K ρ H ρ' H' → RH K ρ' h H' → RV K ρ' H' v u → D.rt u H'
  | .bk σf h => ∀ (ρ' : List Addr) (H' : Hp) (σ' : L2.St), Ev K ρ H ρ' H' → RS K W ρ' H' σf σ' → RH K ρ' h H' → D.bk σ' H'
  | .ct σf h => ∀ (ρ' : List Addr) (H' : Hp) (σ' : L2.St), Ev K ρ H ρ' H' → RS K W ρ' H' σf σ' → RH K ρ' h H' → D.ct σ' H'
  | .ex c fs σf h => ∀ (ρ' : List Addr) (H' : Hp) (σ' : L2.St) (d : Option Addr), Ev K ρ H ρ' H' → RS K W ρ' H' σf σ' → RH K ρ' h H' → XD K ρ' H' fs d → W.w (.ref (xA K c)) d σ' H'
  | .stuck => False
theorem PostS.at_ {K : PySem.W.Frag} {W : Wsh} {ρ ρ1 : List Addr} {H H1 : Hp} {D : Ends} {r : SR} (p : PostS K W ρ H D r) (e : Ev K ρ H ρ1 H1) : PostS K W ρ1 H1 D r := by
  cases r with
  | nx σf h => exact fun ρ' H' σ' e' => p ρ' H' σ' (e.trans e')
  | rt v h => exact fun ρ' H' u e' => p ρ' H' u (e.trans e')
  | bk σf h => exact fun ρ' H' σ' e' => p ρ' H' σ' (e.trans e')
  | ct σf h => exact fun ρ' H' σ' e' => p ρ' H' σ' (e.trans e')
  | ex c fs σf h => exact fun ρ' H' σ' d e' => p ρ' H' σ' d (e.trans e')
  | stuck => exact p
def tS (K : PySem.W.Frag) (W : Wsh) (ev : EvS) : TS := fun D σ H => ∃ (ρ : List Addr) (σf : FSt) (h : FH), RS K W ρ H σf σ ∧ RH K ρ h H ∧ PostS K W ρ H D (ev σf h)
abbrev FS (X : Cx) (W : Wsh) (st : Stmt) (ev : EvS) : Prop := PS X st (tS X.K W ev)
abbrev FSs (X : Cx) (W : Wsh) (st : List Stmt) (ev : EvS) : Prop := PSs X st (tS X.K W ev)
/-- an expression, then a statement -/
def Res.toS {α : Type} (r : Res α) (σ : FSt) (k : α → FH → SR) : SR := match r with
  | .ok x h => k x h
  | .exc c fs h => .ex c fs σ h
  | .stuck => .stuck
theorem coreS {α β : Type} {K : PySem.W.Frag} {W : Wsh} {R1 : Rel α β} {ρ : List Addr} {H : Hp} {σf : FSt} {σ : L2.St} {h : FH} {ev : FSt → FH → Res α} {k : α → FH → SR} {D : Ends} {Q1 : β → Hp → Prop}
    (rs : RS K W ρ H σf σ) (rh : RH K ρ h H) (p : PostS K W ρ H D ((ev σf h).toS σf k))
    (go : ∀ (ρ1 : List Addr) (H1 : Hp) (h1 : FH) (b : α) (u : β), Ev K ρ H ρ1 H1 → RS K W ρ1 H1 σf σ → RH K ρ1 h1 H1 → R1 ρ1 H1 b u → PostS K W ρ1 H1 D (k b h1) → Q1 u H1) : tG R1 K W ev σ H Q1 := by
  refine ⟨ρ, σf, h, rs, rh, ?_⟩
  cases e : ev σf h with
  | ok b h1 =>
    rw [e] at p
    exact fun ρ1 H1 u e1 rh1 r1 => go ρ1 H1 h1 b u e1 (rs.ev e1) rh1 r1 (PostS.at_ (r := k b h1) p e1)
  | exc c fs h1 =>
    rw [e] at p
    exact fun ρ1 H1 d e1 rh1 q => p ρ1 H1 σ d e1 (rs.ev e1) rh1 q
  | stuck =>
    rw [e] at p
    exact p.elim
def sSkip : EvS := fun σ h => .nx σ h
def SR.then_ (r : SR) (k : EvS) : SR := match r with
  | .nx σ h => k σ h
  | r => r
def sSeq (a b : EvS) : EvS := fun σ h => (a σ h).then_ b
section
variable {st : Stmt} {sts : List Stmt} {ev ev' : EvS}
theorem fss_nil : FSs X W [] sSkip := pss_imp pss_nil fun D σ H ⟨ρ, σf, h, rs, rh, p⟩ => p ρ H σ .refl rs rh
theorem fss_one (h : FS X W st ev) : FSs X W [st] ev := pss_one h
theorem fss_cons (h1 : FS X W st ev) (h2 : FSs X W sts ev') : FSs X W (st :: sts) (sSeq ev ev') := by
  refine pss_imp (pss_cons h1 h2) fun D σ H ⟨ρ, σf, h, rs, rh, p⟩ => ⟨ρ, σf, h, rs, rh, ?_⟩
  unfold sSeq at p
  cases e : ev σf h with
  | nx σ1 h1 =>
    rw [e] at p
    exact fun ρ' H' σ' e' rs' rh' => ⟨ρ', σ1, h1, rs', rh', PostS.at_ (r := ev' σ1 h1) p e'⟩
  | rt v h1 => rw [e] at p; exact p
  | bk σ1 h1 => rw [e] at p; exact p
  | ct σ1 h1 => rw [e] at p; exact p
  | ex c fs σ1 h1 => rw [e] at p; exact p
  | stuck => rw [e] at p; exact p
def sRet (ea : EvE) : EvS := fun σ h => (ea σ h).toS σ fun v h1 => .rt v h1
def sRetN : EvS := fun _ h => .rt .non h
def sExpr (ea : EvE) : EvS := fun σ h => (ea σ h).toS σ fun _ h1 => .nx σ h1
def sBrk : EvS := fun σ h => .bk σ h
def sCont : EvS := fun σ h => .ct σ h
def sAsg (i : Nat) (ea : EvE) : EvS := fun σ h => (ea σ h).toS σ fun v h1 => .nx (σ.set i (some v)) h1
theorem fs_ret (ha : FE X W a ea) : FS X W (.Return (some a) pos) (sRet ea) := by
  refine ps_imp (ps_ret ha) fun D σ H ⟨ρ, σf, h, rs, rh, p⟩ => ?_
  exact coreS rs rh p fun ρ1 H1 h1 x u e1 rs1 rh1 r1 p1 => p1 ρ1 H1 u .refl rh1 r1
theorem fs_retN : FS X W (.Return none pos) sRetN := ps_imp ps_retN fun D σ H ⟨ρ, σf, h, rs, rh, p⟩ => p ρ H .non .refl rh .non
theorem fs_expr (ha : FE X W a ea) (hs : swapsWith a none pos.line X.env = pure false := by rfl) : FS X W (.Expr a pos) (sExpr ea) := by
  refine ps_imp (ps_expr ha hs) fun D σ H ⟨ρ, σf, h, rs, rh, p⟩ => ?_
  exact coreS (R1 := RV X.K) rs rh p fun ρ1 H1 h1 x u e1 rs1 rh1 r1 p1 => p1 ρ1 H1 σ .refl rs1 rh1
theorem fs_pass : FS X W (.Pass pos) sSkip := ps_imp ps_pass fun D σ H ⟨ρ, σf, h, rs, rh, p⟩ => p ρ H σ .refl rs rh
theorem fs_break : FS X W (.Break pos) sBrk := ps_imp ps_break fun D σ H ⟨ρ, σf, h, rs, rh, p⟩ => p ρ H σ .refl rs rh
theorem fs_cont : FS X W (.Continue pos) sCont := ps_imp ps_continue fun D σ H ⟨ρ, σf, h, rs, rh, p⟩ => p ρ H σ .refl rs rh
theorem fs_asg (i : Nat) {pos' : Pos} (ha : FE X W a ea) (hN : X.N.Nodup) (hi : X.N[i]? = some x := by rfl) (hx : Loc X.env.scope x := by first | exact Or.inl rfl | exact Or.inr rfl) (hs : swapsWith a (some (.Name x pos')) pos.line X.env = pure false := by rfl)
    (hf : X.fn x = true ∨ X.env.scope.names.lookup x = some .local := by first | exact .inl rfl | exact .inr rfl) : FS X W (.Assign [.Name x pos'] a pos) (sAsg i ea) := by
  refine ps_imp (ps_set hN hi hx ha hs hf) fun D σ H ⟨ρ, σf, h, rs, rh, p⟩ => ?_
  exact coreS rs rh p fun ρ1 H1 h1 y u e1 rs1 rh1 r1 p1 => p1 ρ1 H1 _ .refl (rs1.set i r1) rh1
def sIf (tc : EvT) (ev ev' : EvS) : EvS := fun σ h => (tc σ h).toS σ fun b h1 => if b = true then ev σ h1 else ev' σ h1
theorem fs_if {c : Expr} {tc : EvT} {s1 s2 : List Stmt} (hc : FT X W c tc) (h1 : FSs X W s1 ev) (h2 : FSs X W s2 ev') : FS X W (.If c s1 s2 pos) (sIf tc ev ev') := by
  refine ps_imp (ps_if hc h1 h2) fun D σ H ⟨ρ, σf, h, rs, rh, p⟩ => ?_
  refine coreS (R1 := RB) rs rh p fun ρ1 H1 h1 y u e1 rs1 rh1 r1 p1 => ?_
  cases r1
  cases y with
  | true => exact ⟨ρ1, σf, h1, rs1, rh1, p1⟩
  | false => exact ⟨ρ1, σf, h1, rs1, rh1, p1⟩

/-! ### targets: names, tuples of names -/
inductive Tg where
  | nm (i : Nat)
  | tp (ts : List Tg)
  | tt (ts : List Tg)
mutual
def setT (h : FH) : Tg → FV → FSt → Option FSt
  | .nm i, v, σ => some (σ.set i (some v))
  | .tp ts, x, σ => match seqF x h with
    | some xs => setTs h ts xs σ
    | none => none
  | .tt ts, .tup xs, σ => setTs h ts xs σ
  | .tt _, _, _ => none
def setTs (h : FH) : List Tg → List FV → FSt → Option FSt
  | [], [], σ => some σ
  | t :: ts, x :: xs, σ => match setT h t x σ with
    | some σ' => setTs h ts xs σ'
    | none => none
  | _, _, _ => none
end
mutual
def Tg.slots : Tg → List Nat
  | .nm i => [i]
  | .tp ts => Tg.slotsAll ts
  | .tt ts => Tg.slotsAll ts
def Tg.slotsAll : List Tg → List Nat
  | [] => []
  | t :: ts => t.slots ++ Tg.slotsAll ts
end
/-- all other slots stay -/
def But (vs : List Nat) (σ σ' : L2.St) : Prop := σ'.length = σ.length ∧ ∀ i : Nat, i ∉ vs → σ'[i]? = σ[i]?
theorem But.refl {vs : List Nat} {σ : L2.St} : But vs σ σ := ⟨rfl, fun _ _ => rfl⟩
theorem But.trans {vs us : List Nat} {σ σ1 σ2 : L2.St} (a : But vs σ σ1) (b : But us σ1 σ2) : But (vs ++ us) σ σ2 :=
  ⟨b.1.trans a.1, fun i h => (b.2 i fun z => h (List.mem_append_right _ z)).trans (a.2 i fun z => h (List.mem_append_left _ z))⟩
def gF (K : PySem.W.Frag) (W : Wsh) (t : Tg) : TG := fun v σ H Q => ∃ (ρ : List Addr) (σf : FSt) (x : FV) (σf' : FSt) (h : FH), RS K W ρ H σf σ ∧ RH K ρ h H ∧ RV K ρ H x v ∧ setT h t x σf = some σf' ∧ ∀ σ', RS K W ρ H σf' σ' → But t.slots σ σ' → Q σ' H
def gFs (K : PySem.W.Frag) (W : Wsh) (ts : List Tg) : TGs := fun vs σ H Q => ∃ (ρ : List Addr) (σf : FSt) (xs : List FV) (σf' : FSt) (h : FH), RS K W ρ H σf σ ∧ RH K ρ h H ∧ RVs K ρ H xs vs ∧ setTs h ts xs σf = some σf' ∧ ∀ σ', RS K W ρ H σf' σ' → But (Tg.slotsAll ts) σ σ' → Q σ' H
theorem pg_imp {X : Cx} {e : Expr} {t t' : TG} (h : PG X e t) (m : ∀ v σ H Q, t' v σ H Q → t v σ H Q) : PG X e t' := ⟨fun pins s σ H v u Q I r q => h.run pins s σ H v u Q I r (m v σ H Q q)⟩
theorem pgs_imp {X : Cx} {es : List Expr} {t t' : TGs} (h : PGs X es t) (m : ∀ v σ H Q, t' v σ H Q → t v σ H Q) : PGs X es t' := ⟨fun pins s σ H v u Q I r q => h.run pins s σ H v u Q I r (m v σ H Q q)⟩
theorem fg_nm (i : Nat) (hN : X.N.Nodup) (hi : X.N[i]? = some x := by rfl) (hx : Loc X.env.scope x := by first | exact Or.inl rfl | exact Or.inr rfl) (hf : X.fn x = true ∨ X.env.scope.names.lookup x = some .local := by first | exact .inl rfl | exact .inr rfl) : PG X (.Name x pos) (gF X.K W (.nm i)) := by
  refine pg_imp (pg_name hN hi hx hf) fun v σ H Q ⟨ρ, σf, y, σf', h, rs, rh, r, e, go⟩ => ?_
  simp only [setT] at e
  cases e
  refine go _ (rs.set i r) ⟨List.length_set, fun j hj => ?_⟩
  rw [List.getElem?_set_ne]
  intro z
  subst z
  exact hj (by simp only [Tg.slots]; exact List.mem_cons_self)
theorem fgs_nil : PGs X [] (gFs X.K W []) := by
  refine pgs_imp pgs_nil fun v σ H Q ⟨ρ, σf, y, σf', h, rs, rh, r, e, go⟩ => ?_
  cases r with
  | nil =>
    simp only [setTs] at e
    cases e
    exact ⟨rfl, go _ rs .refl⟩
  | cons _ _ => simp [setTs] at e
theorem fgs_cons {t : Tg} {ts : List Tg} (h1 : PG X e (gF X.K W t)) (h2 : PGs X es (gFs X.K W ts)) (hs : (assignEach (e :: es) X.env).map (·.2) = assign e X.env :: (assignEach es X.env).map (·.2) := by rfl) : PGs X (e :: es) (gFs X.K W (t :: ts)) := by
  refine pgs_imp (pgs_cons h1 h2 hs) fun v σ H Q ⟨ρ, σf, y, σf', h, rs, rh, r, e, go⟩ => ?_
  cases r with
  | nil => simp [setTs] at e
  | cons r1 r2 =>
    simp only [setTs] at e
    split at e
    · rename_i σ1 q
      exact ⟨_, _, rfl, ρ, σf, _, σ1, h, rs, rh, r1, q, fun σ' rs' b' => ⟨ρ, σ1, _, σf', h, rs', rh, r2, e, fun σ2 rs2 b2 => go σ2 rs2 (by simp only [Tg.slotsAll]; exact b'.trans b2)⟩⟩
    · cases e
theorem setTs_len {h : FH} : ∀ {ts : List Tg} {xs : List FV} {σ σ' : FSt}, setTs h ts xs σ = some σ' → xs.length = ts.length
  | [], [], _, _, _ => rfl
  | [], _ :: _, _, _, e => by simp [setTs] at e
  | _ :: _, [], _, _, e => by simp [setTs] at e
  | t :: ts, x :: xs, σ, σ', e => by
    simp only [setTs] at e
    split at e
    · rw [List.length_cons, List.length_cons, setTs_len e]
    · cases e
theorem fg_tup {k : Nat} {ts : List Tg} (hc : X.calm = true) (h : PGs X es (gFs X.K W ts)) (hl : es.length = ts.length := by rfl) (hn : (assignEach es X.env).length = es.length := by rfl) (hst : (assignEach es X.env).findIdx? (·.1) = none := by rfl) : PG X (.Tuple es k pos) (gF X.K W (.tp ts)) := by
  refine ⟨fun pins s σ H v u Q I r0 ⟨ρ, σf, y, σf', hh, rs, rh, r, e, go⟩ => ?_⟩
  simp only [setT] at e
  split at e
  · rename_i xs q
    obtain ⟨a, vs, ev, sq, rw_⟩ := seqF_of rh r q
    have rest : gFs X.K W ts vs σ H Q := ⟨ρ, σf, _, σf', hh, rs, rh, rw_, e, fun σ2 rs2 b2 => go σ2 rs2 (by simp only [Tg.slots]; exact b2)⟩
    have len : vs.length = es.length := by rw [rw_.len', setTs_len e, hl]
    rcases sq with sq | sq
    · exact (pg_lst hc h hn hst).run pins s σ H v u Q I r0 ⟨a, vs, ev, sq, len, rest⟩
    · exact (pg_tup hc h hn hst).run pins s σ H v u Q I r0 ⟨a, vs, ev, sq, len, rest⟩
  · cases e
def sAsgT (t : Tg) (ea : EvE) : EvS := fun σ h => (ea σ h).toS σ fun v h1 => match setT h1 t v σ with
  | some σ' => .nx σ' h1
  | none => .stuck
theorem fs_asgT {tg : Expr} {t : Tg} (ha : FE X W a ea) (hg : PG X tg (gF X.K W t)) (hs : swapsWithSole [tg] a pos.line X.env = pure false := by rfl) (hw : swappedStores [tg] a X.env = pure none := by rfl)
    (h1 : (assignEach [tg] X.env).map (·.2) = [assign tg X.env] := by rfl) : FS X W (.Assign [tg] a pos) (sAsgT t ea) := by
  refine ps_imp (ps_asg ha hg hs hw h1) fun D σ H ⟨ρ, σf, h, rs, rh, p⟩ => ?_
  refine coreS rs rh p fun ρ1 H1 h1 y u e1 rs1 rh1 r1 p1 => ?_
  cases q : setT h1 t y σf with
  | none =>
    simp only [q] at p1
    exact p1.elim
  | some σ' =>
    simp only [q] at p1
    exact ⟨ρ1, σf, y, σ', h1, rs1, rh1, r1, q, fun σ2 rs2 _ => p1 ρ1 H1 σ2 .refl rs2 rh1⟩
/-- a, b = e1, e2 of two local names -/
def sPar (i j : Nat) (er : EvA) : EvS := fun σ h => (er σ h).toS σ fun xs h1 => match xs with
  | [v, w] => .nx ((σ.set i (some v)).set j (some w)) h1
  | _ => .stuck
end
end
end FX
set_option maxRecDepth 100000
set_option maxHeartbeats 4000000
namespace FX
open PySem PySem.Spec PyProof.Rows L2
variable [LamT]

/-! ### what a loop walks -/
inductive Src where
  | seq (xs : List FV)
  | own (n : Nat)
  | rng (lo : Int) (k : Nat)
abbrev EvI := FSt → FH → Res Src
def nextI : Src → Nat → FH → Option (Option FV)
  | .seq xs, i, _ => some xs[i]?
  | .own n, i, h => (lstF n h).map fun xs => xs[i]?
  | .rng lo k, i, _ => some (if i < k then some (.int (lo + i)) else none)
def lenI : Src → FH → Nat
  | .seq xs, _ => xs.length
  | .own n, h => match lstF n h with
    | some xs => xs.length
    | none => 0
  | .rng _ k, _ => k
def RI (K : PySem.W.Frag) : Rel Src It := fun ρ H s J => match s with
  | .seq xs => ∃ a vs, J = Itt K a ∧ SqT K H a vs ∧ RVs K ρ H xs vs
  | .own n => ∃ a, J = Itl K a ∧ ρ[n]? = some a
  | .rng lo k => J = Itr lo k
theorem RI.ev {K : PySem.W.Frag} {ρ ρ1 : List Addr} {H H1 : Hp} (e : Ev K ρ H ρ1 H1) : ∀ {s : Src} {J : It}, RI K ρ H s J → RI K ρ1 H1 s J
  | .seq _, _, ⟨a, vs, q, t, r⟩ => ⟨a, vs, q, e.tups _ _ t, r.ev e⟩
  | .own _, _, ⟨a, q, t⟩ => ⟨a, q, e.get t⟩
  | .rng _ _, _, q => q
theorem RI.stop {K : PySem.W.Frag} {ρ : List Addr} {h : FH} {H : Hp} (rh : RH K ρ h H) : ∀ {s : Src} {J : It} {i : Nat}, RI K ρ H s J → nextI s i h = some none → J.stop i H
  | .seq xs, _, i, ⟨a, vs, q, t, r⟩, e => by
    subst q
    have e' := List.getElem?_eq_none_iff.mp (Option.some.inj e)
    exact ⟨vs, t, by rw [← r.len]; exact e'⟩
  | .own n, _, i, ⟨a, q, t⟩, e => by
    subst q
    simp only [nextI] at e
    cases z : lstF n h with
    | none => rw [z] at e; cases e
    | some xs =>
      rw [z] at e
      obtain ⟨vs, sq, r⟩ := lstF_of rh t z
      have e' := List.getElem?_eq_none_iff.mp (Option.some.inj e)
      exact ⟨vs, sq, by rw [← r.len]; exact e'⟩
  | .rng lo k, _, i, q, e => by
    have q : _ = Itr lo k := q
    subst q
    simp only [nextI] at e
    by_cases z : i < k
    · rw [if_pos z] at e
      cases (Option.some.inj e)
    · exact Nat.le_of_not_lt z
theorem RI.go {K : PySem.W.Frag} {ρ : List Addr} {h : FH} {H : Hp} (rh : RH K ρ h H) {x : FV} : ∀ {s : Src} {J : It} {i : Nat}, RI K ρ H s J → nextI s i h = some (some x) → J.go i H ∧ ∀ v H', J.yld i H v H' → H' = H ∧ RV K ρ H x v
  | .seq xs, _, i, ⟨a, vs, q, t, r⟩, e => by
    subst q
    obtain ⟨v, e1, r1⟩ := r.get (Option.some.inj e)
    exact ⟨⟨vs, v, t, e1⟩, fun u H' ⟨z1, z2⟩ => ⟨z1, by
      have := z2 vs t
      rw [e1] at this
      cases this
      exact r1⟩⟩
  | .own n, _, i, ⟨a, q, t⟩, e => by
    subst q
    simp only [nextI] at e
    cases z : lstF n h with
    | none => rw [z] at e; cases e
    | some xs =>
      rw [z] at e
      obtain ⟨vs, sq, r⟩ := lstF_of rh t z
      obtain ⟨v, e1, r1⟩ := r.get (Option.some.inj e)
      exact ⟨⟨vs, v, sq, e1⟩, fun u H' ⟨z1, z2⟩ => ⟨z1, by
        have := z2 vs sq
        rw [e1] at this
        cases this
        exact r1⟩⟩
  | .rng lo k, _, i, q, e => by
    have q : _ = Itr lo k := q
    subst q
    simp only [nextI] at e
    by_cases z : i < k
    · rw [if_pos z] at e
      cases e
      exact ⟨z, fun u H' ⟨z1, z2⟩ => ⟨z1, by rw [z2]; exact .int _⟩⟩
    · rw [if_neg z] at e
      cases (Option.some.inj e)
abbrev FI (X : Cx) (W : Wsh) (tg e : Expr) (ei : EvI) : Prop := PI X tg e (tG (RI X.K) X.K W ei)
def cIt (ea : EvE) : EvI := fun σ h => (ea σ h).bind fun x h1 => match x with
  | .tup xs => .ok (.seq xs) h1
  | .ref n => (match lstF n h1 with
    | some _ => .ok (.own n) h1
    | none => .stuck)
  | _ => .stuck
def bnd (i : Int) : Bool := decide (-(2 ^ 62) ≤ i ∧ i < 2 ^ 62)
def cRng1 (er : EvA) : EvI := fun σ h => (er σ h).bind fun xs h1 => match xs with
  | [.int j] => if bnd j = true then .ok (.rng 0 j.toNat) h1 else .stuck
  | _ => .stuck
def cRng2 (er : EvA) : EvI := fun σ h => (er σ h).bind fun xs h1 => match xs with
  | [.int i, .int j] => if (bnd i && bnd j) = true then .ok (.rng i (j - i).toNat) h1 else .stuck
  | _ => .stuck
def forG (s : Src) (t : Tg) (b : EvS) : Nat → Nat → FSt → FH → SR
  | 0, _, _, _ => .stuck
  | f + 1, i, σ, h => match nextI s i h with
    | none => .stuck
    | some none => .nx σ h
    | some (some x) => match setT h t x σ with
      | none => .stuck
      | some σ1 => match b σ1 h with
        | .nx σ2 h2 => forG s t b f (i + 1) σ2 h2
        | .ct σ2 h2 => forG s t b f (i + 1) σ2 h2
        | .bk σ2 h2 => .nx σ2 h2
        | r => r
def sFor (ei : EvI) (t : Tg) (b : EvS) : EvS := fun σ h => (ei σ h).toS σ fun s h1 => forG s t b (lenI s h1 + 1) 0 σ h1
def whL (tc : EvT) (b : EvS) : Nat → FSt → FH → SR
  | 0, _, _ => .stuck
  | f + 1, σ, h => (tc σ h).toS σ fun k h1 => if k = true then (match b σ h1 with
      | .nx σ2 h2 => whL tc b f σ2 h2
      | .ct σ2 h2 => whL tc b f σ2 h2
      | .bk σ2 h2 => .nx σ2 h2
      | r => r) else .nx σ h1
def FUEL : Nat := 1000000000
def sWhile (tc : EvT) (b : EvS) : EvS := fun σ h => whL tc b FUEL σ h
section
variable {X : Cx} {W : Wsh} {a b e : Expr} {es : List Expr} {ea eb : EvE} {er : EvA} {pos p p2 : Pos} {x : Str} {tg : Expr}
theorem fi_val (ha : FE X W e ea) : FI X W tg e (cIt ea) := by
  refine ⟨fun pins s σ H R I ⟨ρ, σf, h, rs, rh, p⟩ => ?_⟩
  by_cases c : ∃ xs h1, ea σf h = .ok (.tup xs) h1
  · obtain ⟨xs, h1, c⟩ := c
    refine (pi_tup ha).run pins s σ H R I (coreE rs rh p fun ρ1 H1 h2 y u q1 e1 rs1 rh1 r1 p1 => ?_)
    rw [c] at q1
    cases q1
    cases r1 with
    | tup sq rw_ => exact ⟨_, rfl, ⟨_, sq⟩, Post.ok_ (R := RI X.K) (x := Src.seq xs) p1 rh1 ⟨_, _, rfl, sq, rw_⟩⟩
  · refine (pi_list ha).run pins s σ H R I (coreE rs rh p fun ρ1 H1 h2 y u q1 e1 rs1 rh1 r1 p1 => ?_)
    cases r1 with
    | tup _ _ => exact absurd ⟨_, _, q1⟩ c
    | ref qn =>
      rename_i n a'
      cases z : lstF n h2 with
      | none =>
        simp only [z] at p1
        exact p1.elim
      | some xs =>
        simp only [z] at p1
        obtain ⟨vs, sq, rw_⟩ := lstF_of rh1 qn z
        exact ⟨_, rfl, ⟨_, sq⟩, Post.ok_ (R := RI X.K) (x := Src.own n) p1 rh1 ⟨_, rfl, qn⟩⟩
    | _ => exact p1.elim
theorem fi_rng1 (hm : X.mg "range" = none) (ha : FA X W [a] er) (hg : Gl X "range" := by rfl) (hs : starEach [a] X.env = [(false, eval a X.env)] := by rfl) : FI X W tg (.Call (.Name "range" p) [a] [] pos) (cRng1 er) := by
  refine ⟨fun pins s σ H R I ⟨ρ, σf, h, rs, rh, p⟩ => ?_⟩
  refine (pi_range1 hg hm ha hs).run pins s σ H R I (core (R1 := RVs X.K) rs rh p fun ρ1 H1 h1 xs vs e1 rs1 rh1 r1 p1 => ?_)
  split at p1
  · rename_i j
    split at p1
    · rename_i z
      obtain ⟨v, rfl, r2⟩ := one_of r1
      cases r2
      have z := of_decide_eq_true z
      exact ⟨j, rfl, z.1, z.2, Post.ok_ (R := RI X.K) (x := Src.rng 0 j.toNat) p1 rh1 rfl⟩
    · exact p1.elim
  · exact p1.elim
theorem fi_rng2 (hm : X.mg "range" = none) (ha : FA X W [a, b] er) (hg : Gl X "range" := by rfl) (hs : starEach [a, b] X.env = [(false, eval a X.env), (false, eval b X.env)] := by rfl) (hs2 : starEach [b] X.env = [(false, eval b X.env)] := by rfl) :
    FI X W tg (.Call (.Name "range" p) [a, b] [] pos) (cRng2 er) := by
  refine ⟨fun pins s σ H R I ⟨ρ, σf, h, rs, rh, p⟩ => ?_⟩
  refine (pi_range2 hg hm ha hs hs2).run pins s σ H R I (core (R1 := RVs X.K) rs rh p fun ρ1 H1 h1 xs vs e1 rs1 rh1 r1 p1 => ?_)
  split at p1
  · rename_i i j
    split at p1
    · rename_i z
      obtain ⟨v, u, rfl, r2, r3⟩ := two_of r1
      cases r2
      cases r3
      obtain ⟨z1, z2⟩ := Bool.and_eq_true_iff.mp z
      have z1 := of_decide_eq_true z1
      have z2 := of_decide_eq_true z2
      exact ⟨i, j, rfl, ⟨z1.1, z1.2, z2.1, z2.2⟩, Post.ok_ (R := RI X.K) (x := Src.rng i (j - i).toNat) p1 rh1 rfl⟩
    · exact p1.elim
  · exact p1.elim
theorem PostS.ends {K : PySem.W.Frag} {ρ : List Addr} {H : Hp} {D D' : Ends} {r : SR} (hn : ∀ σ h, r = .nx σ h → PostS K W ρ H D' (.nx σ h)) (hb : ∀ σ h, r = .bk σ h → PostS K W ρ H D' (.bk σ h)) (hc : ∀ σ h, r = .ct σ h → PostS K W ρ H D' (.ct σ h)) (ht : D'.rt = D.rt)
    (hp : (∀ v h, r = .rt v h → PostS K W ρ H D r) ∧ (∀ c fs σ h, r = .ex c fs σ h → PostS K W ρ H D r) ∧ r ≠ .stuck) : PostS K W ρ H D' r := by
  cases r with
  | nx σ h => exact hn σ h rfl
  | bk σ h => exact hb σ h rfl
  | ct σ h => exact hc σ h rfl
  | rt v h =>
    intro ρ' H' u e rh r
    rw [ht]
    exact hp.1 v h rfl ρ' H' u e rh r
  | ex c fs σ h => exact hp.2.1 c fs σ h rfl
  | stuck => exact absurd rfl hp.2.2
theorem fs_for {t : Tg} {ei : EvI} {body : List Stmt} {ev : EvS} (hp : PassesOwn (model X.prog X.w) X.A X.env X.xe) (hc : X.calm = true) (hi : FI X W tg e ei) (hg : PG X tg (gF X.K W t)) (hb : FSs X W body ev) (hs : ∀ x, foldedSetIterable e X.env x = pure x := by intro _; rfl) :
    FS X W (.For tg e body [] pos) (sFor ei t ev) := by
  refine ps_imp (ps_for hp hc hi hg hb hs) fun D σ H ⟨ρ, σf, h, rs, rh, p⟩ => ?_
  refine coreS (R1 := RI X.K) rs rh p fun ρ1 H1 h1 src J e1 rs1 rh1 r1 p1 => ?_
  refine ⟨fun i m σ' H' => ∃ ρ' σf' h', Ev X.K ρ1 H1 ρ' H' ∧ RS X.K W ρ' H' σf' σ' ∧ RH X.K ρ' h' H' ∧ PostS X.K W ρ' H' D (forG src t ev m i σf' h'), ⟨_, ρ1, σf, h1, .refl, rs1, rh1, p1⟩, ?_⟩
  rintro i m σ2 H2 ⟨ρ2, σf2, h2, e2, rs2, rh2, p2⟩
  cases m with
  | zero => exact p2.elim
  | succ m =>
    unfold forG at p2
    have r2 := r1.ev e2
    cases q : nextI src i h2 with
    | none =>
      simp only [q] at p2
      exact p2.elim
    | some o =>
      cases o with
      | none =>
        simp only [q] at p2
        exact .inl ⟨r2.stop rh2 q, p2 ρ2 H2 σ2 .refl rs2 rh2⟩
      | some y =>
        simp only [q] at p2
        obtain ⟨g1, g2⟩ := r2.go rh2 q
        refine .inr ⟨g1, fun σ' H' => ∃ ρ' σf' h', Ev X.K ρ1 H1 ρ' H' ∧ RS X.K W ρ' H' σf' σ' ∧ RH X.K ρ' h' H' ∧ PostS X.K W ρ' H' D (forG src t ev m (i + 1) σf' h'), fun σ' H' n => ⟨m, Nat.lt_succ_self m, n⟩, fun v H' yy => ?_⟩
        obtain ⟨eH, rv⟩ := g2 v H' yy
        subst eH
        cases qs : setT h2 t y σf2 with
        | none =>
          simp only [qs] at p2
          exact p2.elim
        | some σ3 =>
          simp only [qs] at p2
          refine ⟨ρ2, σf2, y, σ3, h2, rs2, rh2, rv, qs, fun σ4 rs4 _ => ⟨ρ2, σ3, h2, rs4, rh2, ?_⟩⟩
          cases qb : ev σ3 h2 with
          | nx σ5 h5 =>
            rw [qb] at p2
            exact fun ρ' H' σ' e' rs' rh' => ⟨ρ', σ5, h5, e2.trans e', rs', rh', p2.at_ e'⟩
          | ct σ5 h5 =>
            rw [qb] at p2
            exact fun ρ' H' σ' e' rs' rh' => ⟨ρ', σ5, h5, e2.trans e', rs', rh', p2.at_ e'⟩
          | bk σ5 h5 =>
            rw [qb] at p2
            exact fun ρ' H' σ' e' rs' rh' => p2 ρ' H' σ' e' rs' rh'
          | rt v5 h5 =>
            rw [qb] at p2
            exact p2
          | ex c fs σ5 h5 =>
            rw [qb] at p2
            exact p2
          | stuck =>
            rw [qb] at p2
            exact p2.elim
theorem fs_while {c : Expr} {tc : EvT} {body : List Stmt} {ev : EvS} (hp : PassesOwn (model X.prog X.w) X.A X.env X.xe) (hc : FT X W c tc) (hb : FSs X W body ev) : FS X W (.While c body [] pos) (sWhile tc ev) := by
  refine ps_imp (ps_while hp hc hb) fun D σ H ⟨ρ, σf, h, rs, rh, p⟩ => ?_
  refine ⟨fun m σ' H' => ∃ ρ' σf' h', RS X.K W ρ' H' σf' σ' ∧ RH X.K ρ' h' H' ∧ PostS X.K W ρ' H' D (whL tc ev m σf' h'), ⟨_, ρ, σf, h, rs, rh, p⟩, ?_⟩
  rintro m σ2 H2 ⟨ρ2, σf2, h2, rs2, rh2, p2⟩
  cases m with
  | zero => exact p2.elim
  | succ m =>
    unfold whL at p2
    refine coreS (R1 := RB) rs2 rh2 p2 fun ρ3 H3 h3 k k' e3 rs3 rh3 r3 p3 => ?_
    cases r3
    cases k with
    | false =>
      rw [if_neg Bool.false_ne_true] at p3 ⊢
      exact p3 ρ3 H3 σ2 .refl rs3 rh3
    | true =>
      rw [if_pos rfl] at p3 ⊢
      refine ⟨fun σ' H' => ∃ ρ' σf' h', RS X.K W ρ' H' σf' σ' ∧ RH X.K ρ' h' H' ∧ PostS X.K W ρ' H' D (whL tc ev m σf' h'), fun σ' H' n => ⟨m, Nat.lt_succ_self m, n⟩, ρ3, σf2, h3, rs3, rh3, ?_⟩
      cases qb : ev σf2 h3 with
      | nx σ5 h5 =>
        rw [qb] at p3
        exact fun ρ' H' σ' e' rs' rh' => ⟨ρ', σ5, h5, rs', rh', p3.at_ e'⟩
      | ct σ5 h5 =>
        rw [qb] at p3
        exact fun ρ' H' σ' e' rs' rh' => ⟨ρ', σ5, h5, rs', rh', p3.at_ e'⟩
      | bk σ5 h5 =>
        rw [qb] at p3
        exact fun ρ' H' σ' e' rs' rh' => p3 ρ' H' σ' e' rs' rh'
      | rt v5 h5 =>
        rw [qb] at p3
        exact p3
      | ex c fs σ5 h5 =>
        rw [qb] at p3
        exact p3
      | stuck =>
        rw [qb] at p3
        exact p3.elim

/-! ### methods of lists -/
abbrev OpM := FV → List FV → FH → Option (FV × FH)
def rM (K : PySem.W.Frag) (g : OpM) : V → List V → Hp → VK → Prop := fun x xs H Q => ∃ (ρ : List Addr) (fx : FV) (fs : List FV) (h : FH) (fz : FV) (h' : FH), RV K ρ H fx x ∧ RVs K ρ H fs xs ∧ RH K ρ h H ∧ g fx fs h = some (fz, h') ∧
  ∀ (ρ' : List Addr) (H' : Hp) (v : V), Ev K ρ H ρ' H' → RH K ρ' h' H' → RV K ρ' H' fz v → Q v H'
def isLst (x : FV) (h : FH) : Bool := match x with
  | .ref n => (match h[n]? with
    | some (.lst _) => true
    | _ => false)
  | _ => false
def cLM (g : OpM) (eo : EvE) (er : EvA) : EvE := fun σ h => (eo σ h).bind fun x h1 => if isLst x h1 = true then ((er σ h1).bind fun xs h2 => Res.of (g x xs h2)) else .stuck
def cLM0 (g : OpM) (eo : EvE) : EvE := fun σ h => (eo σ h).bind fun x h1 => if isLst x h1 = true then Res.of (g x [] h1) else .stuck
theorem isLst_ty {K : PySem.W.Frag} {ρ : List Addr} {h : FH} {H : Hp} (rh : RH K ρ h H) {x : FV} {v : V} (r : RV K ρ H x v) (e : isLst x h = true) : tyV K "list" v H := by
  unfold isLst at e
  split at e
  · split at e
    · rename_i xs q
      cases r with
      | ref qn =>
        obtain ⟨vs, q1, _⟩ := rh.ref q qn
        exact .inl ⟨rfl, vs, .of q1⟩
    · cases e
  · cases e
theorem fe_lm {g : OpM} {o : Expr} {eo : EvE} {name : Str} {id : String} {apos cpos : Pos} (pa : PlainAttrs "list") (slot : Slot "list" name id) (hty : typeOf (.builtin id) = pure (.type "method_descriptor")) (hm : MtR X id (rM X.K g)) (ho : FE X W o eo) (ha : FA X W (e :: es) er)
    (hbase : attributeBase o name X.env (eval o X.env) = eval o X.env := by rfl)
    (hfew : ((backTo cpos (starEach (e :: es) X.env)).all (fun x => !x.1) && (backToKw cpos (keywordEach [] X.env)).all (fun x => x.1.isSome) && decide ((e :: es).length + ([] : List Keyword).length + (if ([] : List Keyword).isEmpty then 0 else 1) < 30)) = true := by rfl)
    (hline : (apos.endLine == cpos.line) = true := by rfl) (hs : starEach (e :: es) X.env = (false, eval e X.env) :: starEach es X.env := by rfl) (hplain : (backTo cpos (starEach es X.env)).any (·.1) = false := by rfl) :
    FE X W (.Call (.Attribute o name apos) (e :: es) [] cpos) (cLM g eo er) := by
  refine pe_imp (pe_bm pa slot hty hm ho ha hbase hfew hline hs hplain) fun σ H Q ⟨ρ, σf, h, rs, rh, p⟩ => ?_
  refine core rs rh p fun ρ1 H1 h1 y v e1 rs1 rh1 r1 p1 => ?_
  by_cases z : isLst y h1 = true
  · rw [if_pos z] at p1
    refine ⟨isLst_ty rh1 r1 z, ?_⟩
    refine core (R1 := RVs X.K) rs1 rh1 p1 fun ρ2 H2 h2 ys vs e2 rs2 rh2 r2 p2 => ?_
    cases q : g y ys h2 with
    | none =>
      rw [q] at p2
      exact p2.elim
    | some w =>
      rw [q] at p2
      exact ⟨ρ2, y, ys, h2, w.1, w.2, r1.ev e2, r2, rh2, q, p2⟩
  · rw [if_neg z] at p1
    exact p1.elim
theorem fe_lm0 {g : OpM} {o : Expr} {eo : EvE} {name : Str} {id : String} {apos cpos : Pos} (pa : PlainAttrs "list") (slot : Slot "list" name id) (hty : typeOf (.builtin id) = pure (.type "method_descriptor")) (hm : MtR X id (rM X.K g)) (ho : FE X W o eo)
    (hbase : attributeBase o name X.env (eval o X.env) = eval o X.env := by rfl) (hline : (apos.endLine == cpos.line) = true := by rfl) : FE X W (.Call (.Attribute o name apos) [] [] cpos) (cLM0 g eo) := by
  refine pe_imp (pe_bm0 pa slot hty hm ho hbase hline) fun σ H Q ⟨ρ, σf, h, rs, rh, p⟩ => ?_
  refine core rs rh p fun ρ1 H1 h1 y v e1 rs1 rh1 r1 p1 => ?_
  by_cases z : isLst y h1 = true
  · rw [if_pos z] at p1
    refine ⟨isLst_ty rh1 r1 z, ?_⟩
    cases q : g y [] h1 with
    | none =>
      rw [q] at p1
      exact p1.elim
    | some w =>
      rw [q] at p1
      exact ⟨ρ1, y, [], h1, w.1, w.2, r1, .nil, rh1, q, p1⟩
  · rw [if_neg z] at p1
    exact p1.elim
/-- a list is written -/
theorem set_lst {K : PySem.W.Frag} {ρ : List Addr} {h : FH} {H : Hp} {n : Nat} {a : Addr} {xs ys : List FV} {vs us : List V} (rh : RH K ρ h H) (qn : ρ[n]? = some a) (e : h[n]? = some (.lst xs)) (q : H a = some (.lst vs)) (r : RVs K ρ H ys us) :
    Ev K ρ H ρ (upd H a (.lst us)) ∧ RH K ρ (h.set n (.lst ys)) (upd H a (.lst us)) := by
  have ev : Ev K ρ H ρ (upd H a (.lst us)) := .wr q trivial
  exact ⟨ev, rh.write e (fun _ _ _ z => z) qn ev ⟨us, upd_same, r.ev ev⟩⟩
def appendF : OpM := fun x ys h => match x, ys with
  | .ref n, [y] => (match h[n]? with
    | some (.lst xs) => if xs.length < sizeLine then some (.non, h.set n (.lst (xs ++ [y]))) else none
    | _ => none)
  | _, _ => none
theorem of_append : MtR X "list.append" (rM X.K appendF) := by
  intro pins s σ H x xs v us Q I rx rxs ⟨ρ, fx, fs, h, fz, h', r1, r2, rh, e, go⟩
  unfold appendF at e
  split at e
  · rename_i n y
    split at e
    · rename_i ys q
      split at e
      · rename_i z
        cases e
        obtain ⟨w, rfl, r3⟩ := one_of r2
        cases r1 with
        | ref qn =>
          obtain ⟨vs, q1, q2⟩ := lst_of rh qn q
          obtain ⟨ev, rh'⟩ := set_lst rh qn q q1 (q2.app (.cons r3 .nil))
          exact mt_append pins s σ H _ _ v us Q I rx rxs ⟨_, vs, w, rfl, rfl, q1, by rw [q2.len']; exact z, go ρ _ _ ev rh' .non⟩
      · cases e
    · cases e
  · cases e
def clearF : OpM := fun x ys h => match x, ys with
  | .ref n, [] => (match h[n]? with
    | some (.lst _) => some (.non, h.set n (.lst []))
    | _ => none)
  | _, _ => none
theorem of_clear : MtR X "list.clear" (rM X.K clearF) := by
  intro pins s σ H x xs v us Q I rx rxs ⟨ρ, fx, fs, h, fz, h', r1, r2, rh, e, go⟩
  unfold clearF at e
  split at e
  · rename_i n
    split at e
    · rename_i ys q
      cases e
      cases r2
      cases r1 with
      | ref qn =>
        obtain ⟨vs, q1, q2⟩ := lst_of rh qn q
        obtain ⟨ev, rh'⟩ := set_lst rh qn q q1 .nil
        exact mt_clear pins s σ H _ _ v us Q I rx rxs ⟨_, vs, rfl, rfl, q1, go ρ _ _ ev rh' .non⟩
    · cases e
  · cases e
end
end FX
set_option maxRecDepth 100000
set_option maxHeartbeats 4000000
namespace FX
open PySem PySem.Spec PyProof.Rows L2
variable [LamT]

/-! ### list comprehensions -/
def wipeF (σ : FSt) : List Nat → FSt
  | [] => σ
  | v :: vs => (wipeF σ vs).set v none
theorem wipeF_rs {K : PySem.W.Frag} {W : Wsh} {ρ : List Addr} {H : Hp} {σf : FSt} {σ : L2.St} (r : RS K W ρ H σf σ) : ∀ vs : List Nat, RS K W ρ H (wipeF σf vs) (wipe σ vs)
  | [] => r
  | v :: vs => by
    have ih := wipeF_rs r vs
    refine ⟨by simp only [wipeF, wipe, List.length_set]; exact ih.len, fun i x h => ?_, r.tabs, r.base⟩
    simp only [wipeF] at h
    simp only [wipe]
    by_cases e : v = i
    · subst e
      by_cases hv : v < (wipeF σf vs).length
      · rw [List.getElem?_set_self hv] at h
        cases (Option.some.inj h)
      · rw [List.getElem?_eq_none (by simpa using hv)] at h
        cases h
    · rw [List.getElem?_set_ne e] at h ⊢
      exact ih.at_ i x h
theorem wipe_at {σ : L2.St} {i : Nat} : ∀ {vs : List Nat}, i ∈ vs → (wipe σ vs)[i]? = if i < σ.length then some none else none
  | [], h => by cases h
  | v :: vs, h => by
    simp only [wipe]
    by_cases e : v = i
    · subst e
      by_cases hv : v < σ.length
      · rw [if_pos hv, List.getElem?_set_self (by rw [wipe_length]; exact hv)]
      · rw [if_neg hv, List.getElem?_eq_none (by rw [List.length_set, wipe_length]; omega)]
    · rw [List.getElem?_set_ne e]
      rcases List.mem_cons.mp h with z | z
      · exact absurd z.symm e
      · exact wipe_at z
theorem wipe_but {σ σ' : L2.St} {vs us : List Nat} (b : But us (wipe σ vs) σ') (hs : ∀ i ∈ us, i ∈ vs) : wipe σ' vs = wipe σ vs := by
  have hl : σ'.length = σ.length := b.1.trans (wipe_length σ vs)
  apply List.ext_getElem?
  intro i
  by_cases hi : i ∈ vs
  · rw [wipe_at hi, wipe_at hi, hl]
  · rw [wipe_out hi]
    exact b.2 i fun z => hi (hs i z)
def lcG (D : Nat) (s : Src) (t : Tg) (tt : EvT) (te : EvE) (σw : FSt) : Nat → Nat → FH → Res FV
  | 0, _, _ => .stuck
  | f + 1, i, h => match nextI s i h with
    | none => .stuck
    | some none => .ok (.ref D) h
    | some (some x) => match setT h t x σw with
      | none => .stuck
      | some σ1 => match tt σ1 h with
        | .ok false h1 => lcG D s t tt te σw f (i + 1) h1
        | .ok true h1 => (match te σ1 h1 with
          | .ok y h2 => (match h2[D]? with
            | some (.lst acc) => if small (acc.length + 1) = true then lcG D s t tt te σw f (i + 1) (h2.set D (.lst (acc ++ [y]))) else .stuck
            | _ => .stuck)
          | _ => .stuck)
        | _ => .stuck
def cLc (ei : EvI) (t : Tg) (vs : List Nat) (tt : EvT) (te : EvE) : EvE := fun σ h => (ei σ h).bind fun s h1 => lcG h1.length s t tt te (wipeF σ vs) (lenI s h1 + 1) 0 (h1 ++ [.lst []])
def cYes : EvT := fun _ h => .ok true h
abbrev FTs (X : Cx) (W : Wsh) (es : List Expr) (ev : EvT) : Prop := PTs X es (tG RB X.K W ev)
section
variable {X : Cx} {W : Wsh} {a b e : Expr} {es : List Expr} {ea eb : EvE} {er : EvA} {pos p p2 : Pos} {x : Str} {tg : Expr}
theorem fts_nil : FTs X W [] cYes := ⟨fun pins s σ H Q I ⟨ρ, σf, h, rs, rh, p⟩ => (pts_nil (X := X)).run pins s σ H Q I (Post.ok_ (R := RB) (x := true) p rh rfl)⟩
theorem fts_one {ta : EvT} (h : FT X W a ta) : FTs X W [a] ta := ⟨fun pins s σ H Q I q => (pts_one h).run pins s σ H Q I q⟩
theorem tLc_of {ei : EvI} {t : Tg} {vs : List Nat} {tt : EvT} {te : EvE} (hsub : ∀ i ∈ t.slots, i ∈ vs) {σ : L2.St} {H : Hp} {Q : VK} (h : tG (RV X.K) X.K W (cLc ei t vs tt te) σ H Q) :
    tLc (tG (RI X.K) X.K W ei) (gF X.K W t) (tG RB X.K W.nox tt) (tG (RV X.K) X.K W.nox te) vs σ H Q := by
  obtain ⟨ρ, σf, h, rs, rh, p⟩ := h
  refine core (R1 := RI X.K) rs rh p fun ρ1 H1 h1 src J e1 rs1 rh1 r1 p1 => ?_
  intro D hD
  have eD : Ev X.K ρ1 H1 (ρ1 ++ [D]) (upd H1 D (.lst [])) := .push hD
  have rhD : RH X.K (ρ1 ++ [D]) (h1 ++ [.lst []]) (upd H1 D (.lst [])) := rh1.push hD eD ⟨[], upd_same, .nil⟩
  have atD : (ρ1 ++ [D])[h1.length]? = some D := by rw [← rh1.len]; simp
  refine ⟨fun i m H' => ∃ ρ' h', Ev X.K (ρ1 ++ [D]) (upd H1 D (.lst [])) ρ' H' ∧ RH X.K ρ' h' H' ∧ Post X.K W (RV X.K) ρ' H' σ (lcG h1.length src t tt te (wipeF σf vs) m i h') Q, ⟨_, _, _, .refl, rhD, p1.at_ eD⟩, ?_⟩
  rintro i m H2 ⟨ρ2, h2, e2, rh2, p2⟩
  cases m with
  | zero => exact p2.elim
  | succ m =>
    unfold lcG at p2
    have r2 := (r1.ev eD).ev e2
    cases q : nextI src i h2 with
    | none =>
      simp only [q] at p2
      exact p2.elim
    | some o =>
      cases o with
      | none =>
        simp only [q] at p2
        exact .inl ⟨r2.stop rh2 q, p2 ρ2 H2 _ .refl rh2 (.ref (e2.get atD))⟩
      | some y =>
        simp only [q] at p2
        obtain ⟨g1, g2⟩ := r2.go rh2 q
        refine .inr ⟨g1, fun H' => ∃ ρ' h', Ev X.K (ρ1 ++ [D]) (upd H1 D (.lst [])) ρ' H' ∧ RH X.K ρ' h' H' ∧ Post X.K W (RV X.K) ρ' H' σ (lcG h1.length src t tt te (wipeF σf vs) m (i + 1) h') Q, fun H' n => ⟨m, Nat.lt_succ_self m, n⟩, fun v H' yy => ?_⟩
        obtain ⟨eH, rv⟩ := g2 v H' yy
        subst eH
        cases qs : setT h2 t y (wipeF σf vs) with
        | none =>
          simp only [qs] at p2
          exact p2.elim
        | some σ3 =>
          simp only [qs] at p2
          refine ⟨ρ2, wipeF σf vs, y, σ3, h2, wipeF_rs (((rs1.ev eD).ev e2)) vs, rh2, rv, qs, fun σ4 rs4 b4 => ⟨wipe_but b4 hsub, ?_⟩⟩
          refine ⟨ρ2, σ3, h2, rs4.wish _, rh2, ?_⟩
          cases qt : tt σ3 h2 with
          | stuck =>
            rw [qt] at p2
            exact p2.elim
          | exc c fs h3 =>
            rw [qt] at p2
            exact p2.elim
          | ok k h3 =>
            rw [qt] at p2
            intro ρ3 H3 k' e3 rh3 r3
            cases r3
            cases k with
            | false =>
              rw [if_neg Bool.false_ne_true]
              exact ⟨ρ3, h3, e2.trans e3, rh3, p2.at_ e3⟩
            | true =>
              rw [if_pos rfl]
              refine ⟨ρ3, σ3, h3, (rs4.ev e3).wish _, rh3, ?_⟩
              cases qe : te σ3 h3 with
              | stuck =>
                simp only [qe] at p2
                exact p2.elim
              | exc c fs h4 =>
                simp only [qe] at p2
                exact p2.elim
              | ok z h4 =>
                simp only [qe] at p2
                intro ρ4 H4 w e4 rh4 r4
                split at p2
                · rename_i acc qa
                  split at p2
                  · rename_i hs
                    have qn := e4.get (e3.get (e2.get atD))
                    obtain ⟨us, u1, u2⟩ := lst_of rh4 qn qa
                    obtain ⟨ev, rh'⟩ := set_lst rh4 qn qa u1 (u2.app (.cons r4 .nil))
                    have hz := of_decide_eq_true hs
                    exact ⟨us, u1, by rw [u2.len']; omega, ρ4, _, ((e2.trans e3).trans e4).trans ev, rh', p2.at_ ((e3.trans e4).trans ev)⟩
                  · exact p2.elim
                · exact p2.elim
theorem fe_lc {ei : EvI} {t : Tg} {own : List (Str × Nat)} {ifs : List Expr} {scope : Scope} {tt : EvT} {te : EvE} (hc : X.calm = true) (hN : X.N.Nodup) (hi : FI X W tg e ei) (hB : blkC X.N X.env.scope scope own = true) (hsub : ∀ i ∈ t.slots, i ∈ own.map (·.2))
    (hg : ∀ (s : Shared) (H : Hp) (C : Addr) (cl : List (Str × Addr)) (fp : List Addr), PG (X.blk s H scope (compEnvC scope cl C X.env) fp) tg (gF X.K W t))
    (ht : ∀ (s : Shared) (H : Hp) (C : Addr) (cl : List (Str × Addr)) (fp : List Addr), PTs (X.blk s H scope (compEnvC scope cl C X.env) fp) ifs (tG RB X.K W.nox tt))
    (he : ∀ (s : Shared) (H : Hp) (C : Addr) (cl : List (Str × Addr)) (fp : List Addr), PE (X.blk s H scope (compEnvC scope cl C X.env) fp) a (tG (RV X.K) X.K W.nox te)) (hs : ∀ x, foldedSetIterable e X.env x = pure x := by intro _; rfl) :
    FE X W (.ListComp a [⟨tg, e, ifs, 0⟩] scope pos) (cLc ei t (own.map (·.2)) tt te) :=
  pe_imp (pe_lc hc hN hi (blkOk_by hB) hg ht he hs) fun _ _ _ h => tLc_of hsub h
/-- name = [..] on one line -/
theorem fs_asgLc {ei : EvI} {t : Tg} {own : List (Str × Nat)} {ifs : List Expr} {scope : Scope} {tt : EvT} {te : EvE} {i : Nat} {y : Str} {py spos : Pos} (hc : X.calm = true) (hN : X.N.Nodup) (hy : X.N[i]? = some y) (hyl : X.env.scope.names.lookup y = some .local)
    (hsw : swapsWith (.ListComp a [⟨tg, e, ifs, 0⟩] scope pos) (some (.Name y py)) spos.line X.env = pure true) (hi : FI X W tg e ei) (hB : blkC X.N X.env.scope scope own = true) (hsub : ∀ i ∈ t.slots, i ∈ own.map (·.2))
    (hg : ∀ (s : Shared) (H : Hp) (C : Addr) (cl : List (Str × Addr)) (fp : List Addr), PG (X.blk s H scope (compEnvC scope cl C X.env) fp) tg (gF X.K W t))
    (ht : ∀ (s : Shared) (H : Hp) (C : Addr) (cl : List (Str × Addr)) (fp : List Addr), PTs (X.blk s H scope (compEnvC scope cl C X.env) fp) ifs (tG RB X.K W.nox tt))
    (he : ∀ (s : Shared) (H : Hp) (C : Addr) (cl : List (Str × Addr)) (fp : List Addr), PE (X.blk s H scope (compEnvC scope cl C X.env) fp) a (tG (RV X.K) X.K W.nox te)) (hs : ∀ x, foldedSetIterable e X.env x = pure x := by intro _; rfl) :
    FS X W (.Assign [.Name y py] (.ListComp a [⟨tg, e, ifs, 0⟩] scope pos) spos) (sAsg i (cLc ei t (own.map (·.2)) tt te)) := by
  refine ps_imp (ps_setLc hc hN hy hyl hsw hi (blkOk_by hB) hg ht he hs) fun D σ H ⟨ρ, σf, h, rs, rh, p⟩ => ?_
  refine tLc_of (W := W) hsub ?_
  exact coreS rs rh p fun ρ1 H1 h1 z u e1 rs1 rh1 r1 p1 => p1 ρ1 H1 _ .refl (rs1.set i r1) rh1

/-! ### stores -/
def setIxF (o i v : FV) (h : FH) : Option FH := match o with
  | .ref n => (match h[n]? with
    | some (.lst xs) => (match i with
      | .int k => (match ixN xs.length k with
        | some j => some (h.set n (.lst (xs.set j v)))
        | none => none)
      | _ => none)
    | some (.dic kvs) => (match fkey i with
      | some k => if kvs.length < sizeLine then some (h.set n (.dic (putK2 kvs k v))) else none
      | none => none)
    | _ => none)
  | _ => none
where putK2 (kvs : List (Key × FV)) (k : Key) (v : FV) : List (Key × FV) := if (kvs.any fun q => decide (q.1 = k)) = true then kvs.map fun q => if q.1 = k then (q.1, v) else q else kvs ++ [(k, v)]
def sSetIx (eo ei ev : EvE) : EvS := fun σ h => (ev σ h).toS σ fun v h1 => (eo σ h1).toS σ fun o h2 => (ei σ h2).toS σ fun i h3 => match setIxF o i v h3 with
  | some h4 => .nx σ h4
  | none => .stuck
/-- a list's place is stored -/
theorem fs_setL {o i v : Expr} {eo ei ev : EvE} {pos' : Pos} (ho : FE X W o eo) (hi : FE X W i ei) (hv : FE X W v ev) (hs : swapsWithSole [.Subscript o i pos'] v pos.line X.env = pure false := by rfl) (hw : swappedStores [.Subscript o i pos'] v X.env = pure none := by rfl)
    (h1 : (assignEach [.Subscript o i pos'] X.env).map (·.2) = [assign (.Subscript o i pos') X.env] := by rfl)
    (ha : ∀ v, assign (.Subscript o i pos') X.env v = (do let ov ← holding [v] (eval o X.env); let iv ← holding [v, ov] (eval i X.env); standAt pos'; holding [v, ov, iv] (setItem ov iv v); release [v, ov, iv] []) := by intro _; rfl) :
    FS X W (.Assign [.Subscript o i pos'] v pos) (fun σ h => (ev σ h).toS σ fun v h1 => (eo σ h1).toS σ fun o h2 => (ei σ h2).toS σ fun i h3 => if isLst o h3 = true then (match setIxF o i v h3 with
      | some h4 => .nx σ h4
      | none => .stuck) else .stuck) := by
  refine ps_imp (ps_asg hv (pg_sub ho hi set_list ha) hs hw h1) fun D σ H ⟨ρ, σf, h, rs, rh, p⟩ => ?_
  refine coreS rs rh p fun ρ1 H1 h1 fv v' e1 rs1 rh1 r1 p1 => ?_
  refine coreS rs1 rh1 p1 fun ρ2 H2 h2 fo o' e2 rs2 rh2 r2 p2 => ?_
  refine coreS rs2 rh2 p2 fun ρ3 H3 h3 fi i' e3 rs3 rh3 r3 p3 => ?_
  split at p3
  · rename_i hl
    unfold isLst at hl
    split at hl
    · rename_i n
      split at hl
      · rename_i xs q
        cases r2 with
        | ref qn =>
          have qn' := e3.get qn
          obtain ⟨vs, q1, q2⟩ := lst_of rh3 qn' q
          simp only [setIxF, q] at p3
          split at p3
          · rename_i h4 qq
            split at qq
            · rename_i k
              split at qq
              · rename_i j qj
                cases qq
                cases r3
                obtain ⟨ev', rh'⟩ := set_lst rh3 qn' q q1 (q2.set ((r1.ev e2).ev e3) j)
                exact ⟨_, vs, k, j, rfl, rfl, q1, by rw [q2.len']; exact qj, p3 ρ3 _ σ ev' (rs3.ev ev') rh'⟩
              · cases qq
            · cases qq
          · exact p3.elim
      · cases hl
    · cases hl
  · exact p3.elim
theorem RK.put {K : PySem.W.Frag} {ρ : List Addr} {H : Hp} {kvs : List (Key × FV)} {vs : List (Key × V)} {k : Key} {y : FV} {u : V} (r : RK K ρ H kvs vs) (ry : RV K ρ H y u) : RK K ρ H (setIxF.putK2 kvs k y) (putK vs k u) := by
  have any_ : (kvs.any fun q => decide (q.1 = k)) = (vs.any fun q => decide (q.1 = k)) := by
    clear ry
    induction r with
    | nil => rfl
    | cons r1 r2 ih => rw [List.any_cons, List.any_cons, ih]
  have map_ : RK K ρ H (kvs.map fun q => if q.1 = k then (q.1, y) else q) (vs.map fun q => if q.1 = k then (q.1, u) else q) := by
    clear any_
    induction r with
    | nil => exact .nil
    | @cons j x v xs ws r1 r2 ih =>
      rw [List.map_cons, List.map_cons]
      by_cases z : j = k
      · rw [if_pos z, if_pos z]
        exact .cons ry ih
      · rw [if_neg z, if_neg z]
        exact .cons r1 ih
  have app_ : RK K ρ H (kvs ++ [(k, y)]) (vs ++ [(k, u)]) := by
    clear any_ map_
    induction r with
    | nil => exact .cons ry .nil
    | cons r1 r2 ih => exact .cons r1 ih
  unfold setIxF.putK2 putK
  rw [any_]
  by_cases z : (vs.any fun q => decide (q.1 = k)) = true
  · rw [if_pos z]
    first
      | (rw [if_pos z]; exact map_)
      | (simp only [z]; exact map_)
  · rw [if_neg z]
    first
      | (rw [if_neg z]; exact app_)
      | (simp only [z]; exact app_)
theorem RK.len {K : PySem.W.Frag} {ρ : List Addr} {H : Hp} {κ : Type} {kvs : List (κ × FV)} {vs : List (κ × V)} (r : RK K ρ H kvs vs) : vs.length = kvs.length := by
  induction r with
  | nil => rfl
  | cons _ _ ih => rw [List.length_cons, List.length_cons, ih]
theorem fs_setD {o i v : Expr} {eo ei ev : EvE} {pos' : Pos} (hu : X.A.units + 1 < cLine) (ho : FE X W o eo) (hi : FE X W i ei) (hv : FE X W v ev) (hs : swapsWith v (some (.Subscript o i pos')) pos.line X.env = pure false := by rfl) :
    FS X W (.Assign [.Subscript o i pos'] v pos) (fun σ h => (ev σ h).toS σ fun v h1 => (eo σ h1).toS σ fun o h2 => (ei σ h2).toS σ fun i h3 => if isDic o h3 = true then (match setIxF o i v h3 with
      | some h4 => .nx σ h4
      | none => .stuck) else .stuck) := by
  refine ps_imp (ps_dput hu ho hi hv hs) fun D σ H ⟨ρ, σf, h, rs, rh, p⟩ => ?_
  refine coreS rs rh p fun ρ1 H1 h1 fv v' e1 rs1 rh1 r1 p1 => ?_
  refine coreS rs1 rh1 p1 fun ρ2 H2 h2 fo o' e2 rs2 rh2 r2 p2 => ?_
  refine coreS rs2 rh2 p2 fun ρ3 H3 h3 fi i' e3 rs3 rh3 r3 p3 => ?_
  split at p3
  · rename_i hl
    unfold isDic at hl
    split at hl
    · rename_i n
      split at hl
      · rename_i kvs q
        cases r2 with
        | ref qn =>
          have qn' := e3.get qn
          obtain ⟨vs, q1, q2⟩ := rh3.ref q qn'
          simp only [setIxF, q] at p3
          split at p3
          · rename_i h4 qq
            split at qq
            · rename_i k qk
              split at qq
              · rename_i hz
                cases qq
                have ek := fkey_of r3 qk
                subst ek
                have ry := (r1.ev e2).ev e3
                have ev' : Ev X.K ρ3 H3 ρ3 (upd H3 _ (.dK (putK vs k v'))) := .wr q1 trivial
                refine ⟨_, upd H3 _ (.dK (putK vs k v')), rfl, DPut.k q1 (by rw [q2.len]; exact hz), p3 ρ3 _ σ ev' (rs3.ev ev') (rh3.write q (fun _ _ _ z => z) qn' ev' ⟨_, upd_same, (q2.put ry).ev ev'⟩)⟩
              · cases qq
            · cases qq
          · exact p3.elim
      · cases hl
    · cases hl
  · exact p3.elim
def cDic0 : EvE := fun _ h => .ok (.ref h.length) (h ++ [.dic []])
theorem fe_dic0 : FE X W (.Dict [] [] pos) cDic0 := by
  refine pe_imp pe_dnewK fun σ H Q ⟨ρ, σf, h, rs, rh, p⟩ => ?_
  intro q hq
  have e : Ev X.K ρ H (ρ ++ [q]) (upd H q (.dK [])) := .push hq
  exact p _ _ _ e (rh.push hq e ⟨[], upd_same, .nil⟩) (.ref (by rw [← rh.len]; simp))

/-! ### a, b = .. of local names on one line -/
theorem fs_par {i j : Nat} {y z : Str} {px py pt pt2 : Pos} {kt k2 : Nat} (hc : X.calm = true) (hN : X.N.Nodup) (ha : FA X W [a, b] er) (hi : X.N[i]? = some y := by rfl) (hj : X.N[j]? = some z := by rfl) (hij : i ≠ j := by decide) (hx : X.env.scope.names.lookup y = some .local := by rfl) (hy : X.env.scope.names.lookup z = some .local := by rfl)
    (hw : swappedStores [.Tuple [.Name y px, .Name z py] kt pt] (.Tuple [a, b] k2 pt2) X.env = pure (some [y, z]) := by rfl) (hs : swapsWithSole [.Tuple [.Name y px, .Name z py] kt pt] (.Tuple [a, b] k2 pt2) pos.line X.env = pure false := by rfl) :
    FS X W (.Assign [.Tuple [.Name y px, .Name z py] kt pt] (.Tuple [a, b] k2 pt2) pos) (sPar i j er) := by
  refine ps_imp (ps_par hc hN hi hj hij hx hy ha hw hs) fun D σ H ⟨ρ, σf, h, rs, rh, p⟩ => ?_
  refine coreS (R1 := RVs X.K) rs rh p fun ρ1 H1 h1 xs vs e1 rs1 rh1 r1 p1 => ?_
  split at p1
  · rename_i v w
    obtain ⟨v', w', rfl, r2, r3⟩ := two_of r1
    exact ⟨v', w', rfl, p1 ρ1 H1 _ .refl ((rs1.set i r2).set j r3) rh1⟩
  · exact p1.elim
def sPar3 (i j k : Nat) (er : EvA) : EvS := fun σ h => (er σ h).toS σ fun xs h1 => match xs with
  | [v, w, u] => .nx (((σ.set i (some v)).set j (some w)).set k (some u)) h1
  | _ => .stuck
theorem fs_par3 {i j k : Nat} {c : Expr} {y z w : Str} {px py pz pt pt2 : Pos} {kt k2 : Nat} (hc : X.calm = true) (hN : X.N.Nodup) (ha : FA X W [a, b, c] er) (hi : X.N[i]? = some y := by rfl) (hj : X.N[j]? = some z := by rfl) (hk : X.N[k]? = some w := by rfl)
    (hij : i ≠ j ∧ i ≠ k ∧ j ≠ k := by decide) (hx : X.env.scope.names.lookup y = some .local := by rfl) (hy : X.env.scope.names.lookup z = some .local := by rfl) (hz : X.env.scope.names.lookup w = some .local := by rfl)
    (hw : swappedStores [.Tuple [.Name y px, .Name z py, .Name w pz] kt pt] (.Tuple [a, b, c] k2 pt2) X.env = pure (some [y, z, w]) := by rfl) (hs : swapsWithSole [.Tuple [.Name y px, .Name z py, .Name w pz] kt pt] (.Tuple [a, b, c] k2 pt2) pos.line X.env = pure false := by rfl) :
    FS X W (.Assign [.Tuple [.Name y px, .Name z py, .Name w pz] kt pt] (.Tuple [a, b, c] k2 pt2) pos) (sPar3 i j k er) := by
  refine ⟨fun pins s σ H D I ⟨ρ, σf, h, rs, rh, p⟩ => ?_⟩
  rw [exec_Assign_arm, hs]
  refine wpAny_bind (wpAny_standAt (wpAny_bind (wpAny_pure ?_)))
  rw [if_neg (by decide), hw]
  have hA : tG (RVs X.K) X.K W er σ H (fun vs H1 => ∃ a1 a2 a3, vs = [a1, a2, a3] ∧ D.nx (((σ.set i (some a1)).set j (some a2)).set k (some a3)) H1) := by
    refine coreS (R1 := RVs X.K) rs rh p fun ρ1 H1 h1 xs vs e1 rs1 rh1 r1 p1 => ?_
    split at p1
    · rename_i f1 f2 f3
      cases r1 with
      | cons r2 r1 =>
        obtain ⟨v', w', rfl, r3, r4⟩ := two_of r1
        exact ⟨_, v', w', rfl, p1 ρ1 H1 _ .refl (((rs1.set i r2).set j r3).set k r4) rh1⟩
    · exact p1.elim
  refine wpAny_bind (Tuple_ (thn (ha.run _ pins s σ H _ I hA) fun us s1 ⟨vs, H1, I1, r1, a1, a2, a3, ev, q1⟩ => ?_))
  subst ev
  obtain ⟨u1, u2, u3, rfl, w1, w2, w3⟩ : ∃ u1 u2 u3, us = [u1, u2, u3] ∧ RelV a1 u1 ∧ RelV a2 u2 ∧ RelV a3 u3 := by
    cases r1 with
    | cons b1 r1 =>
      cases r1 with
      | cons b2 r1 =>
        cases r1 with
        | cons b3 r1 => cases r1; exact ⟨_, _, _, rfl, b1, b2, b3⟩
  have h3 : ([u1, u2, u3].toArray).size ≤ sizeLine := by show 3 ≤ sizeLine; decide
  refine wpAny_newObj_type ?_ h3
  refine wpAny_bind (wpAny_pure ?_)
  have J1 : Inv X pins σ H1 { s1 with heap := s1.heap.push { cls := .type "tuple", data := .seq [u1, u2, u3].toArray } } := I1.kept (t' := s1.toks) fun _ _ e => Heap.get?_push_of_some _ e
  show wpAny (model X.prog X.w) X.A (rule "assign.swapped-stores" >>= fun _ => unpackItems (.ref s1.heap.objs.size) 3 none >>= fun items => assignInOrder [fun v => bindName X.env w v, fun v => bindName X.env z v, fun v => bindName X.env y v] items.reverse >>= fun _ => pure Flow.next) _ _ _
  refine wpAny_bind (wpAny_rule (wpAny_bind (unpackItems_tuple (items := #[u1, u2, u3]) (I.ok.hd hc) (IsTup.new s1.heap _) fun g kg => ?_)))
  have J2 := J1.kept (h' := g) (t' := s1.toks) fun q o e => kg q o (Nat.ne_of_lt (Heap.lt_size e)) e
  show wpAny _ _ (assignInOrder [fun v => bindName X.env w v, fun v => bindName X.env z v, fun v => bindName X.env y v] [u3, u2, u1] >>= fun _ => pure Flow.next) _ _ _
  refine wpAny_bind (assignInOrder_cons (wpAny_bindName (store_ok J2 hN hk (.inl hz) w3 (fun s2 J3 => ?_) (.inr hz))))
  refine assignInOrder_cons (wpAny_bindName (store_ok J3 hN hj (.inl hy) w2 (fun s3 J4 => ?_) (.inr hy)))
  refine assignInOrder_cons (wpAny_bindName (store_ok J4 hN hi (.inl hx) w1 (fun s4 J5 => assignInOrder_nil (wpAny_pure ?_)) (.inr hx)))
  rw [List.set_comm _ _ (Ne.symm hij.1), List.set_comm _ _ (Ne.symm hij.2.1), List.set_comm _ _ (Ne.symm hij.2.2)] at J5
  first
    | exact ⟨_, H1, J5, q1⟩
    | (have e5 : (((σ.set i (some a1)).set j (some a2)).set k (some a3)) = (((σ.set k (some a3)).set j (some a2)).set i (some a1)) := by
         rw [List.set_comm _ _ hij.1, List.set_comm _ _ hij.2.1, List.set_comm _ _ hij.2.2] <;> simp [List.set_comm _ _ hij.1]
       rw [← e5] at J5
       exact ⟨_, H1, J5, q1⟩)
end
end FX
set_option maxRecDepth 100000
set_option maxHeartbeats 4000000
namespace FX
open PySem PySem.Spec PyProof.Rows L2
variable [LamT]

/-! ### what a def does, as a function -/
abbrev Fn := List FV → FH → Res FV
/-- what is wanted of an exception, whatever the slots -/
abbrev WE' (E : XK) (ρ : List Addr) (H : Hp) : Wsh := ⟨fun c d _ H => E c d H, ρ, H⟩
structure FnF (P : Program) (w : World) (K : PySem.W.Frag) (mg : Str → Option Value) (base : Heap) (k : Nat) (f : Addr) (fd : FuncData) (ps : List Str) (g : Fn) : Prop where
  run : ∀ (A : Around) (outer : List Env) (s : Shared) (H : Hp) (args : Args) (us : List Value) (vs : List V) (fs : List FV) (ρ : List Addr) (h : FH) (Q : VK) (E : XK), Room k A → A.guards = some [] → Env0 P w K mg base A outer s H → BindsTo s fd args (ps.zip us) → Vals vs us →
    RVs K ρ H fs vs → RH K ρ h H → LamX.Tabs (LamT.T K) H → fs.length = ps.length → Post K (WE' E ρ H) (RV K) ρ H [] (g fs h) Q → codeAny (model P w) A (.call (.ref f) args) (CR (L2N.CX P w) outer P w H s Q E) s
theorem FnF.mono {P : Program} {w : World} {K : PySem.W.Frag} {mg : Str → Option Value} {base : Heap} {j k : Nat} {f : Addr} {fd : FuncData} {ps : List Str} {g : Fn} (F : FnF P w K mg base j f fd ps g) (h : j ≤ k) : FnF P w K mg base k f fd ps g :=
  ⟨fun A outer s H args us vs fs ρ hh Q E hr => F.run A outer s H args us vs fs ρ hh Q E (hr.mono h)⟩
def cDef (n : Nat) (ev : EvS) : Fn := fun xs h => match ev (xs.map some ++ List.replicate (n - xs.length) none) h with
  | .nx _ h' => .ok .non h'
  | .rt v h' => .ok v h'
  | .ex c fs _ h' => .exc c fs h'
  | _ => .stuck
theorem rs_start {K : PySem.W.Frag} {w : WX} {ρ : List Addr} {H : Hp} {fs : List FV} {vs : List V} {N : List Str} (r : RVs K ρ H fs vs) (tb : LamX.Tabs (LamT.T K) H) : RS K ⟨w, ρ, H⟩ ρ H (fs.map some ++ List.replicate (N.length - fs.length) none) (L2.start N vs) := by
  unfold L2.start
  refine ⟨by simp [r.len], fun i x e => ?_, tb, .refl⟩
  by_cases hi : i < fs.length
  · rw [List.getElem?_append_left (by simpa using hi), List.getElem?_map] at e
    cases q : fs[i]? with
    | none => rw [q] at e; cases e
    | some y =>
      rw [q] at e
      cases e
      obtain ⟨v, e1, r1⟩ := r.get q
      exact ⟨v, by rw [List.getElem?_append_left (by rw [List.length_map, ← r.len]; exact hi), List.getElem?_map, e1]; rfl, r1⟩
  · rw [List.getElem?_append_right (by simpa using hi), List.getElem?_replicate] at e
    split at e <;> cases e
section
variable {P : Program} {w : World} {K : PySem.W.Frag} {mg : Str → Option Value} {base : Heap} {k : Nat} {f : Addr} {fd : FuncData} {ps N : List Str} {g : Fn} {x qual : Str} {params : Arguments} {body : List Stmt} {scope : Scope} {dvs : List V} {kws : List (Str × V)}
/-- the context of a def's body -/
abbrev cxD (P : Program) (w : World) (K : PySem.W.Frag) (mg : Str → Option Value) (base : Heap) (N : List Str) (qual : Str) (scope : Scope) (f : Addr) (cd : Value) (A : Around) (outer : List Env) (s : Shared) (H : Hp) (E : XK) : Cx := cxOf (L2N.CX P w) P w K mg base N qual scope f cd A outer s H E
theorem fnF_of {ev : EvS} (F : FunD K x qual params body scope dvs kws f fd) (S : FnScope N ps scope)
    (hbody : ∀ (cdv : Value) (A : Around) (outer : List Env) (s : Shared) (H : Hp) (E : XK) (ρ : List Addr), Room k (A.deeper (envOfC qual scope s.heap.objs.size f cdv)) → A.guards = some [] → fd.code = cdv → FSs (cxD P w K mg base N qual scope f cdv A outer s H E) (WE' E ρ H) body ev) :
    FnF P w K mg base (k + 1) f fd ps (cDef N.length ev) := by
  obtain ⟨oc, od, dV, kV, doc, pm, an, cdv, ct, osl, rfl, lk, hcd, _, _⟩ := F.ex
  refine ⟨fun A outer s H args us vs fs ρ h Q E hr hgd e0 hb r rf rh tb hl p => ?_⟩
  refine LamX.run_ofS lk hcd S hr e0 hb r (by rw [← rf.len]; exact hl) fun hr' => ?_
  refine ⟨_, hbody cdv A outer s H E ρ hr' hgd rfl, ρ, _, h, rs_start rf tb, rh, ?_⟩
  unfold cDef at p
  cases q : ev (fs.map some ++ List.replicate (N.length - fs.length) none) h with
  | nx σ1 h1 =>
    rw [q] at p
    exact fun ρ' H' σ' e' rs' rh' => p ρ' H' .non e' rh' .non
  | rt v h1 =>
    rw [q] at p
    exact fun ρ' H' u e' rh' r' => p ρ' H' u e' rh' r'
  | ex c fs' σ1 h1 =>
    rw [q] at p
    exact fun ρ' H' σ' d e' rs' rh' q => p ρ' H' d e' rh' q
  | bk σ1 h1 => rw [q] at p; exact p.elim
  | ct σ1 h1 => rw [q] at p; exact p.elim
  | stuck => rw [q] at p; exact p.elim
end

/-! ### calls -/
/-- the arguments, then the defaults -/
def cCall (n : Nat) (g : Fn) (er : EvA) : EvE := fun σ h => (er σ h).bind fun xs h1 => if xs.length = n then g xs h1 else .stuck
def cCallP (n : Nat) (g : Fn) (pm : List FV → List FV) (er : EvA) : EvE := fun σ h => (er σ h).bind fun xs h1 => if (pm xs).length = n then g (pm xs) h1 else .stuck
section
variable {X : Cx} {W : Wsh} {a b e : Expr} {es : List Expr} {ea eb : EvE} {er : EvA} {pos p p2 : Pos} {x : Str} {k : Nat} {f : Addr} {fd : FuncData} {ps : List Str} {g : Fn}
/-- the callee runs -/
theorem run_fnF {pins : List (Addr × Obj)} {σ : L2.St} {H : Hp} {s : Shared} {Q : VK} {us : List Value} {vs : List V} {args : Args} {fs : List FV} {ρ : List Addr} {h : FH} (F : FnF X.prog X.w X.K X.mg X.base k f fd ps g) (hr : Room k X.A) (hgd : X.A.guards = some []) (tk : L2N.Takes X W.w) (I : Inv X pins σ H s) (hb : BindsTo s fd args (ps.zip us))
    (r : Vals vs us) (rf : RVs X.K ρ H fs vs) (rh : RH X.K ρ h H) (tb : LamX.Tabs (LamT.T X.K) H) (hl : fs.length = ps.length) (p : Post X.K W (RV X.K) ρ H σ (g fs h) Q) : codeAny (model X.prog X.w) X.A (.call (.ref f) args) (fun r s' => match r with
      | .ok (.ret u) => EP X pins σ Q u s'
      | .ok _ => False
      | .error e => X.xe e s') s := by
  refine codeAny_mono (F.run X.A X.stack s H args us vs fs ρ h Q (fun c d H' => W.w c d σ H') hr hgd I.env0 hb r rf rh tb hl (by
    cases q : g fs h with
    | ok y h' => rw [q] at p; exact p
    | exc c fs' h' => rw [q] at p; exact p
    | stuck => rw [q] at p; exact p)) fun res s' hq => ?_
  cases res with
  | error ex => exact tk _ _ (L2N.XE.of_call I (fun _ _ _ z => z) hq)
  | ok fl =>
    cases fl with
    | ret u => exact I.after hq
    | next => exact hq
    | brk => exact hq
    | cont => exact hq
theorem fe_call (F : FnF X.prog X.w X.K X.mg X.base k f fd ps g) (hr : Room k X.A) (hgd : X.A.guards = some []) (tk : L2N.Takes X W.w) (hm : X.mg x = some (.ref f)) (hk : PySem.W.keepIn X.K (.ref f) = true) (hb : Binds X.K fd ps []) (ha : FA X W (e :: es) er) (hg : Gl X x := by rfl) (hdb : (x == ("__debug__" : Str)) = false := by decide)
    (he : starEach (e :: es) X.env = (false, eval e X.env) :: starEach es X.env := by rfl) (hpl : (backTo pos (starEach es X.env)).any (·.1) = false := by rfl) : FE X W (.Call (.Name x p) (e :: es) [] pos) (cCall ps.length g er) := by
  refine ⟨fun pins s σ H Q I ⟨ρ, σf, h, rs, rh, pp⟩ => ?_⟩
  refine wpAny_Call_Name_kw (ld_glob I hg hm (PySem.W.callWith_K (h₀ := X.base) I.ok.mod.kin hk ?_ he hpl) hdb)
  have hA : tG (RVs X.K) X.K W er σ H (fun vs H1 => ∃ ρ1 xs h1, RVs X.K ρ1 H1 xs vs ∧ RH X.K ρ1 h1 H1 ∧ LamX.Tabs (LamT.T X.K) H1 ∧ xs.length = ps.length ∧ Post X.K W (RV X.K) ρ1 H1 σ (g xs h1) Q) := by
    refine core (R1 := RVs X.K) rs rh pp fun ρ1 H1 h1 xs vs e1 rs1 rh1 r1 p1 => ?_
    by_cases z : xs.length = ps.length
    · rw [if_pos z] at p1
      exact ⟨ρ1, xs, h1, r1, rh1, rs1.tabs, z, p1⟩
    · rw [if_neg z] at p1
      exact p1.elim
  refine thn (ha.run pos pins s σ H _ I hA) fun us s1 ⟨vs, H1, I1, r, ρ1, xs, h1, r1, rh1, tb1, hl, p1⟩ => ⟨I1.kIn, ?_⟩
  have hb1 := hb s1 us I1.kIn (by rw [List.append_nil, ← r.length, ← r1.len]; exact hl)
  rw [List.append_nil] at hb1
  refine wpAny_call (codeAny_mono (run_fnF F hr hgd tk I1 hb1 r r1 rh1 tb1 hl p1) fun res s' hq => ?_)
  rcases res with ex | (u | _ | _ | _) <;> exact hq
theorem fe_call0 (F : FnF X.prog X.w X.K X.mg X.base k f fd [] g) (hr : Room k X.A) (hgd : X.A.guards = some []) (tk : L2N.Takes X W.w) (hm : X.mg x = some (.ref f)) (hk : PySem.W.keepIn X.K (.ref f) = true) (hb : Binds X.K fd [] []) (hg : Gl X x := by rfl) (hdb : (x == ("__debug__" : Str)) = false := by decide) : FE X W (.Call (.Name x p) [] [] pos) (cCall 0 g cNil) := by
  refine ⟨fun pins s σ H Q I ⟨ρ, σf, h, rs, rh, pp⟩ => ?_⟩
  refine wpAny_Call_Name_kw (ld_glob I hg hm (PySem.W.callWith_K0 I.kIn hk ?_) hdb)
  have hb1 := hb s [] I.kIn rfl
  refine wpAny_call (codeAny_mono (run_fnF (fs := []) F hr hgd tk I hb1 .nil .nil rh rs.tabs rfl pp) fun res s' hq => ?_)
  rcases res with ex | (u | _ | _ | _) <;> exact hq

/-! ### match over texts -/
abbrev EvM := FV → EvS
def tM (K : PySem.W.Frag) (W : Wsh) (ev : EvM) (v : V) : TS := fun D σ H => ∃ (ρ : List Addr) (σf : FSt) (h : FH) (x : FV), RS K W ρ H σf σ ∧ RH K ρ h H ∧ RV K ρ H x v ∧ PostS K W ρ H D (ev x σf h)
structure FM (X : Cx) (W : Wsh) (cs : List MatchCase) (ev : EvM) : Prop where
  run : ∀ (first : Bool) (pins : List (Addr × Obj)) (s : Shared) (σ : L2.St) (H : Hp) (D : Ends) (v : V) (u : Value), Inv X pins σ H s → RelV v u → tM X.K W ev v D σ H → wpAny (model X.prog X.w) X.A (matchCases cs X.env u first) (SP X pins D) X.xe s
def mNil : EvM := fun _ σ h => .nx σ h
def mWild (b : EvS) : EvM := fun _ σ h => b σ h
def mVal (ee : EvE) (b : EvS) (r : EvM) : EvM := fun v σ h => (ee σ h).toS σ fun x h1 => match eqF v x h1 with
  | some (.bl true, h2) => b σ h2
  | some (.bl false, h2) => r v σ h2
  | _ => .stuck
theorem fm_nil : FM X W [] mNil := ⟨fun first pins s σ H D v u I r ⟨ρ, σf, h, y, rs, rh, rv, p⟩ => wpAny_matchCases_nil ⟨σ, H, I, p ρ H σ .refl rs rh⟩⟩
theorem fm_wild {body : List Stmt} {ev : EvS} {cs : List MatchCase} {mp : Pos} (hb : FSs X W body ev) : FM X W (⟨.MatchAs none none mp, none, body⟩ :: cs) (mWild ev) := by
  refine ⟨fun first pins s σ H D v u I r ⟨ρ, σf, h, y, rs, rh, rv, p⟩ => wpAny_matchCases_cons (wpAny_matchPattern_Capture ?_)⟩
  exact assignInOrder_nil (hb.run pins s σ H D I ⟨ρ, σf, h, rs, rh, p⟩)
theorem fm_val {body : List Stmt} {ev : EvS} {cs : List MatchCase} {er : EvM} {mp : Pos} (hu : X.A.units + 64 < cLine) (ha : FE X W a ea) (hb : FSs X W body ev) (hr : FM X W cs er) : FM X W (⟨.MatchValue a mp, none, body⟩ :: cs) (mVal ea ev er) := by
  refine ⟨fun first pins s σ H D v u I r ⟨ρ, σf, h, y, rs, rh, rv, p⟩ => wpAny_matchCases_cons (wpAny_matchPattern_Value ?_)⟩
  have hA : tG (RV X.K) X.K W ea σ H (fun z H1 => ∃ (fz : FV) (k : Bool) (h2 : FH) (ρ1 : List Addr) (h1 : FH), RS X.K W ρ1 H1 σf σ ∧ RH X.K ρ1 h1 H1 ∧ RV X.K ρ1 H1 y v ∧ RV X.K ρ1 H1 fz z ∧ eqF y fz h1 = some (.bl k, h2) ∧ PostS X.K W ρ1 H1 D (if k = true then ev σf h2 else er y σf h2)) := by
    refine coreS rs rh p fun ρ1 H1 h1 fz z e1 rs1 rh1 r1 p1 => ?_
    split at p1
    · rename_i h2 q
      exact ⟨fz, true, h2, ρ1, h1, rs1, rh1, rv.ev e1, r1, q, by rw [if_pos rfl]; exact p1⟩
    · rename_i h2 q
      exact ⟨fz, false, h2, ρ1, h1, rs1, rh1, rv.ev e1, r1, q, by rw [if_neg Bool.false_ne_true]; exact p1⟩
    · exact p1.elim
  refine thn (ha.run pins s σ H _ I hA) fun uz s1 ⟨z, H1, I1, rz, fz, k', h2, ρ1, h1, rs1, rh1, ry, r1, q, p1⟩ => ?_
  refine thn (of_eq hu pins s1 σ H1 v z u uz (fun c H2 => c = .bl k' ∧ ∃ ρ2, Ev X.K ρ1 H1 ρ2 H2 ∧ RH X.K ρ2 h2 H2) I1 r rz ⟨ρ1, y, fz, h1, .bl k', h2, ry, r1, rh1, q, fun ρ' H' c e' rh' rc => by
    cases rc
    exact ⟨rfl, ρ', e', rh'⟩⟩) fun uc s2 ⟨c, H2, I2, rc, ec, ρ2, e2, rh2⟩ => ?_
  subst ec
  cases rc
  refine wpAny_truthy_bool ?_
  have p2 := p1.at_ e2
  cases k' with
  | true =>
    rw [if_pos rfl] at p2 ⊢
    exact assignInOrder_nil (hb.run pins s2 σ H2 D I2 ⟨ρ2, σf, h2, rs1.ev e2, rh2, p2⟩)
  | false =>
    rw [if_neg Bool.false_ne_true] at p2 ⊢
    exact hr.run false pins s2 σ H2 D v u I2 r ⟨ρ2, σf, h2, y, rs1.ev e2, rh2, ry.ev e2, p2⟩
def sMatch (ea : EvE) (m : EvM) : EvS := fun σ h => (ea σ h).toS σ fun v h1 => m v σ h1
theorem fs_match {cs : List MatchCase} {m : EvM} (ha : FE X W a ea) (hm : FM X W cs m) : FS X W (.Match a cs pos) (sMatch ea m) := by
  refine ⟨fun pins s σ H D I ⟨ρ, σf, h, rs, rh, p⟩ => wpAny_Match ?_⟩
  have hA : tG (RV X.K) X.K W ea σ H (fun v H1 => tM X.K W m v D σ H1) := coreS rs rh p fun ρ1 H1 h1 y v e1 rs1 rh1 r1 p1 => ⟨ρ1, σf, h1, y, rs1, rh1, r1, p1⟩
  exact thn (ha.run pins s σ H _ I hA) fun u s1 ⟨v, H1, I1, r1, q⟩ => hm.run true pins s1 σ H1 D v u I1 r1 q
end
end FX
set_option maxRecDepth 100000
set_option maxHeartbeats 4000000
namespace FX
open PySem PySem.Spec PyProof.Rows L2
variable [LamT]

/-! ### a lambda without parameters, handed to a def -/
abbrev Cl := FH → Res FV
/-- the function object at f, made at s0, H0 under the frames stk, does d whenever it is called later on -/
structure CloOk (P : Program) (w : World) (K : PySem.W.Frag) (mg : Str → Option Value) (base : Heap) (lv : Nat) (f : Addr) (stk : List Env) (s0 : Shared) (H0 : Hp) (ρ0 : List Addr) (d : Cl) : Prop where
  at_ : ∀ (s : Shared) (H : Hp), Un (frs stk) [] H0 H s0.heap s.heap → PySem.W.FnAt f s.heap
  run : ∀ (A : Around) (outer : List Env) (s : Shared) (H : Hp) (ρ : List Addr) (h : FH) (Q : VK) (E : XK), Room lv A → A.guards = some [] → Env0 P w K mg base A outer s H → Un (frs stk) [] H0 H s0.heap s.heap → Ev K ρ0 H0 ρ H → RH K ρ h H → LamX.Tabs (LamT.T K) H →
    Post K (WE' E ρ H) (RV K) ρ H [] (d h) Q → codeAny (model P w) A (.call (.ref f) ⟨[], []⟩) (CR (L2N.CX P w) outer P w H s Q E) s
theorem CloOk.mono {P : Program} {w : World} {K : PySem.W.Frag} {mg : Str → Option Value} {base : Heap} {lv lv' : Nat} {f : Addr} {stk : List Env} {s0 : Shared} {H0 : Hp} {ρ0 : List Addr} {d : Cl} (c : CloOk P w K mg base lv f stk s0 H0 ρ0 d) (h : lv ≤ lv') : CloOk P w K mg base lv' f stk s0 H0 ρ0 d :=
  ⟨c.at_, fun A outer s H ρ hh Q E hr => c.run A outer s H ρ hh Q E (hr.mono h)⟩
/-- kept, where one more frame runs that was not there yet -/
theorem un_more {fs gs : List Addr} {H H1 H2 : Hp} {h h1 h2 : Heap} (a : Un fs [] H H1 h h1) (b : Un gs [] H1 H2 h1 h2) (hg : ∀ c ∈ gs, c ∈ fs ∨ h.get? c = none) : Un fs [] H H2 h h2 where
  keep := fun c ob q n hc hx => b.keep c ob (a.keep c ob q n hc hx) (a.free c ob q n hx) (fun z => (hg c z).elim hc fun y => by rw [q] at y; cases y) hx
  slot := fun c ob q n hc hx => by
    obtain ⟨sl, e1⟩ := a.slot c ob q n hc hx
    obtain ⟨sl', e2⟩ := b.any e1 (a.free c ob q n hx) hx
    exact ⟨sl', e2⟩
  free := fun c ob q n hx => by
    obtain ⟨o', e1⟩ := a.there c ob q hx
    exact b.free c o' e1 (a.free c ob q n hx) hx
  there := fun c ob q hx => by
    obtain ⟨o', e1⟩ := a.there c ob q hx
    exact b.there c o' e1 hx
  tups := fun c xs q => b.tups c xs (a.tups c xs q)
  frzs := fun c ob xs q => b.frzs c ob xs (a.frzs c ob xs q)
  tbls := fun c ps q => by
    obtain ⟨m1, e1⟩ := a.tbls c ps q
    obtain ⟨m2, e2⟩ := b.tbls c _ e1
    exact ⟨m1 ++ m2, by rw [e2, Array.append_assoc]⟩
/-- seen from within a def that got it -/
theorem CloOk.within {X : Cx} {lv : Nat} {f : Addr} {ρ0 ρ : List Addr} {d : Cl} {pins : List (Addr × Obj)} {σ : L2.St} {H : Hp} {s : Shared} (c : CloOk X.prog X.w X.K X.mg X.base lv f X.outer X.s_0 X.H_0 ρ0 d) (hex : X.ex = []) (I : Inv X pins σ H s) (e : Ev X.K ρ0 X.H_0 ρ H) : CloOk X.prog X.w X.K X.mg X.base lv f X.stack s H ρ d := by
  have b : Un (frs X.outer) [] X.H_0 H X.s_0.heap s.heap := by have := I.base; rw [hex] at this; exact this
  have fr : ∀ a ∈ frs X.stack, a ∈ frs X.outer ∨ X.s_0.heap.get? a = none := fun a ha => by
    rcases List.mem_cons.mp (I.stkSub a ha) with z | z
    · rw [z]
      exact .inr (Heap.get?_none_of_le I.ok.above)
    · exact .inl z
  exact ⟨fun s' H' u => c.at_ s' H' (un_more b u fr), fun A outer s' H' ρ' h' Q E hr hg e0 u ev rh tb p => c.run A outer s' H' ρ' h' Q E hr hg e0 (un_more b u fr) (e.trans ev) rh tb p⟩
/-- the context of a lambda's body -/
abbrev lcx (X : Cx) (A : Around) (outer : List Env) (s : Shared) (H : Hp) (E : XK) (scope : Scope) (f c' : Addr) : Cx :=
  (LamX.lamCx X A outer s H E scope f c').tr [] fun e s' => wpAny (model X.prog X.w) (A.deeper (LamX.lamEnv X scope s.heap.objs.size f c')) (leaving (LamX.lamEnv X scope s.heap.objs.size f c') e) (fun _ s'' => L2N.CX X.prog X.w outer H s E e s'') (fun e' s'' => L2N.CX X.prog X.w outer H s E e' s'') s'
section
variable {X : Cx} {W : Wsh} {a b e : Expr} {es : List Expr} {ea eb : EvE} {er : EvA} {pos p p2 : Pos} {x : Str} {k lv : Nat} {f : Addr} {fd : FuncData} {ps : List Str}
theorem Post.wish {α β : Type} {K : PySem.W.Frag} {W W' : Wsh} {R : Rel α β} {ρ : List Addr} {H : Hp} {σ σ' : L2.St} {r : Res α} {Q : β → Hp → Prop} (p : Post K W R ρ H σ r Q) (m : ∀ c d H', W.w c d σ H' → W'.w c d σ' H') : Post K W' R ρ H σ' r Q := by
  cases r with
  | ok x h' => exact p
  | exc c fs h' => exact fun ρ' H' d a b q => m _ _ _ (p ρ' H' d a b q)
  | stuck => exact p
/-- the making of it -/
theorem clo_of {ev : EvE} {params : Arguments} {body : Expr} {scope : Scope} {pm ctv : Value} {c' : Addr} {pins : List (Addr × Obj)} {σ : L2.St} {σf : FSt} {ρ : List Addr} {H : Hp} {s : Shared} (I : Inv X pins σ H s) (L : LamX.LamS X.env.scope scope)
    (hf : s.heap.get? f = some (PySem.W.kla_obj "<lambda>" (X.env.qual ++ "<lambda>") params body scope (cloFrom X.env.cells scope.names []) pm c' ctv)) (hfn : H f = none) (hfr : f ∉ frs X.stack) (hc : H c' = some (LamX.CodeO c' (X.env.qual ++ "<lambda>")))
    (hbind : bindArgs (PySem.W.kla_fn "<lambda>" (X.env.qual ++ "<lambda>") params body scope (cloFrom X.env.cells scope.names []) pm (.ref c') ctv) ⟨[], []⟩ = pure []) (rs : RS X.K W ρ H σf σ)
    (hbody : ∀ (A : Around) (outer : List Env) (s : Shared) (H : Hp) (E : XK) (ρ : List Addr), Room lv (lcx X A outer s H E scope f c').A → A.guards = some [] → FE (lcx X A outer s H E scope f c') (WE' E ρ H) body ev) :
    CloOk X.prog X.w X.K X.mg X.base (lv + 1) f X.stack s H ρ (fun h => ev σf h) := by
  have ob : ∀ (s' : Shared) (H' : Hp), Un (frs X.stack) [] H H' s.heap s'.heap → s'.heap.get? f = some (PySem.W.kla_obj "<lambda>" (X.env.qual ++ "<lambda>") params body scope (cloFrom X.env.cells scope.names []) pm c' ctv) := fun s' H' u => u.keep f _ hf hfn hfr (fun z => nomatch z)
  refine ⟨fun s' H' u => ⟨_, _, _, _, ob s' H' u⟩, fun A outer s1 H1 ρ1 h1 Q E hr hg e0 un e1 rh tb p => ?_⟩
  have of1 := ob s1 H1 un
  obtain ⟨⟨oc, vs, t, hoc, hdc, hvc⟩, _, _⟩ := e0.hok c' _ (e1.codes _ _ hc)
  have KX : X.K.In s1.heap := e0.mod.kin.keeps fun b o e => (e0.bs b o e).1
  have lim : s1.heap.NoLimit := e0.mod.nolimit.keeps fun b o e => (e0.bs b o e).1
  refine PySem.W.kla_callFunE hr.depth of1 rfl L.co L.gen rfl ⟨c', oc, vs, t, rfl, hoc, hdc, hvc⟩ ?_
  rw [hbind]
  refine wpAny_pure (wpAny_newFunctionEnv (fun y hy => (L.own y hy).2) (fun y hy => absurd hy (by simp)) (fun h₁ hns hsb => ⟨lim.fresh _ hsb, ?_⟩) L.kind)
  show codeAny _ _ (.expr body (LamX.lamEnv X scope s1.heap.objs.size f c')) _ _
  have kp : ∀ b o, s1.heap.get? b = some o → h₁.get? b = some o := fun b o e => hsb.extBut b o (Nat.ne_of_lt (Heap.lt_size e)) (Heap.get?_push_of_some _ e)
  have J0 := LamX.lam_start2 (E := E) (f := f) (c' := c') (tk := s1.toks + ([] : List (Str × Value)).length) I L e0 hr.hd un hns kp
  have J := J0.toTry (fun e s' => wpAny (model X.prog X.w) (A.deeper (LamX.lamEnv X scope s1.heap.objs.size f c')) (leaving (LamX.lamEnv X scope s1.heap.objs.size f c') e) (fun _ s'' => L2N.CX X.prog X.w outer H1 s1 E e s'') (fun e' s'' => L2N.CX X.prog X.w outer H1 s1 E e' s'') s')
  have rs1 : RS X.K (WE' E ρ1 H1) ρ1 H1 σf σ := ⟨rs.len, fun i y q => let ⟨v, q1, r1⟩ := rs.at_ i y q; ⟨v, q1, r1.ev e1⟩, tb, .refl⟩
  have hA : tG (RV X.K) X.K (WE' E ρ1 H1) ev σ H1 Q := ⟨ρ1, σf, h1, rs1, rh, p.wish fun _ _ _ z => z⟩
  refine PySem.W.kla_codeExpr (wpAny_mono ((hbody A outer s1 H1 E ρ1 (hr.deeper _) hg).run [] _ σ H1 Q J hA) (fun v s' hq => ?_) fun e s' hq => hq)
  obtain ⟨w', H', J', rv, q⟩ := hq
  exact ⟨w', H', J'.os, J'.bare, J'.base, J'.hok, rv, q⟩
/-- a() in the def that got it -/
def cClo (i n : Nat) (d : Cl) : EvE := fun σ h => match σ[i]? with
  | some (some (.ref m)) => if m = n then d h else .stuck
  | _ => .stuck
theorem fe_clo {d : Cl} (i : Nat) {n : Nat} (hcl : CloOk X.prog X.w X.K X.mg X.base lv f X.outer X.s_0 X.H_0 W.ρ0 d) (hH : W.H0 = X.H_0) (hex : X.ex = []) (hn : W.ρ0[n]? = some f) (hr : Room lv X.A) (hgd : X.A.guards = some []) (tk : L2N.Takes X W.w)
    (hN : X.N[i]? = some x := by rfl) (hv : Vis X.env.scope x := by first | exact Or.inl rfl | exact Or.inr (Or.inl rfl) | exact Or.inr (Or.inr rfl)) (hd : (x == ("__debug__" : Str)) = false := by decide) (hcd : (x == ("__classdict__" : Str)) = false := by decide) : FE X W (.Call (.Name x p) [] [] pos) (cClo i n d) := by
  refine ⟨fun pins s σ H Q I ⟨ρ, σf, h, rs, rh, pp⟩ => ?_⟩
  unfold cClo at pp
  split at pp
  · rename_i m q
    split at pp
    · rename_i em
      subst em
      obtain ⟨v, q1, r1⟩ := rs.at_ i _ q
      cases r1 with
      | ref qn =>
        rename_i fa
        have ef : fa = f := by
          have := rs.base.get hn
          rw [qn] at this
          exact Option.some.inj this
        subst ef
        refine wpAny_Call_Name_kw (thn ((pe_var (pos := p) hN hv hd hcd).run pins s σ H (fun v H1 => v = .ref fa ∧ H1 = H) I ⟨.ref fa, q1, rfl, rfl⟩) fun u s1 ⟨v, H1, I1, ru, ev, eH⟩ => ?_)
        subst ev
        subst eH
        cases ru
        have e0 : Ev X.K W.ρ0 X.H_0 ρ H1 := by rw [← hH]; exact rs.base
        have cw := hcl.within hex I1 e0
        refine PySem.W.callWith_F0 (cw.at_ s1 H1 Un.refl) (wpAny_call (codeAny_mono (cw.run X.A X.stack s1 H1 ρ h Q (fun c d H' => W.w c d σ H') hr hgd I1.env0 Un.refl .refl rh rs.tabs (pp.wish fun _ _ _ z => z)) fun res s' hq => ?_))
        cases res with
        | error ex => exact tk _ _ (L2N.XE.of_call I1 (fun _ _ _ z => z) hq)
        | ok fl =>
          cases fl with
          | ret u => exact I1.after hq
          | next => exact hq.elim
          | brk => exact hq.elim
          | cont => exact hq.elim
    · exact pp.elim
  · exact pp.elim

/-! ### a def whose first parameter is such a thing -/
abbrev FnC := Nat → Cl → Fn
structure FnH (P : Program) (w : World) (K : PySem.W.Frag) (mg : Str → Option Value) (base : Heap) (k lv : Nat) (f : Addr) (fd : FuncData) (ps : List Str) (g : FnC) : Prop where
  run : ∀ (A : Around) (outer : List Env) (s : Shared) (H : Hp) (args : Args) (us : List Value) (vs : List V) (fs : List FV) (ρ : List Addr) (h : FH) (Q : VK) (E : XK) (fc : Addr) (n : Nat) (d : Cl), Room k A → A.guards = some [] → Env0 P w K mg base A outer s H → BindsTo s fd args (ps.zip us) → Vals vs us →
    RVs K ρ H fs vs → RH K ρ h H → LamX.Tabs (LamT.T K) H → fs.length = ps.length → ρ[n]? = some fc → CloOk P w K mg base lv fc outer s H ρ d → Post K (WE' E ρ H) (RV K) ρ H [] (g n d fs h) Q → codeAny (model P w) A (.call (.ref f) args) (CR (L2N.CX P w) outer P w H s Q E) s
section
variable {P : Program} {w : World} {K : PySem.W.Frag} {mg : Str → Option Value} {base : Heap} {N : List Str} {qual : Str} {params : Arguments} {body : List Stmt} {scope : Scope} {dvs : List V} {kws : List (Str × V)}
theorem fnH_of {ev : Nat → Cl → EvS} (F : FunD K x qual params body scope dvs kws f fd) (S : FnScope N ps scope)
    (hbody : ∀ (cdv : Value) (A : Around) (outer : List Env) (s : Shared) (H : Hp) (E : XK) (ρ : List Addr) (fc : Addr) (n : Nat) (d : Cl), Room k (A.deeper (envOfC qual scope s.heap.objs.size f cdv)) → A.guards = some [] → fd.code = cdv → ρ[n]? = some fc → CloOk P w K mg base lv fc outer s H ρ d →
      FSs (cxD P w K mg base N qual scope f cdv A outer s H E) (WE' E ρ H) body (ev n d)) : FnH P w K mg base (k + 1) lv f fd ps (fun n d => cDef N.length (ev n d)) := by
  obtain ⟨oc, od, dV, kV, doc, pm, an, cdv, ct, osl, rfl, lk, hcd, _, _⟩ := F.ex
  refine ⟨fun A outer s H args us vs fs ρ h Q E fc n d hr hgd e0 hb r rf rh tb hl hn hcl p => ?_⟩
  refine LamX.run_ofS lk hcd S hr e0 hb r (by rw [← rf.len]; exact hl) fun hr' => ?_
  refine ⟨_, hbody cdv A outer s H E ρ fc n d hr' hgd rfl hn hcl, ρ, _, h, rs_start rf tb, rh, ?_⟩
  unfold cDef at p
  cases q : ev n d (fs.map some ++ List.replicate (N.length - fs.length) none) h with
  | nx σ1 h1 =>
    rw [q] at p
    exact fun ρ' H' σ' e' rs' rh' => p ρ' H' .non e' rh' .non
  | rt v h1 =>
    rw [q] at p
    exact fun ρ' H' u e' rh' r' => p ρ' H' u e' rh' r'
  | ex c fs' σ1 h1 =>
    rw [q] at p
    exact fun ρ' H' σ' d e' rs' rh' q => p ρ' H' d e' rh' q
  | bk σ1 h1 => rw [q] at p; exact p.elim
  | ct σ1 h1 => rw [q] at p; exact p.elim
  | stuck => rw [q] at p; exact p.elim
end
/-- it is handed on: i the slot that holds it -/
def goC (n m : Nat) (d : Cl) (g : FnC) (fs : List FV) (h : FH) : Res FV := match fs with
  | .ref j :: _ => if j = n then (if fs.length = m then g n d fs h else .stuck) else .stuck
  | _ => .stuck
def cPass (i n : Nat) (d : Cl) (m : Nat) (g : FnC) (er : EvA) : EvE := fun σ h => (cCons (cVar i) er σ h).bind fun fs h1 => goC n m d g fs h1
/-- f(lambda: .., ..) -/
def cLam (m : Nat) (g : FnC) (el : EvE) (er : EvA) : EvE := fun σ h => (er σ (h ++ [.opq])).bind fun xs h1 => if xs.length + 1 = m then g h.length (fun h2 => el σ h2) (.ref h.length :: xs) h1 else .stuck
/-- a def's call runs -/
theorem run_fnH {g : FnC} {pins : List (Addr × Obj)} {σ : L2.St} {H : Hp} {s : Shared} {Q : VK} {us : List Value} {vs : List V} {args : Args} {fs : List FV} {ρ : List Addr} {h : FH} {fc : Addr} {n : Nat} {d : Cl} (F : FnH X.prog X.w X.K X.mg X.base k lv f fd ps g) (hr : Room k X.A) (hgd : X.A.guards = some []) (tk : L2N.Takes X W.w) (I : Inv X pins σ H s)
    (hb : BindsTo s fd args (ps.zip us)) (r : Vals vs us) (rf : RVs X.K ρ H fs vs) (rh : RH X.K ρ h H) (tb : LamX.Tabs (LamT.T X.K) H) (hl : fs.length = ps.length) (hn : ρ[n]? = some fc) (hcl : CloOk X.prog X.w X.K X.mg X.base lv fc X.stack s H ρ d) (p : Post X.K W (RV X.K) ρ H σ (g n d fs h) Q) :
    codeAny (model X.prog X.w) X.A (.call (.ref f) args) (fun res s' => match res with
      | .ok (.ret u) => EP X pins σ Q u s'
      | .ok _ => False
      | .error ex => X.xe ex s') s := by
  refine codeAny_mono (F.run X.A X.stack s H _ us vs fs ρ h Q (fun c d H' => W.w c d σ H') fc n d hr hgd I.env0 hb r rf rh tb hl hn hcl (p.wish fun _ _ _ z => z)) fun res s' hq => ?_
  match res, hq with
  | .error ex, hq => exact tk _ _ (L2N.XE.of_call I (fun _ _ _ z => z) hq)
  | .ok (.ret u), hq => exact I.after hq
theorem fe_pass {g : FnC} {d : Cl} (i : Nat) {n : Nat} {fc : Addr} {y : Str} {py : Pos} (F : FnH X.prog X.w X.K X.mg X.base k lv f fd ps g) (hcl : CloOk X.prog X.w X.K X.mg X.base lv fc X.outer X.s_0 X.H_0 W.ρ0 d) (hH : W.H0 = X.H_0) (hex : X.ex = []) (hn : W.ρ0[n]? = some fc) (hr : Room k X.A) (hgd : X.A.guards = some []) (tk : L2N.Takes X W.w)
    (hm : X.mg x = some (.ref f)) (hk : PySem.W.keepIn X.K (.ref f) = true) (hb : Binds X.K fd ps []) (ha : FA X W (.Name y py :: es) (cCons (cVar i) er)) (hg : Gl X x := by rfl) (hdb : (x == ("__debug__" : Str)) = false := by decide)
    (he0 : starEach (.Name y py :: es) X.env = (false, eval (.Name y py) X.env) :: starEach es X.env := by rfl) (hpl : (backTo pos (starEach es X.env)).any (·.1) = false := by rfl) : FE X W (.Call (.Name x p) (.Name y py :: es) [] pos) (cPass i n d ps.length g er) := by
  refine ⟨fun pins s σ H Q I ⟨ρ, σf, h, rs, rh, pp⟩ => ?_⟩
  refine wpAny_Call_Name_kw (ld_glob I hg hm (PySem.W.callWith_K (h₀ := X.base) I.ok.mod.kin hk ?_ he0 hpl) hdb)
  have hA : tG (RVs X.K) X.K W (cCons (cVar i) er) σ H (fun vs H1 => ∃ ρ1 xs h1, RVs X.K ρ1 H1 xs vs ∧ RH X.K ρ1 h1 H1 ∧ LamX.Tabs (LamT.T X.K) H1 ∧ xs.length = ps.length ∧ Ev X.K W.ρ0 W.H0 ρ1 H1 ∧ Post X.K W (RV X.K) ρ1 H1 σ (g n d xs h1) Q) := by
    refine core (R1 := RVs X.K) rs rh pp fun ρ1 H1 h1 xs vs e1 rs1 rh1 r1 p1 => ?_
    unfold goC at p1
    split at p1
    · rename_i j xs
      by_cases ej : j = n
      · rw [if_pos ej] at p1
        by_cases z : (FV.ref j :: xs).length = ps.length
        · rw [if_pos z] at p1
          exact ⟨ρ1, _, h1, r1, rh1, rs1.tabs, z, rs1.base, p1⟩
        · rw [if_neg z] at p1
          exact p1.elim
      · rw [if_neg ej] at p1
        exact p1.elim
    · exact p1.elim
  refine thn (ha.run pos pins s σ H _ I hA) fun us s1 ⟨vs, H1, I1, r, ρ1, xs, h1, r1, rh1, tb1, hl, e1, p1⟩ => ⟨I1.kIn, ?_⟩
  have hb1 := hb s1 us I1.kIn (by rw [List.append_nil, ← r.length, ← r1.len]; exact hl)
  rw [List.append_nil] at hb1
  have cw := hcl.within hex I1 (by rw [← hH]; exact e1)
  refine wpAny_call (codeAny_mono (run_fnH F hr hgd tk I1 hb1 r r1 rh1 tb1 hl (e1.get hn) cw p1) fun res s' hq => ?_)
  rcases res with ex | (u | _ | _ | _) <;> exact hq
theorem tups_extN {K : PySem.W.Frag} {H H' : Hp} (x : LamX.ExtN H H') : ∀ a vs, SqT K H a vs → SqT K H' a vs := fun a vs q => by
  rcases q with (q | ⟨ob, q⟩) | q
  · exact .inl (.inl (x _ _ q (fun _ z => nomatch z)))
  · exact .inl (.inr ⟨ob, x _ _ q (fun _ z => nomatch z)⟩)
  · exact .inr q
theorem fe_lam {g : FnC} {el : EvE} {params : Arguments} {body : Expr} {scope : Scope} {lp : Pos} {c P : Addr} (F : FnH X.prog X.w X.K X.mg X.base k (lv + 1) f fd ps g) (hr : Room k X.A) (hgd : X.A.guards = some []) (tk : L2N.Takes X W.w)
    (TB : LamX.TabB X.base X.mg c P) (hcode : X.env.code = .ref c) (hT : (P, X.env.qual ++ "<lambda>") ∈ LamT.T X.K) (hu : ∀ q ∈ LamT.T X.K, q.1 = P → q.2 = X.env.qual ++ "<lambda>") (L : LamX.LamS X.env.scope scope)
    (hbody : ∀ (f c' : Addr) (A : Around) (outer : List Env) (s : Shared) (H : Hp) (E : XK) (ρ : List Addr), Room lv (lcx X A outer s H E scope f c').A → A.guards = some [] → FE (lcx X A outer s H E scope f c') (WE' E ρ H) body el)
    (hm : X.mg x = some (.ref f)) (hk : PySem.W.keepIn X.K (.ref f) = true) (hb : Binds X.K fd ps []) (ha : FA X W es er) (hst : frs X.stack = X.env.locals :: X.fs := by rfl) (hgl : Gl X x := by rfl) (hdb : (x == ("__debug__" : Str)) = false := by decide) (hdef : defaultsOf params X.env = ([], []) := by rfl)
    (hbind : ∀ (pm ctv : Value) (c' : Addr), bindArgs (PySem.W.kla_fn "<lambda>" (X.env.qual ++ "<lambda>") params body scope (cloFrom X.env.cells scope.names []) pm (.ref c') ctv) ⟨[], []⟩ = pure [] := by exact fun _ _ _ => rfl)
    (he0 : starEach (.Lambda params body scope lp :: es) X.env = (false, eval (.Lambda params body scope lp) X.env) :: starEach es X.env := by rfl) (hpl : (backTo pos (starEach es X.env)).any (·.1) = false := by rfl) : FE X W (.Call (.Name x p) (.Lambda params body scope lp :: es) [] pos) (cLam ps.length g el er) := by
  refine ⟨fun pins s σ H Q I ⟨ρ, σf, h, rs, rh, pp⟩ => ?_⟩
  refine wpAny_Call_Name_kw (ld_glob I hgl hm (PySem.W.callWith_K (h₀ := X.base) I.ok.mod.kin hk ?_ he0 hpl) hdb)
  rw [he0]
  show wpAny _ _ (spliced ((false, eval (.Lambda params body scope lp) X.env) :: backTo pos (starEach es X.env))) _ _ s
  refine Calls.spliced_cons (LamX.lam_make2 I TB hcode hT hu rs.tabs hdef (L.has I.ok) fun f0 c' pm ctv H1 s1 I1 x1 t1 hf hfn hfr hc => ?_)
  have e1 : Ev X.K ρ H ρ H1 := ⟨⟨[], (List.append_nil ρ).symm⟩, tups_extN x1, fun _ => t1, fun c q z => x1 _ _ z LamX.codeO_ne, fun _ _ z => x1 _ _ z (fun _ y => nomatch y)⟩
  have e2 : Ev X.K ρ H1 (ρ ++ [f0]) H1 := ⟨⟨[f0], rfl⟩, fun _ _ z => z, id, fun _ _ z => z, fun _ _ z => z⟩
  have rh1 := (rh.extN x1 e1).opq f0 e2
  have hnew : ∀ {j : Nat}, ρ.length = j → (ρ ++ [f0])[j]? = some f0 := fun e => by rw [← e]; simp
  have Ip : Inv X ((f0, PySem.W.kla_obj "<lambda>" (X.env.qual ++ "<lambda>") params body scope (cloFrom X.env.cells scope.names []) pm c' ctv) :: pins) σ H1 s1 := I1.pins_of fun q hq => by
    rcases List.mem_cons.mp hq with z | z
    · rw [z]
      rw [hst] at hfr
      exact ⟨hf, hfn, fun y => hfr (by rw [show f0 = X.env.locals from y]; exact List.mem_cons_self), fun y => hfr (List.mem_cons_of_mem _ y), fun v y => nomatch y⟩
    · exact I1.pin q (List.mem_append_right _ z)
  have hA : tG (RVs X.K) X.K W er σ H1 (fun vs H2 => ∃ ρ2 xs h2, RVs X.K ρ2 H2 xs vs ∧ RH X.K ρ2 h2 H2 ∧ RS X.K W ρ2 H2 σf σ ∧ Ev X.K (ρ ++ [f0]) H1 ρ2 H2 ∧ xs.length + 1 = ps.length ∧ Post X.K W (RV X.K) ρ2 H2 σ (g h.length (fun h2 => el σf h2) (.ref h.length :: xs) h2) Q) := by
    refine core (R1 := RVs X.K) (rs.ev (e1.trans e2)) rh1 ((show Post X.K W (RV X.K) ρ H σ ((er σf (h ++ [.opq])).bind fun xs h1 => if xs.length + 1 = ps.length then g h.length (fun h2 => el σf h2) (.ref h.length :: xs) h1 else .stuck) Q from pp).at_ (e1.trans e2)) fun ρ2 H2 h2 xs vs e3 rs2 rh2 r2 p2 => ?_
    by_cases z : xs.length + 1 = ps.length
    · rw [if_pos z] at p2
      exact ⟨ρ2, xs, h2, r2, rh2, rs2, e3, z, p2⟩
    · rw [if_neg z] at p2
      exact p2.elim
  refine thn (ha.run pos _ s1 σ H1 _ Ip hA) fun us s2 ⟨vs, H2, I2, r, ρ2, xs, h2, r2, rh2, rs2, e3, hl, p2⟩ => ?_
  have P0 := I2.pin _ (List.mem_append_right _ List.mem_cons_self)
  have I3 : Inv X pins σ H2 s2 := I2.pins_of fun q hq => I2.pin q (List.mem_append_right _ (List.mem_cons_of_mem _ hq))
  refine ⟨I3.kIn, ?_⟩
  have cl := clo_of (lv := lv) (ev := el) I3 L P0.1 P0.2.1 hfr (e3.codes _ _ hc) (hbind pm ctv c') rs2 fun A outer s H E ρ => hbody f0 c' A outer s H E ρ
  have hn2 : ρ2[h.length]? = some f0 := e3.get (hnew rh.len)
  have hb1 := hb s2 (.ref f0 :: us) I3.kIn (by rw [List.append_nil, List.length_cons, ← r.length, ← r2.len]; exact hl)
  rw [List.append_nil] at hb1
  refine wpAny_call (codeAny_mono (run_fnH (vs := .ref f0 :: vs) F hr hgd tk I3 hb1 (.cons rfl r) (.cons (.ref hn2) r2) rh2 rs2.tabs (by rw [List.length_cons]; exact hl) hn2 cl p2) fun res s' hq => ?_)
  rcases res with ex | (u | _ | _ | _) <;> exact hq
end
end FX
set_option maxRecDepth 100000
set_option maxHeartbeats 4000000
namespace FX
open PySem PySem.Spec PyProof.Rows L2
variable [LamT]

/-! ### the end: a law whose function answers True -/
/-- tracked at the law's call: the tables that are empty, the script (unless the top holds it) -/
def trkE (ts : List Addr) (a : Addr) (z : Option HO) : Hp := fun b => match ts.contains b with
  | true => some (.tbl #[])
  | false => match decide (b = a) with
    | true => z
    | false => none
section
variable {ts : List Addr} {a b : Addr} {z : Option HO}
theorem trkE_ts (h : b ∈ ts) : trkE ts a z b = some (.tbl #[]) := by
  unfold trkE
  rw [show ts.contains b = true from List.contains_iff_mem.mpr h]
theorem trkE_out (h : b ∉ ts) (n : b ≠ a) : trkE ts a z b = none := by
  unfold trkE
  rw [show ts.contains b = false from by rw [← Bool.not_eq_true, List.contains_iff_mem]; exact h, show decide (b = a) = false from decide_eq_false n]
theorem trkE_a (h : a ∉ ts) : trkE ts a z a = z := by
  unfold trkE
  rw [show ts.contains a = false from by rw [← Bool.not_eq_true, List.contains_iff_mem]; exact h, show decide (a = a) = true from decide_eq_true rfl]
theorem trkE_cases (ha : a ∉ ts) (b : Addr) : (b ∈ ts ∧ trkE ts a z b = some (.tbl #[])) ∨ (b = a ∧ trkE ts a z b = z) ∨ trkE ts a z b = none := by
  by_cases h : b ∈ ts
  · exact .inl ⟨h, trkE_ts h⟩
  · by_cases n : b = a
    · subst n
      exact .inr (.inl ⟨rfl, trkE_a ha⟩)
    · exact .inr (.inr (trkE_out h n))
end
theorem no_fly {P : Program} {w : World} {H : Hp} {s : Shared} {e : Value} {s' : Shared} (c : L2N.CX P w [] H s (fun _ _ _ => False) e s') : False := by
  obtain ⟨_, _, _, _, _, _, _, _, _, _, _, _, z⟩ := c
  exact z
/-- the law's call -/
theorem law_run {P : Program} {w : World} {K : PySem.W.Frag} {mg mb : Str → Option Value} {k : Nat} {fa a : Addr} {cs : List (Addr × Addr)} {fd : FuncData} {x : Str} {g : Fn} {sE : Shared} {us : List Value} {ns : List Int}
    (inK : K.In sE.heap) (nsM : sE.heap.Ns mainGlobals mg) (nsB : sE.heap.Ns builtinsNs mb) (boot : ∀ x : Str, x ≠ "__name__" → mb x = bootBuiltins x) (noLim : sE.heap.NoLimit) (noGen : sE.gens = #[])
    (tabs : ∀ p ∈ cs, sE.heap.get? p.2 = some { cls := .none, data := .fields #[] }) (tabsK : ∀ p ∈ cs, K.lookup p.2 = none) (codes : ∀ p ∈ cs, PySem.W.CodeHd sE.heap p.1 p.2)
    (bMod : ∃ (bm : Addr) (ob : Obj), mg "__builtins__" = some (.ref bm) ∧ bm ≠ builtinsNs ∧ sE.heap.get? bm = some ob ∧ ob.cls = .type "module" ∧ ob.dict = some builtinsNs ∧ ob.data = .plain)
    (script : sE.heap.get? a = some { cls := .type "list", data := .seq us.toArray }) (areInts : IntsAre us ns) (short : ns.length ≤ sizeLine) (room : Room k callerA) (hLT : ∀ p ∈ LamT.T K, p.1 ∈ cs.map (·.2))
    (F : ∀ base : Heap, K.In base → base.Ns mainGlobals mg → (∀ p ∈ cs, LamX.TabB base mg p.1 p.2) → FnF P w K mg base k fa fd [x] g) (binds : ∀ (s : Shared) (u : Value), BindsTo s fd ⟨[u], []⟩ [(x, u)])
    (hgo : ∃ h', g [.ref 0] [.ro (ns.map FV.int)] = .ok (.bl true) h') :
    codeAny (model P w) callerA (.call (.ref fa) ⟨[.ref a], []⟩) (fun r s' => r = .ok (.ret (.bool true)) ∧ OldK sE.heap s'.heap ∧ s'.os = sE.os ∧ AllBare s'.gens) sE := by
  have ofTs : ∀ b ∈ cs.map (·.2), sE.heap.get? b = some { cls := .none, data := .fields #[] } := fun b hb => by
    obtain ⟨p, hp, rfl⟩ := List.mem_map.mp hb
    exact tabs p hp
  have aOut : a ∉ cs.map (·.2) := fun y => by
    have e1 := ofTs a y
    rw [script] at e1
    injection e1 with e2
    injection e2 with _ _ e3
    cases e3
  have vals := vals_ints areInts
  -- the script stands in the module's top, or is tracked now
  have ⟨z, hz⟩ : ∃ z : Option HO, (z = none ∧ ∃ o, K.lookup a = some o) ∨ (z = some (.frz { cls := .type "list", data := .seq us.toArray } (.lst (ns.map V.int))) ∧ K.lookup a = none) := by
    cases q : K.lookup a with
    | none => exact ⟨_, .inr ⟨rfl, rfl⟩⟩
    | some o => exact ⟨_, .inl ⟨rfl, o, rfl⟩⟩
  obtain ⟨H, hH⟩ : ∃ H : Hp, H = trkE (cs.map (·.2)) a z := ⟨_, rfl⟩
  have three : ∀ b, (b ∈ cs.map (·.2) ∧ H b = some (.tbl #[])) ∨ (b = a ∧ H b = z) ∨ H b = none := fun b => by rw [hH]; exact trkE_cases aOut b
  have atT : ∀ b ∈ cs.map (·.2), H b = some (.tbl #[]) := fun b hb => by rw [hH]; exact trkE_ts hb
  have atA : H a = z := by rw [hH]; exact trkE_a aOut
  -- all but the script and the tables is left
  have stays : ∀ {b : Addr} {o : Obj}, sE.heap.get? b = some o → (∀ xs n, o.data ≠ .seq xs n) → o.data ≠ .fields #[] → (hidT sE.heap H).get? b = some o := fun {b o} e n1 n2 => by
    refine hidT_get e ?_
    rcases three b with ⟨hb, _⟩ | ⟨rfl, _⟩ | y
    · rw [ofTs b hb] at e
      cases e
      exact absurd rfl n2
    · rw [script] at e
      cases e
      exact absurd rfl (n1 _ _)
    · exact y
  have spaces : ∀ {b : Addr} {m : Str → Option Value}, sE.heap.Ns b m → (hidT sE.heap H).Ns b m := fun ⟨o, es, ep, e, d, r⟩ => ⟨o, es, ep, stays e (by rw [d]; exact fun _ _ y => nomatch y) (by rw [d]; exact fun y => nomatch y), d, r⟩
  have inB : K.In (hidT sE.heap H) := fun b o e => by
    refine hidT_get (inK b o e) ?_
    rcases three b with ⟨hb, _⟩ | ⟨rfl, y⟩ | y
    · obtain ⟨p, hp, rfl⟩ := List.mem_map.mp hb
      rw [tabsK p hp] at e
      cases e
    · rcases hz with ⟨hz, _⟩ | ⟨_, hz⟩
      · rw [y, hz]
      · rw [hz] at e
        cases e
    · exact y
  have nGlob : ∀ {b : Addr} {o : Obj}, sE.heap.get? b = some o → (∀ es ep, o.data ≠ .dict es ep) → b ≠ mainGlobals := fun e n y => by
    obtain ⟨o', es, ep, e', d', _⟩ := nsM
    rw [y, e'] at e
    cases e
    exact n es ep d'
  have tabB : ∀ p ∈ cs, LamX.TabB (hidT sE.heap H) mg p.1 p.2 := fun p hp => by
    refine ⟨?_, ?_, (nGlob (tabs p hp) fun _ _ y => nomatch y).symm⟩
    · obtain ⟨oc, vs, f1, f2, f3, f4, f5, f6, f7, c1, c2, c3, c4, crest⟩ := codes p hp
      exact ⟨oc, vs, f1, f2, f3, f4, f5, f6, f7, stays c1 (by rw [c3]; exact fun _ _ y => nomatch y) (by rw [c3]; intro y; cases y; simp at c4), c2, c3, c4, crest⟩
    · obtain ⟨bm, ob, m1, m2, m3, m4, m5, m6⟩ := bMod
      refine ⟨bm, ob, m1, m2, nGlob m3 (by rw [m6]; exact fun _ _ y => nomatch y), fun y => ?_, stays m3 (by rw [m6]; exact fun _ _ y => nomatch y) (by rw [m6]; exact fun y => nomatch y), m4, m5, m6⟩
      rw [y, tabs p hp] at m3
      cases m3
      cases m4
  have allOk : HOk P w H sE.heap := fun b u e => by
    rcases three b with ⟨hb, y⟩ | ⟨rfl, y⟩ | y
    · rw [y] at e
      cases e
      exact ofTs b hb
    · rcases hz with ⟨hz, _⟩ | ⟨hz, _⟩
      · rw [y, hz] at e
        cases e
      · rw [y, hz] at e
        cases e
        exact ⟨script, by rw [List.length_map]; exact short, us, _, vals, script⟩
    · rw [y] at e
      cases e
  have limB : (hidT sE.heap H).NoLimit := by
    obtain ⟨mc, l1, l2⟩ := noLim
    exact ⟨mc, spaces l1, l2⟩
  have env : Env0 P w K mg (hidT sE.heap H) callerA [] sE H := {
    frames := rfl
    mod := ⟨inB, spaces nsM, ⟨mb, spaces nsB, boot⟩, limB⟩
    bs := fun _ _ => of_hidT
    bsz := Nat.le_of_eq (hidT_size _ _)
    funs := trivial
    frf := fun b hb => nomatch hb
    hok := allOk
    bare := .of_eq noGen }
  have rvs : RVs K [a] H (ns.map FV.int) (ns.map V.int) := by
    have go : ∀ l : List Int, RVs K [a] H (l.map FV.int) (l.map V.int) := fun l => by
      induction l with
      | nil => exact .nil
      | cons i l ih => exact .cons (.int i) ih
    exact go ns
  have ro : RO K [a] H a (.ro (ns.map FV.int)) := by
    rcases hz with ⟨_, o, hk⟩ | ⟨hz, _⟩
    · have e := inK a o hk
      rw [script] at e
      cases e
      exact .inl ⟨_, ⟨_, us.toArray, _, hk, rfl, rfl, rfl, by rw [List.size_toArray, areInts.length]; exact short, vals⟩, rvs⟩
    · exact .inr ⟨_, .inr ⟨_, atA.trans hz⟩, rvs⟩
  have rh : RH K [a] [.ro (ns.map FV.int)] H := by
    refine ⟨rfl, fun i j b q1 q2 => .inl ?_, fun n o q => ?_⟩
    · have l1 := (List.getElem?_eq_some_iff.mp q1).1
      have l2 := (List.getElem?_eq_some_iff.mp q2).1
      simp only [List.length_singleton] at l1 l2
      omega
    · cases n with
      | zero => cases q; exact ⟨a, rfl, ro⟩
      | succ n => cases q
  have tb : LamX.Tabs (LamT.T K) H := fun p hp => ⟨#[], atT _ (hLT p hp), trivial, fun pos cv q => nomatch q⟩
  obtain ⟨h', hgo⟩ := hgo
  refine codeAny_mono ((F _ inB (spaces nsM) tabB).run callerA [] sE H ⟨[.ref a], []⟩ [.ref a] [.ref a] [.ref 0] [a] _ (fun v _ => v = .bl true) (fun _ _ _ => False) room rfl env (binds sE (.ref a)) (.cons rfl .nil) (.cons (.ref rfl) .nil) rh tb rfl ?_) fun r s' c => ?_
  · rw [hgo]
    exact fun ρ' H' v _ _ rv => by cases rv; rfl
  · match r, c with
    | .error e, c => exact (no_fly c).elim
    | .ok (.ret u), c =>
      obtain ⟨v, H', eos, gens, un, ok', rel, ev⟩ := c
      cases (show v = .bl true from ev)
      cases (show u = .bool true from rel)
      have kept : ∀ b o, b ∉ cs.map (·.2) → sE.heap.get? b = some o → s'.heap.get? b = some o := fun b o nb e => by
        have hN : H b = none → s'.heap.get? b = some o := fun y => un.keep b o e y (fun q => nomatch q) (fun q => nomatch q)
        rcases three b with ⟨hb, _⟩ | ⟨rfl, y⟩ | y
        · exact absurd hb nb
        · rcases hz with ⟨hz, _⟩ | ⟨hz, _⟩
          · exact hN (y.trans hz)
          · obtain ⟨q1, _⟩ := allOk _ _ (y.trans hz)
            obtain ⟨q2, _⟩ := ok' _ _ (un.frzs _ _ _ (y.trans hz))
            rw [q1] at e
            cases e
            exact q2
        · exact hN y
      have grown : ∀ b ∈ cs.map (·.2), ∃ more : Array Value, s'.heap.get? b = some { cls := .none, data := .fields more } := fun b hb => by
        obtain ⟨more, q⟩ := un.tbls b #[] (atT b hb)
        exact ⟨_, ok' b _ q⟩
      refine ⟨rfl, ⟨fun b o e => ?_, fun b o e => ?_⟩, eos, gens⟩
      · by_cases hb : b ∈ cs.map (·.2)
        · obtain ⟨more, hm⟩ := grown b hb
          obtain ⟨p, hp, rfl⟩ := List.mem_map.mp hb
          rw [tabs p hp] at e
          cases e
          exact .inr (.inl ⟨((codes p hp).tab (tabs p hp)).isCodeTable, rfl, #[], more, rfl, by rw [hm]; simp⟩)
        · exact .inl (kept b o hb e)
      · by_cases hb : b ∈ cs.map (·.2)
        · obtain ⟨more, hm⟩ := grown b hb
          exact ⟨_, hm⟩
        · exact ⟨o, kept b o hb e⟩
/-- what the head has to tell of the law -/
structure LawF (P : Program) (w : World) (K : PySem.W.Frag) (k n : Nat) (x : Str) (mg : Str → Option Value) (fa : Addr) (h : Heap) : Prop where
  ex : ∃ (fd : FuncData) (cs : List (Addr × Addr)) (g : Fn), (∀ p ∈ cs, h.get? p.2 = some { cls := .none, data := .fields #[] }) ∧ (∀ p ∈ cs, K.lookup p.2 = none) ∧ (∀ p ∈ cs, PySem.W.CodeHd h p.1 p.2) ∧ (∀ p ∈ LamT.T K, p.1 ∈ cs.map (·.2)) ∧ (∀ (s : Shared) (u : Value), BindsTo s fd ⟨[u], []⟩ [(x, u)]) ∧
    (∀ ns : List Int, ns.length ≤ n → (∀ i ∈ ns, Builtin.Int.intBits i ≤ 1048576) → ∃ h', g [.ref 0] [.ro (ns.map FV.int)] = .ok (.bl true) h') ∧
    ∀ base : Heap, K.In base → base.Ns mainGlobals mg → (∀ p ∈ cs, LamX.TabB base mg p.1 p.2) → FnF P w K mg base k fa fd [x] g
theorem walk_end {l : PySem.W.OpenLaw} {n k : Nat} {q : Program} {loose : List Str} {XP : (Str → Option Value) → Heap → Prop} {YP : World → Heap → Prop} {d : DefRec} {x : Str}
    (most : l.most = some n) (line : n ≤ sizeLine) (plain : d.params.defaults = []) (room : Room k callerA)
    (law : ∀ (w : World) (mg : Str → Option Value) (fa : Addr) (h : Heap), YP w h → h.Ns mainGlobals mg → mg d.name = some (.ref fa) → ∃ K : PySem.W.Frag, K.In h ∧ LawF l.prog w K k n x mg fa h) : PySem.W.WalkO q loose XP YP l.row.toRowW d [] (fun f vs => PySem.call f vs) := by
  refine Att.attach_callB most plain fun w s₀ sE mg mb fa o pm cd doc a us ns G Y _ _ _ named script areInts many bits noGen => ?_
  obtain ⟨K, inK, ⟨fd, cs, g, t1, t2, t3, t4, t5, t6, t7⟩⟩ := law w mg fa _ Y G.T.g named
  exact law_run inK G.T.g G.T.b G.T.builtins G.T.nolimit noGen t1 t2 t3 G.T.bmain script areInts (Nat.le_trans many line) room t4 t7 t5 (t6 ns many bits)
end FX
set_option maxRecDepth 100000
set_option maxHeartbeats 4000000
namespace FX
open PySem PySem.Spec PyProof.Rows L2
variable [LamT]

/-! ### a def by its name -/
structure Kn (P : Program) (w : World) (K : PySem.W.Frag) (mg : Str → Option Value) (base : Heap) (k : Nat) (x : Str) (ps : List Str) (g : Fn) : Prop where
  ex : ∃ (f : Addr) (fd : FuncData), mg x = some (.ref f) ∧ PySem.W.keepIn K (.ref f) = true ∧ Binds K fd ps [] ∧ FnF P w K mg base k f fd ps g
structure KnH (P : Program) (w : World) (K : PySem.W.Frag) (mg : Str → Option Value) (base : Heap) (k lv : Nat) (x : Str) (ps : List Str) (g : FnC) : Prop where
  ex : ∃ (f : Addr) (fd : FuncData), mg x = some (.ref f) ∧ PySem.W.keepIn K (.ref f) = true ∧ Binds K fd ps [] ∧ FnH P w K mg base k lv f fd ps g
section
variable {P : Program} {w : World} {K : PySem.W.Frag} {mg : Str → Option Value} {base : Heap} {k k' lv : Nat} {x : Str} {ps : List Str} {g : Fn}
theorem Kn.mono (D : Kn P w K mg base k x ps g) (h : k ≤ k') : Kn P w K mg base k' x ps g := let ⟨f, fd, a, b, c, d⟩ := D.ex; ⟨f, fd, a, b, c, d.mono h⟩
theorem FnH.mono {f : Addr} {fd : FuncData} {g : FnC} (F : FnH P w K mg base k lv f fd ps g) (h : k ≤ k') : FnH P w K mg base k' lv f fd ps g :=
  ⟨fun A outer s H args us vs fs ρ hh Q E fc n d hr => F.run A outer s H args us vs fs ρ hh Q E fc n d (hr.mono h)⟩
theorem KnH.mono {g : FnC} (D : KnH P w K mg base k lv x ps g) (h : k ≤ k') : KnH P w K mg base k' lv x ps g := let ⟨f, fd, a, b, c, d⟩ := D.ex; ⟨f, fd, a, b, c, d.mono h⟩
end
section
variable {X : Cx} {W : Wsh} {a b e : Expr} {es : List Expr} {ea eb : EvE} {er : EvA} {pos p p2 : Pos} {x : Str} {k lv : Nat} {ps : List Str} {g : Fn}
theorem fe_cl {n : Nat} (D : Kn X.prog X.w X.K X.mg X.base k x ps g) (hr : Room k X.A) (hgd : X.A.guards = some []) (tk : L2N.Takes X W.w) (ha : FA X W (e :: es) er) (hn : ps.length = n := by rfl) (hg : Gl X x := by rfl) (hdb : (x == ("__debug__" : Str)) = false := by decide)
    (he : starEach (e :: es) X.env = (false, eval e X.env) :: starEach es X.env := by rfl) (hpl : (backTo pos (starEach es X.env)).any (·.1) = false := by rfl) : FE X W (.Call (.Name x p) (e :: es) [] pos) (cCall n g er) := by
  subst hn
  obtain ⟨f, fd, h1, h2, h3, h4⟩ := D.ex
  exact fe_call h4 hr hgd tk h1 h2 h3 ha hg hdb he hpl
theorem fe_cl0 (D : Kn X.prog X.w X.K X.mg X.base k x [] g) (hr : Room k X.A) (hgd : X.A.guards = some []) (tk : L2N.Takes X W.w) (hg : Gl X x := by rfl) (hdb : (x == ("__debug__" : Str)) = false := by decide) : FE X W (.Call (.Name x p) [] [] pos) (cCall 0 g cNil) := by
  obtain ⟨f, fd, h1, h2, h3, h4⟩ := D.ex
  exact fe_call0 h4 hr hgd tk h1 h2 h3 hg hdb
def lamQ (q : Str) : Str := q ++ "<lambda>"
theorem fe_lm_ {n : Nat} {g : FnC} {el : EvE} {params : Arguments} {body : Expr} {scope : Scope} {lp : Pos} {c P : Addr} (D : KnH X.prog X.w X.K X.mg X.base k (lv + 1) x ps g) (hr : Room k X.A) (hgd : X.A.guards = some []) (tk : L2N.Takes X W.w)
    (TB : LamX.TabB X.base X.mg c P) (hcode : X.env.code = .ref c) (hT : (P, lamQ X.env.qual) ∈ LamT.T X.K) (hu : ∀ q ∈ LamT.T X.K, q.1 = P → q.2 = lamQ X.env.qual) (L : LamX.lamSB X.env.scope scope = true)
    (hbody : ∀ (f c' : Addr) (A : Around) (outer : List Env) (s : Shared) (H : Hp) (E : XK) (ρ : List Addr), Room lv (lcx X A outer s H E scope f c').A → A.guards = some [] → FE (lcx X A outer s H E scope f c') (WE' E ρ H) body el)
    (ha : FA X W es er) (hn : ps.length = n := by rfl) (hst : frs X.stack = X.env.locals :: X.fs := by rfl) (hgl : Gl X x := by rfl) (hdb : (x == ("__debug__" : Str)) = false := by decide) (hdef : defaultsOf params X.env = ([], []) := by rfl)
    (hbind : ∀ (pm ctv : Value) (c' : Addr), bindArgs (PySem.W.kla_fn "<lambda>" (X.env.qual ++ "<lambda>") params body scope (cloFrom X.env.cells scope.names []) pm (.ref c') ctv) ⟨[], []⟩ = pure [] := by exact fun _ _ _ => rfl)
    (he0 : starEach (.Lambda params body scope lp :: es) X.env = (false, eval (.Lambda params body scope lp) X.env) :: starEach es X.env := by rfl) (hpl : (backTo pos (starEach es X.env)).any (·.1) = false := by rfl) : FE X W (.Call (.Name x p) (.Lambda params body scope lp :: es) [] pos) (cLam n g el er) := by
  subst hn
  obtain ⟨f, fd, h1, h2, h3, h4⟩ := D.ex
  exact fe_lam h4 hr hgd tk TB hcode hT hu (LamX.lamS_by L) hbody h1 h2 h3 ha hst hgl hdb hdef hbind he0 hpl

/-! ### never reached; a try whose body raises nothing -/
def sNo : EvS := fun _ _ => .stuck
theorem fs_no {st : Stmt} : FS X W st sNo := ⟨fun pins s σ H D I ⟨ρ, σf, h, rs, rh, p⟩ => p.elim⟩
theorem fss_no {st : List Stmt} : FSs X W st sNo := ⟨fun pins s σ H D I ⟨ρ, σf, h, rs, rh, p⟩ => p.elim⟩
def cNo : EvE := fun _ _ => .stuck
theorem fe_no : FE X W e cNo := ⟨fun pins s σ H D I ⟨ρ, σf, h, rs, rh, p⟩ => p.elim⟩
def sTry0 (b : EvS) : EvS := fun σ h => match b σ h with
  | .ex _ _ _ _ => .stuck
  | r => r
theorem fs_try0 {ev : EvS} {body : List Stmt} {h0 : ExceptHandler} {hs : List ExceptHandler} (hb : FSs X.nox W.nox body ev) : FS X W (.Try body (h0 :: hs) [] [] pos) (sTry0 ev) := by
  refine ps_imp (ps_try_thru0 hb) fun D σ H ⟨ρ, σf, h, rs, rh, p⟩ => ⟨ρ, σf, h, rs.wish _, rh, ?_⟩
  unfold sTry0 at p
  cases q : ev σf h with
  | nx σ1 h1 => rw [q] at p; exact fun ρ' H' σ' e' rs' => p ρ' H' σ' e' (rs'.wish _)
  | rt v h1 => rw [q] at p; exact p
  | bk σ1 h1 => rw [q] at p; exact fun ρ' H' σ' e' rs' => p ρ' H' σ' e' (rs'.wish _)
  | ct σ1 h1 => rw [q] at p; exact fun ρ' H' σ' e' rs' => p ρ' H' σ' e' (rs'.wish _)
  | ex c fs σ1 h1 => rw [q] at p; exact p.elim
  | stuck => rw [q] at p; exact p.elim
end
end FX
set_option maxRecDepth 100000
set_option maxHeartbeats 4000000
namespace FX
open PySem PySem.Spec PyProof.Rows L2
variable [LamT]

/-! ### values of the top -/
def kAll {α β : Type} (p : α → β → Bool) : List α → List β → Bool
  | [], [] => true
  | x :: xs, y :: ys => p x y && kAll p xs ys
  | _, _ => false
def kVal (K : PySem.W.Frag) : Nat → FV → Value → Bool
  | 0, _, _ => false
  | n + 1, x, u => match x, u with
    | .non, .none => true
    | .bl b, .bool c => b == c
    | .int i, .int j _ => decide (i = j)
    | .str y, .str z _ => decide (y = z)
    | .tup xs, .ref a => (match K.lookup a with
      | some ⟨.type c, _, .seq its _, _⟩ => decide (c = "tuple") && (decide (its.size ≤ sizeLine) && kAll (kVal K n) xs its.toList)
      | _ => false)
    | _, _ => false
theorem kVal_ok {K : PySem.W.Frag} : ∀ (n : Nat) {x : FV} {u : Value}, kVal K n x u = true → ∃ v : V, RelV v u ∧ ∀ ρ H, RV K ρ H x v
  | 0, _, _, h => by cases h
  | n + 1, x, u, h => by
    unfold kVal at h
    split at h
    · exact ⟨.non, rfl, fun _ _ => .non⟩
    · rename_i b c
      cases eq_of_beq h
      exact ⟨.bl b, rfl, fun _ _ => .bl b⟩
    · rename_i i j t
      cases of_decide_eq_true h
      exact ⟨.int i, ⟨t, rfl⟩, fun _ _ => .int i⟩
    · rename_i y z t
      cases of_decide_eq_true h
      exact ⟨.str y, ⟨t, rfl⟩, fun _ _ => .str y⟩
    · rename_i xs a
      split at h
      · rename_i c od its m sl q
        rw [Bool.and_eq_true, Bool.and_eq_true] at h
        obtain ⟨h1, h2, h3⟩ := h
        have all : ∀ {xs : List FV} {us : List Value}, kAll (kVal K n) xs us = true → ∃ vs : List V, Vals vs us ∧ ∀ ρ H, RVs K ρ H xs vs := fun {xs} => by
          induction xs with
          | nil =>
            intro us e
            cases us with
            | nil => exact ⟨[], .nil, fun _ _ => .nil⟩
            | cons _ _ => cases e
          | cons y ys ih =>
            intro us e
            cases us with
            | nil => cases e
            | cons u us =>
              obtain ⟨e1, e2⟩ := (Bool.and_eq_true _ _).mp (show (kVal K n y u && kAll (kVal K n) ys us) = true from e)
              obtain ⟨v, r1, r2⟩ := kVal_ok n e1
              obtain ⟨vs, r3, r4⟩ := ih e2
              exact ⟨v :: vs, .cons r1 r3, fun ρ H => .cons (r2 ρ H) (r4 ρ H)⟩
        obtain ⟨vs, r1, r2⟩ := all h3
        exact ⟨.ref a, rfl, fun ρ H => .tup (.inr ⟨_, its, m, q, by rw [of_decide_eq_true h1], rfl, of_decide_eq_true h2, r1⟩) (r2 ρ H)⟩
      · cases h
    · cases h
/-- the name's value at the top -/
def KnV (K : PySem.W.Frag) (mg : Str → Option Value) (x : Str) (v : FV) : Prop := ∃ u, mg x = some u ∧ kVal K 6 v u = true
def kVar (x : Str) (v : FV) (K : PySem.W.Frag) : Bool := match PySem.W.nsIn K mainGlobals x with
  | some (some u) => kVal K 6 v u
  | _ => false
theorem knV_of {K : PySem.W.Frag} {h : Heap} {mg : Str → Option Value} {x : Str} {v : FV} (i : K.In h) (g : h.Ns mainGlobals mg) (c : kVar x v K = true) : KnV K mg x v := by
  unfold kVar at c
  split at c
  · rename_i u q
    exact ⟨u, PySem.W.mg_of i g q, c⟩
  · cases c
def sSetD (eo ei ev : EvE) : EvS := fun σ h => (ev σ h).toS σ fun v h1 => (eo σ h1).toS σ fun o h2 => (ei σ h2).toS σ fun i h3 => if isDic o h3 = true then (match setIxF o i v h3 with
  | some h4 => .nx σ h4
  | none => .stuck) else .stuck
theorem fs_dset {X : Cx} {W : Wsh} {o i v : Expr} {eo ei ev : EvE} {pos pos' : Pos} (hu : X.A.units + 1 < cLine) (ho : FE X W o eo) (hi : FE X W i ei) (hv : FE X W v ev) (hs : swapsWith v (some (.Subscript o i pos')) pos.line X.env = pure false := by rfl) :
    FS X W (.Assign [.Subscript o i pos'] v pos) (sSetD eo ei ev) := fs_setD hu ho hi hv hs
def sSetL (eo ei ev : EvE) : EvS := fun σ h => (ev σ h).toS σ fun v h1 => (eo σ h1).toS σ fun o h2 => (ei σ h2).toS σ fun i h3 => if isLst o h3 = true then (match setIxF o i v h3 with
  | some h4 => .nx σ h4
  | none => .stuck) else .stuck
theorem fs_lset {X : Cx} {W : Wsh} {o i v : Expr} {eo ei ev : EvE} {pos pos' : Pos} (ho : FE X W o eo) (hi : FE X W i ei) (hv : FE X W v ev) (hs : swapsWithSole [.Subscript o i pos'] v pos.line X.env = pure false := by rfl) (hw : swappedStores [.Subscript o i pos'] v X.env = pure none := by rfl)
    (h1 : (assignEach [.Subscript o i pos'] X.env).map (·.2) = [assign (.Subscript o i pos') X.env] := by rfl)
    (ha : ∀ v, assign (.Subscript o i pos') X.env v = (do let ov ← holding [v] (eval o X.env); let iv ← holding [v, ov] (eval i X.env); standAt pos'; holding [v, ov, iv] (setItem ov iv v); release [v, ov, iv] []) := by intro _; rfl) :
    FS X W (.Assign [.Subscript o i pos'] v pos) (sSetL eo ei ev) := fs_setL ho hi hv hs hw h1 ha
theorem lam_takes {X : Cx} {A : Around} {outer : List Env} {s : Shared} {H : Hp} {E : XK} {scope : Scope} {f c : Addr} {ρ : List Addr} : L2N.Takes (lcx X A outer s H E scope f c) (WE' E ρ H).w := L2N.takes_of rfl rfl rfl rfl
theorem room_u1 {k : Nat} {A : Around} (r : Room k A) : A.units + 1 < cLine := by have := r.un; omega
theorem fe_glv {X : Cx} {W : Wsh} {x : Str} {v : FV} {pos : Pos} (h : KnV X.K X.mg x v) (hg : Gl X x := by rfl) (hd : (x == ("__debug__" : Str)) = false := by decide) : FE X W (.Name x pos) (cC v) := by
  obtain ⟨u, h1, h2⟩ := h
  obtain ⟨y, r1, r2⟩ := kVal_ok 6 h2
  exact pe_imp (pe_glob hg h1 r1 hd) fun σ H Q ⟨ρ, σf, h, rs, rh, p⟩ => Post.ok_ (x := v) p rh (r2 _ _)
end FX
set_option maxRecDepth 100000
set_option maxHeartbeats 4000000
namespace FX
open PySem PySem.Spec PyProof.Rows L2
/-! ### what the head tells -/
/-- the tables of the defs that make lambdas -/
def tabsOfDefs (tf : List He.Defn) (K : PySem.W.Frag) : List (Addr × Str) := tf.map fun p => ((He.cT K p).2, lamQ (p.1 ++ ".<locals>."))
/-- .. are apart -/
def apartB (tf : List He.Defn) (K : PySem.W.Frag) : Bool := decide ((tf.map fun p => (He.cT K p).2).Nodup)
theorem apart_one {α : Type} (f : α → Addr) : ∀ {l : List α}, (l.map f).Nodup → ∀ {p q : α}, p ∈ l → q ∈ l → f p = f q → p = q
  | [], _, _, _, hp, _, _ => nomatch hp
  | x :: l, nd, p, q, hp, hq, e => by
    have nd2 : f x ∉ l.map f ∧ (l.map f).Nodup := List.nodup_cons.mp (show (f x :: l.map f).Nodup from nd)
    rcases List.mem_cons.mp hp with e1 | hp1
    · rcases List.mem_cons.mp hq with e2 | hq1
      · rw [e1, e2]
      · exact absurd (List.mem_map.mpr ⟨q, hq1, by rw [← e, e1]⟩) nd2.1
    · rcases List.mem_cons.mp hq with e2 | hq1
      · exact absurd (List.mem_map.mpr ⟨p, hp1, by rw [e, e2]⟩) nd2.1
      · exact apart_one f nd2.2 hp1 hq1 e
section
variable {fa : List He.Fa} {fn : List He.DefD} {ts : List He.Tab} {tf : List He.Defn} {ex : PySem.W.Frag → Bool} {w : World} {h : Heap} {K : PySem.W.Frag}
theorem tabs_one (a : apartB tf K = true) {p : He.Defn} (hp : p ∈ tf) : ∀ q ∈ tabsOfDefs tf K, q.1 = (He.cT K p).2 → q.2 = lamQ (p.1 ++ ".<locals>.") := fun q hq e => by
  obtain ⟨r, hr, rfl⟩ := List.mem_map.mp hq
  rw [apart_one (fun p => (He.cT K p).2) (of_decide_eq_true a) hr hp e]
theorem tabs_mem {p : He.Defn} (hp : p ∈ tf) : ((He.cT K p).2, lamQ (p.1 ++ ".<locals>.")) ∈ tabsOfDefs tf K := List.mem_map.mpr ⟨p, hp, rfl⟩
theorem tabs_in : ∀ p ∈ tabsOfDefs tf K, p.1 ∈ (tf.map (He.cT K)).map (·.2) := fun q hq => by
  obtain ⟨r, hr, rfl⟩ := List.mem_map.mp hq
  exact List.mem_map_of_mem (List.mem_map_of_mem hr)
theorem code_of_def {x qual : Str} {params : Arguments} {body : List Stmt} {scope : Scope} {dvs : List V} {kws : List (Str × V)} {p : He.Defn} {fd : FuncData} (F : FunD K x qual params body scope dvs kws (He.fAd K p) fd) : fd.code = .ref (He.cT K p).1 := by
  obtain ⟨oc, od, dV, kV, doc, pm, an, cdv, ct, osl, rfl, lk, hcd, _, _⟩ := F.ex
  obtain ⟨c, rfl⟩ := He.codeIn_ref hcd
  have e := He.codeOf_eq (c := c) lk rfl
  show Value.ref c = .ref (He.codeOf K p)
  rw [e]
theorem law_of_says [LamT] {P : Program} {k n : Nat} {x : Str} {mg : Str → Option Value} {fa0 : Addr} {fd : FuncData} {g : Fn} (i : K.In h) (c : He.SaysX fa fn ts tf ex w h K) (hT : LamT.T K = tabsOfDefs tf K) (b : ∀ (s : Shared) (u : Value), BindsTo s fd ⟨[u], []⟩ [(x, u)])
    (pure : ∀ ns : List Int, ns.length ≤ n → (∀ i ∈ ns, Builtin.Int.intBits i ≤ 1048576) → ∃ h', g [.ref 0] [.ro (ns.map FV.int)] = .ok (.bl true) h')
    (F : ∀ base : Heap, K.In base → base.Ns mainGlobals mg → (∀ p ∈ tf, LamX.TabB base mg (He.cT K p).1 (He.cT K p).2) → FnF P w K mg base k fa0 fd [x] g) : LawF P w K k n x mg fa0 h := by
  refine ⟨fd, tf.map (He.cT K), g, fun p hp => ?_, fun p hp => ?_, fun p hp => ?_, by rw [hT]; exact tabs_in, b, pure, fun base a1 a2 a3 => F base a1 a2 fun p hp => a3 _ (List.mem_map_of_mem hp)⟩
  · obtain ⟨q, hq, rfl⟩ := List.mem_map.mp hp
    exact c.empty q hq
  · obtain ⟨q, hq, rfl⟩ := List.mem_map.mp hp
    exact c.out q hq
  · obtain ⟨q, hq, rfl⟩ := List.mem_map.mp hp
    exact PySem.W.codeHd_of_K i (c.hd q hq)
end
end FX
set_option maxRecDepth 100000
set_option maxHeartbeats 4000000
namespace FX
open PySem PySem.Spec PyProof.Rows L2
/-! ### the functions, step by step -/
section
variable {α β : Type} {σ : FSt} {h : FH} {x : α}
@[simp] theorem r_bind_ok {k : α → FH → Res β} : (Res.ok x h).bind k = k x h := rfl
@[simp] theorem r_bind_stuck {k : α → FH → Res β} : (Res.stuck : Res α).bind k = .stuck := rfl
@[simp] theorem r_toS_ok {k : α → FH → SR} : (Res.ok x h).toS σ k = k x h := rfl
@[simp] theorem r_of_some {h : FH} : Res.of (some (x, h)) = .ok x h := rfl
@[simp] theorem then_nx {k : EvS} : (SR.nx σ h).then_ k = k σ h := rfl
@[simp] theorem then_rt {v : FV} {k : EvS} : (SR.rt v h).then_ k = .rt v h := rfl
@[simp] theorem then_bk {k : EvS} : (SR.bk σ h).then_ k = .bk σ h := rfl
@[simp] theorem then_ct {k : EvS} : (SR.ct σ h).then_ k = .ct σ h := rfl
variable {g g' : Op2} {ea eb ec : EvE} {er : EvA} {ta tb : EvT} {ei : EvI}
@[simp] theorem a_cC {v : FV} : cC v σ h = .ok v h := rfl
@[simp] theorem a_cVar {i : Nat} : cVar i σ h = match σ[i]? with
  | some (some v) => .ok v h
  | _ => .stuck := rfl
@[simp] theorem a_cNil : cNil σ h = .ok [] h := rfl
@[simp] theorem a_cCons : cCons ea er σ h = (ea σ h).bind fun x h1 => (er σ h1).bind fun xs h2 => .ok (x :: xs) h2 := rfl
@[simp] theorem a_cBin : cBin g ea eb σ h = (ea σ h).bind fun x h1 => (eb σ h1).bind fun y h2 => Res.of (g x y h2) := rfl
@[simp] theorem a_cTb : cTb ea σ h = (ea σ h).bind fun x h1 => match x with
  | .bl b => .ok b h1
  | _ => .stuck := rfl
@[simp] theorem a_cAndT : cAndT ta tb σ h = (ta σ h).bind fun b h1 => if b = true then tb σ h1 else .ok false h1 := rfl
@[simp] theorem a_cOrT : cOrT ta tb σ h = (ta σ h).bind fun b h1 => if b = true then .ok true h1 else tb σ h1 := rfl
@[simp] theorem a_cNotT : cNotT ta σ h = (ta σ h).bind fun b h1 => .ok (!b) h1 := rfl
@[simp] theorem a_cIf : cIf ta ea eb σ h = (ta σ h).bind fun k h1 => if k = true then ea σ h1 else eb σ h1 := rfl
@[simp] theorem a_cTru : cTru ea σ h = (ea σ h).bind fun x h1 => match truF x h1 with
  | some b => .ok b h1
  | none => .stuck := rfl
@[simp] theorem truF_bl {b : Bool} : truF (.bl b) h = some b := rfl
@[simp] theorem a_cCB {g : OpN} : cCB g er σ h = (er σ h).bind fun xs h1 => Res.of (g xs h1) := rfl
@[simp] theorem a_cCall {n : Nat} {g : Fn} : cCall n g er σ h = (er σ h).bind fun xs h1 => if xs.length = n then g xs h1 else .stuck := rfl
@[simp] theorem a_cTup : cTup er σ h = (er σ h).bind fun xs h1 => if small xs.length = true then .ok (.tup xs) h1 else .stuck := rfl
@[simp] theorem a_cLst : cLst er σ h = (er σ h).bind fun xs h1 => if small xs.length = true then .ok (.ref h1.length) (h1 ++ [.lst xs]) else .stuck := rfl
@[simp] theorem a_cDic0 : cDic0 σ h = .ok (.ref h.length) (h ++ [.dic []]) := rfl
@[simp] theorem a_cIt : cIt ea σ h = (ea σ h).bind fun x h1 => match x with
  | .tup xs => .ok (.seq xs) h1
  | .ref n => (match lstF n h1 with
    | some _ => .ok (.own n) h1
    | none => .stuck)
  | _ => .stuck := rfl
@[simp] theorem a_sRet : sRet ea σ h = (ea σ h).toS σ fun v h1 => .rt v h1 := rfl
@[simp] theorem a_sRetN : sRetN σ h = .rt .non h := rfl
@[simp] theorem a_sExpr : sExpr ea σ h = (ea σ h).toS σ fun _ h1 => .nx σ h1 := rfl
@[simp] theorem a_sSkip : sSkip σ h = .nx σ h := rfl
@[simp] theorem a_sBrk : sBrk σ h = .bk σ h := rfl
@[simp] theorem a_sSeq {a b : EvS} : sSeq a b σ h = (a σ h).then_ b := rfl
@[simp] theorem a_sAsg {i : Nat} : sAsg i ea σ h = (ea σ h).toS σ fun v h1 => .nx (σ.set i (some v)) h1 := rfl
@[simp] theorem a_sIf {a b : EvS} : sIf ta a b σ h = (ta σ h).toS σ fun k h1 => if k = true then a σ h1 else b σ h1 := rfl
@[simp] theorem a_sAsgT {t : Tg} : sAsgT t ea σ h = (ea σ h).toS σ fun v h1 => match setT h1 t v σ with
  | some σ' => .nx σ' h1
  | none => .stuck := rfl
@[simp] theorem a_sPar {i j : Nat} : sPar i j er σ h = (er σ h).toS σ fun xs h1 => match xs with
  | [v, w] => .nx ((σ.set i (some v)).set j (some w)) h1
  | _ => .stuck := rfl
@[simp] theorem a_sPar3 {i j k : Nat} : sPar3 i j k er σ h = (er σ h).toS σ fun xs h1 => match xs with
  | [v, w, u] => .nx (((σ.set i (some v)).set j (some w)).set k (some u)) h1
  | _ => .stuck := rfl
@[simp] theorem setT_nm {i : Nat} {v : FV} : setT h (.nm i) v σ = some (σ.set i (some v)) := rfl
@[simp] theorem setT_tp {ts : List Tg} {xs : List FV} : setT h (.tp ts) (.tup xs) σ = setTs h ts xs σ := rfl
@[simp] theorem setT_tt {ts : List Tg} {xs : List FV} : setT h (.tt ts) (.tup xs) σ = setTs h ts xs σ := rfl
theorem setT_ls {ts : List Tg} {xs : List FV} {n : Nat} (e : h[n]? = some (.lst xs)) : setT h (.tp ts) (.ref n) σ = setTs h ts xs σ := by simp only [setT, seqF, e]
@[simp] theorem setTs_nil : setTs h [] [] σ = some σ := rfl
@[simp] theorem setTs_cons {t : Tg} {ts : List Tg} {x : FV} {xs : List FV} : setTs h (t :: ts) (x :: xs) σ = match setT h t x σ with
  | some σ' => setTs h ts xs σ'
  | none => none := rfl
@[simp] theorem a_cLM {g : OpM} : cLM g ea er σ h = (ea σ h).bind fun x h1 => if isLst x h1 = true then ((er σ h1).bind fun xs h2 => Res.of (g x xs h2)) else .stuck := rfl
@[simp] theorem add_int {i j : Int} : addF (.int i) (.int j) h = some (.int (i + j), h) := rfl
@[simp] theorem sub_int {i j : Int} : subF (.int i) (.int j) h = some (.int (i - j), h) := rfl
@[simp] theorem lt_int {i j : Int} : ltF (.int i) (.int j) h = some (.bl (decide (i < j)), h) := rfl
@[simp] theorem le_int {i j : Int} : leF (.int i) (.int j) h = some (.bl (decide (i ≤ j)), h) := rfl
@[simp] theorem gt_int {i j : Int} : gtF (.int i) (.int j) h = some (.bl (decide (j < i)), h) := rfl
@[simp] theorem ge_int {i j : Int} : geF (.int i) (.int j) h = some (.bl (decide (j ≤ i)), h) := rfl
theorem eq_int_ (i j : Int) : eqF (.int i) (.int j) h = some (.bl (i == j), h) := by
  show some (FV.bl (PyData.eqv (.int i) (.int j)), h) = _
  simp only [PyData.eqv]
@[simp] theorem eq_int (i j : Int) : eqF (.int i) (.int j) h = some (.bl (decide (i = j)), h) := by
  rw [eq_int_]
  by_cases q : i = j
  · rw [decide_eq_true q, beq_iff_eq.mpr q]
  · rw [decide_eq_false q, beq_eq_false_iff_ne.mpr q]
@[simp] theorem ne_int (i j : Int) : neF (.int i) (.int j) h = some (.bl (!decide (i = j)), h) := by
  have e : neF (.int i) (.int j) h = some (.bl (!PyData.eqv (.int i) (.int j)), h) := rfl
  have e2 := eq_int (h := h) i j
  have e3 : eqF (.int i) (.int j) h = some (.bl (PyData.eqv (.int i) (.int j)), h) := rfl
  rw [e3] at e2
  have e4 : PyData.eqv (.int i) (.int j) = decide (i = j) := by injection e2 with e2; injection e2 with e2; injection e2
  rw [e, e4]
theorem x_mul {i j : Int} (a : sm i = true) (b : sm j = true) : mulF (.int i) (.int j) h = some (.int (i * j), h) := by
  have e : mulF (.int i) (.int j) h = if (sm i && sm j) = true then some (.int (i * j), h) else none := rfl
  rw [e, a, b]; rfl
theorem x_mod {i j : Int} (a : j ≠ 0) : modF (.int i) (.int j) h = some (.int (i.fmod j), h) := if_pos a
theorem x_div {i j : Int} (a : j ≠ 0) (b : sm j = true) : divF (.int i) (.int j) h = some (.int (i.fdiv j), h) := if_pos ⟨a, b⟩
theorem sm_of {i : Int} {n : Nat} (a : i.natAbs ≤ n) (b : n ≤ 10 ^ 2000) : sm i = true := decide_eq_true (Nat.lt_of_le_of_lt (Nat.le_trans a b) (by unfold BIG; decide +kernel))
theorem sm_mul {i j : Int} {a b : Nat} (h1 : i.natAbs ≤ 10 ^ a) (h2 : j.natAbs ≤ 10 ^ b) (h3 : a + b ≤ 2000) : sm (i * j) = true := by
  refine sm_of (n := 10 ^ (a + b)) ?_ (Nat.pow_le_pow_right (by decide) h3)
  rw [Int.natAbs_mul, Nat.pow_add]
  exact Nat.mul_le_mul h1 h2
@[simp] theorem a_cNeg : cNeg ea σ h = (ea σ h).bind fun x h1 => match x with
  | .int i => .ok (.int (-i)) h1
  | _ => .stuck := rfl
@[simp] theorem abs_int {i : Int} : absF [.int i] h = some (.int i.natAbs, h) := by
  have e : absF [.int i] h = some (.int (if i < 0 then -i else i), h) := rfl
  rw [e]
  have : (if i < 0 then -i else i) = (i.natAbs : Int) := by split <;> omega
  rw [this]
@[simp] theorem int_int {i : Int} : intF [.int i] h = some (.int i, h) := rfl
theorem x_divmod {i j : Int} (a : 0 < j) (b : sm j = true) : divmodF [.int i, .int j] h = some (.tup [.int (i / j), .int (i % j)], h) := if_pos ⟨a, b⟩
@[simp] theorem a_cOr : cOr ea eb σ h = (ea σ h).bind fun x h1 => match x with
  | .bl b => if b = true then .ok (.bl true) h1 else eb σ h1
  | _ => .stuck := by
  show (ea σ h).bind _ = _
  congr
  funext x h1
  cases x with
  | bl b => cases b <;> rfl
  | _ => rfl
@[simp] theorem a_cAnd : cAnd ea eb σ h = (ea σ h).bind fun x h1 => match x with
  | .bl b => if b = true then eb σ h1 else .ok (.bl false) h1
  | _ => .stuck := by
  show (ea σ h).bind _ = _
  congr
  funext x h1
  cases x with
  | bl b => cases b <;> rfl
  | _ => rfl
@[simp] theorem a_cNot : cNot ea σ h = (ea σ h).bind fun x h1 => match x with
  | .bl b => .ok (.bl (!b)) h1
  | _ => .stuck := rfl
@[simp] theorem a_cChain : cChain g g' ea eb ec σ h = (ea σ h).bind fun x h1 => (eb σ h1).bind fun y h2 => (Res.of (g x y h2)).bind fun k h3 => match k with
  | .bl b => if b = true then (ec σ h3).bind fun z h4 => Res.of (g' y z h4) else .ok (.bl false) h3
  | _ => .stuck := by
  show (ea σ h).bind _ = _
  congr
  funext x h1
  congr
  funext y h2
  congr
  funext k h3
  cases k with
  | bl b => cases b <;> rfl
  | _ => rfl
@[simp] theorem in_int2 {x a b : Int} : inF (.int x) (.tup [.int a, .int b]) h = some (.bl (decide (x = a) || decide (x = b)), h) := by
  have e : inF (.int x) (.tup [.int a, .int b]) h = some (.bl ((PyData.eqv (.int a) (.int x)) || ((PyData.eqv (.int b) (.int x)) || false)), h) := rfl
  rw [e]
  simp only [PyData.eqv, Bool.or_false]
  have q : ∀ u v : Int, (u == v) = decide (v = u) := fun u v => by
    by_cases z : v = u
    · subst z; simp
    · rw [decide_eq_false z, beq_eq_false_iff_ne.mpr (fun y => z y.symm)]
  rw [q, q]
@[simp] theorem nin_int2 {x a b : Int} : ninF (.int x) (.tup [.int a, .int b]) h = some (.bl (!(decide (x = a) || decide (x = b))), h) := by
  have e : ninF (.int x) (.tup [.int a, .int b]) h = some (.bl (!((PyData.eqv (.int a) (.int x)) || ((PyData.eqv (.int b) (.int x)) || false))), h) := rfl
  rw [e]
  simp only [PyData.eqv, Bool.or_false]
  have q : ∀ u v : Int, (u == v) = decide (v = u) := fun u v => by
    by_cases z : v = u
    · subst z; simp
    · rw [decide_eq_false z, beq_eq_false_iff_ne.mpr (fun y => z y.symm)]
  rw [q, q]
@[simp] theorem in_int3 {x a b c : Int} : inF (.int x) (.tup [.int a, .int b, .int c]) h = some (.bl (decide (x = a) || (decide (x = b) || decide (x = c))), h) := by
  have e : inF (.int x) (.tup [.int a, .int b, .int c]) h = some (.bl ((PyData.eqv (.int a) (.int x)) || ((PyData.eqv (.int b) (.int x)) || ((PyData.eqv (.int c) (.int x)) || false))), h) := rfl
  rw [e]
  simp only [PyData.eqv, Bool.or_false]
  have q : ∀ u v : Int, (u == v) = decide (v = u) := fun u v => by
    by_cases z : v = u
    · subst z; simp
    · rw [decide_eq_false z, beq_eq_false_iff_ne.mpr (fun y => z y.symm)]
  rw [q, q, q]
@[simp] theorem small_ok {n : Nat} (a : n ≤ 1000) : small n = true := decide_eq_true (Nat.le_trans a (by decide +kernel))
def lm (i : Int) : Prop := i.natAbs ≤ 10 ^ 600
theorem lm.sm {i : Int} (a : lm i) : sm i = true := sm_of a (Nat.pow_le_pow_right (by decide) (by decide))
theorem lm_le {i : Int} {n : Nat} (a : i.natAbs ≤ n) (b : n ≤ 10 ^ 600) : lm i := Nat.le_trans a b
theorem cDef_rt {n : Nat} {ev : EvS} {xs : List FV} {h h' : FH} {v : FV} (e : ev (xs.map some ++ List.replicate (n - xs.length) none) h = .rt v h') : cDef n ev xs h = .ok v h' := by
  unfold cDef; rw [e]
end
end FX
set_option maxRecDepth 100000
set_option maxHeartbeats 4000000
namespace FX
open PySem PySem.Spec PyProof.Rows L2
/-! ### lists of the heap -/
section
variable {h : FH} {j : Nat} {σ : FSt}
theorem ix_lst {xs : List FV} {i : Int} {v : FV} (e : h[j]? = some (.lst xs)) (q : atI xs i = some v) : ixF (.ref j) (.int i) h = some (v, h) := by
  have e1 : seqF (.ref j) h = some xs := by unfold seqF; simp only [e]
  unfold ixF
  simp only [e1, q]
theorem ix_ro {xs : List FV} {i : Int} {v : FV} (e : h[j]? = some (.ro xs)) (q : atI xs i = some v) : ixF (.ref j) (.int i) h = some (v, h) := by
  have e1 : seqF (.ref j) h = some xs := by unfold seqF; simp only [e]
  unfold ixF
  simp only [e1, q]
theorem ix_tup {xs : List FV} {i : Int} {v : FV} (q : atI xs i = some v) : ixF (.tup xs) (.int i) h = some (v, h) := by
  have e1 : seqF (.tup xs) h = some xs := rfl
  unfold ixF
  simp only [e1, q]
theorem isLst_of {xs : List FV} (e : h[j]? = some (.lst xs)) : isLst (.ref j) h = true := by unfold isLst; simp only [e]
theorem len_lst {xs : List FV} (e : h[j]? = some (.lst xs)) : lenF [.ref j] h = some (.int xs.length, h) := by
  have e1 : seqF (.ref j) h = some xs := by unfold seqF; simp only [e]
  unfold lenF
  simp only [e1]
theorem len_ro {xs : List FV} (e : h[j]? = some (.ro xs)) : lenF [.ref j] h = some (.int xs.length, h) := by
  have e1 : seqF (.ref j) h = some xs := by unfold seqF; simp only [e]
  unfold lenF
  simp only [e1]
@[simp] theorem len_tup {xs : List FV} : lenF [.tup xs] h = some (.int xs.length, h) := rfl
@[simp] theorem a_sSetL {eo ei ev : EvE} : sSetL eo ei ev σ h = (ev σ h).toS σ fun v h1 => (eo σ h1).toS σ fun o h2 => (ei σ h2).toS σ fun i h3 => if isLst o h3 = true then (match setIxF o i v h3 with
  | some h4 => .nx σ h4
  | none => .stuck) else .stuck := rfl
@[simp] theorem a_sSetD {eo ei ev : EvE} : sSetD eo ei ev σ h = (ev σ h).toS σ fun v h1 => (eo σ h1).toS σ fun o h2 => (ei σ h2).toS σ fun i h3 => if isDic o h3 = true then (match setIxF o i v h3 with
  | some h4 => .nx σ h4
  | none => .stuck) else .stuck := rfl
/-! ### beside one place -/
def Bes (j : Nat) (h h' : FH) : Prop := h.length ≤ h'.length ∧ ∀ i, i ≠ j → i < h.length → h'[i]? = h[i]?
theorem Bes.refl : Bes j h h := ⟨Nat.le_refl _, fun _ _ _ => rfl⟩
theorem Bes.trans {h1 h2 : FH} (a : Bes j h h1) (b : Bes j h1 h2) : Bes j h h2 := ⟨Nat.le_trans a.1 b.1, fun i n l => (b.2 i n (Nat.lt_of_lt_of_le l a.1)).trans (a.2 i n l)⟩
theorem Bes.set {o : FO} : Bes j h (h.set j o) := ⟨by simp, fun i n _ => List.getElem?_set_ne (Ne.symm n)⟩
theorem Bes.app {l : FH} : Bes j h (h ++ l) := ⟨by simp, fun i _ q => List.getElem?_append_left q⟩
theorem Bes.at_ {h' : FH} (b : Bes j h h') {i : Nat} {o : FO} (n : i ≠ j) (e : h[i]? = some o) : h'[i]? = some o := (b.2 i n (List.getElem?_eq_some_iff.mp e).1).trans e
/-- all stays -/
def Grw (h h' : FH) : Prop := h.length ≤ h'.length ∧ ∀ i, i < h.length → h'[i]? = h[i]?
theorem Grw.refl : Grw h h := ⟨Nat.le_refl _, fun _ _ => rfl⟩
theorem Grw.trans {h1 h2 : FH} (a : Grw h h1) (b : Grw h1 h2) : Grw h h2 := ⟨Nat.le_trans a.1 b.1, fun i l => (b.2 i (Nat.lt_of_lt_of_le l a.1)).trans (a.2 i l)⟩
theorem Grw.app {l : FH} : Grw h (h ++ l) := ⟨by simp, fun i q => List.getElem?_append_left q⟩
theorem Grw.at_ {h' : FH} (b : Grw h h') {i : Nat} {o : FO} (e : h[i]? = some o) : h'[i]? = some o := (b.2 i (List.getElem?_eq_some_iff.mp e).1).trans e
theorem Grw.bes {h' : FH} (b : Grw h h') : Bes j h h' := ⟨b.1, fun i _ l => b.2 i l⟩
/-- what was made behind and written there -/
theorem Grw.behind {h' : FH} (b : Grw h h') {n : Nat} {o : FO} (l : h.length ≤ n) : Grw h (h'.set n o) := ⟨by simpa using b.1, fun i q => by rw [List.getElem?_set_ne (by omega)]; exact b.2 i q⟩
/-! ### the jar: digits, stirred, count -/
structure Jar (j n : Nat) (h : FH) : Prop where
  ex : ∃ d s c : Int, h[j]? = some (.lst [.int d, .int s, .int c]) ∧ 0 ≤ d ∧ d < 10 ^ 200 ∧ 0 ≤ s ∧ s < 2147483648 ∧ 0 ≤ c ∧ c ≤ n
theorem Jar.mono {n m : Nat} (J : Jar j n h) (l : n ≤ m) : Jar j m h := let ⟨d, s, c, e, a1, a2, a3, a4, a5, a6⟩ := J.ex; ⟨d, s, c, e, a1, a2, a3, a4, a5, by omega⟩
theorem Jar.grw {n : Nat} {h' : FH} (J : Jar j n h) (b : Grw h h') : Jar j n h' := let ⟨d, s, c, e, r⟩ := J.ex; ⟨d, s, c, b.at_ e, r⟩
theorem Jar.lt {n : Nat} (J : Jar j n h) : j < h.length := let ⟨_, _, _, e, _⟩ := J.ex; (List.getElem?_eq_some_iff.mp e).1
end
def jPoolE : EvS := (sSeq (sAsgT (.tp [(.nm 1), (.nm 2)]) (cTup (cCons (cC (.int 0)) (cCons (cC (.int 7)) cNil))))
    (sSeq (sFor (cRng1 (cCons (cCB lenF (cCons (cVar 0) cNil)) cNil)) (.nm 3) (sSeq (sAsg 4 (cIf (cTb (cBin geF (cBin ixF (cVar 0) (cVar 3)) (cC (.int 0)))) (cCB intF (cCons (cBin ixF (cVar 0) (cVar 3)) cNil)) (cCB intF (cCons (cBin subF (cNeg (cC (.int 1))) (cBin ixF (cVar 0) (cVar 3))) cNil))))
    (sSeq (sAsg 2 (cBin modF (cCB intF (cCons (cBin addF (cBin addF (cBin mulF (cVar 2) (cC (.int 48271))) (cBin modF (cVar 4) (cC (.int 2147483629)))) (cC (.int 11))) cNil)) (cC (.int 2147483647))))
    (sAsg 1 (cIf (cAndT (cTb (cBin geF (cVar 4) (cBin powF (cC (.int 10)) (cC (.int 12))))) (cTb (cBin ltF (cVar 1) (cBin powF (cC (.int 10)) (cC (.int 60)))))) (cCB intF (cCons (cBin addF (cBin mulF (cVar 1) (cBin powF (cC (.int 10)) (cC (.int 60)))) (cBin modF (cVar 4) (cBin powF (cC (.int 10)) (cC (.int 60))))) cNil)) (cVar 1))))))
    (sRet (cLst (cCons (cVar 1) (cCons (cVar 2) (cCons (cC (.int 0)) cNil)))))))
def jPool : Fn := cDef 5 jPoolE
def jTakeE : EvS := (sSeq (sIf (cTb (cBin gtF (cBin ixF (cVar 0) (cC (.int 0))) (cC (.int 0)))) (sSeq (sAsg 2 (cBin modF (cCB intF (cCons (cBin ixF (cVar 0) (cC (.int 0))) cNil)) (cVar 1)))
    (sSeq (sSetL (cVar 0) (cC (.int 0)) (cBin divF (cBin ixF (cVar 0) (cC (.int 0))) (cVar 1)))
    (sRet (cVar 2)))) sSkip)
    (sSeq (sSetL (cVar 0) (cC (.int 2)) (cBin addF (cBin ixF (cVar 0) (cC (.int 2))) (cC (.int 1))))
    (sSeq (sSetL (cVar 0) (cC (.int 1)) (cBin modF (cCB intF (cCons (cBin addF (cBin addF (cBin mulF (cBin ixF (cVar 0) (cC (.int 1))) (cC (.int 39373))) (cBin mulF (cC (.int 7919)) (cBin ixF (cVar 0) (cC (.int 2))))) (cC (.int 7))) cNil)) (cC (.int 2147483647))))
    (sRet (cBin modF (cCB intF (cCons (cBin divF (cBin modF (cCB intF (cCons (cBin mulF (cBin ixF (cVar 0) (cC (.int 1))) (cBin ixF (cVar 0) (cC (.int 1)))) cNil)) (cC (.int 2147483629))) (cC (.int 32))) cNil)) (cVar 1))))))
def jTake : Fn := cDef 3 jTakeE
def jOneE : EvS := (sRet (cBin ixF (cVar 1) (cCall 2 jTake (cCons (cVar 0) (cCons (cCB lenF (cCons (cVar 1) cNil)) cNil)))))
def jOne : Fn := cDef 2 jOneE

section
variable {h : FH} {j n : Nat}
theorem set3_0 {a b c v : FV} (e : h[j]? = some (.lst [a, b, c])) : setIxF (.ref j) (.int 0) v h = some (h.set j (.lst [v, b, c])) := by unfold setIxF; simp only [e]; rfl
theorem set3_1 {a b c v : FV} (e : h[j]? = some (.lst [a, b, c])) : setIxF (.ref j) (.int 1) v h = some (h.set j (.lst [a, v, c])) := by unfold setIxF; simp only [e]; rfl
theorem set3_2 {a b c v : FV} (e : h[j]? = some (.lst [a, b, c])) : setIxF (.ref j) (.int 2) v h = some (h.set j (.lst [a, b, v])) := by unfold setIxF; simp only [e]; rfl
theorem jTake_ok (J : Jar j n h) (hn : n < 10 ^ 12) {m : Int} (m0 : 0 < m) (ms : sm m = true) : ∃ (f : Int) (h' : FH), jTake [.ref j, .int m] h = .ok (.int f) h' ∧ 0 ≤ f ∧ f < m ∧ Jar j (n + 1) h' ∧ Bes j h h' := by
  obtain ⟨d, s, c, e, d0, d1, s0, s1, c0, c1⟩ := J.ex
  have mz : m ≠ 0 := by omega
  have lt := J.lt
  have i0 := ix_lst (i := 0) (v := .int d) e rfl
  have i1 := ix_lst (i := 1) (v := .int s) e rfl
  have i2 := ix_lst (i := 2) (v := .int c) e rfl
  by_cases q : 0 < d
  · refine ⟨d.fmod m, h.set j (.lst [.int (d.fdiv m), .int s, .int c]), ?_, Int.fmod_nonneg_of_pos d m0, Int.fmod_lt_of_pos d m0, ⟨_, _, _, List.getElem?_set_self lt, ?_, ?_, s0, s1, c0, by omega⟩, .set⟩
    · simp [jTake, jTakeE, cDef, i0, q, x_mod, x_div, mz, ms, isLst_of e, set3_0 e]
    · rw [Int.fdiv_eq_ediv_of_nonneg _ (by omega)]
      exact Int.ediv_nonneg d0 (by omega)
    · rw [Int.fdiv_eq_ediv_of_nonneg _ (by omega)]
      exact Int.lt_of_le_of_lt (Int.ediv_le_self _ d0) d1
  · have e2 : (h.set j (.lst [.int d, .int s, .int (c + 1)]))[j]? = some (.lst [.int d, .int s, .int (c + 1)]) := List.getElem?_set_self lt
    have e3 : ∀ z : Int, (h.set j (.lst [.int d, .int z, .int (c + 1)]))[j]? = some (.lst [.int d, .int z, .int (c + 1)]) := fun z => List.getElem?_set_self lt
    have k1 : ∀ z : Int, ixF (.ref j) (.int 1) (h.set j (.lst [.int d, .int z, .int (c + 1)])) = some (.int z, h.set j (.lst [.int d, .int z, .int (c + 1)])) := fun z => ix_lst (i := 1) (v := .int z) (e3 z) rfl
    have k2 := ix_lst (i := 2) (v := .int (c + 1)) (e3 s) rfl
    have t1 : sm s = true := sm_of (n := 2147483648) (by omega) (by decide +kernel)
    have t2 : sm (c + 1) = true := sm_of (n := 10 ^ 12 + 1) (by omega) (by decide +kernel)
    have t3 : sm 39373 = true := by decide +kernel
    have t4 : sm 7919 = true := by decide +kernel
    have t5 : sm 32 = true := by decide +kernel
    obtain ⟨s', hs'⟩ : ∃ s', s' = (s * 39373 + 7919 * (c + 1) + 7).fmod 2147483647 := ⟨_, rfl⟩
    have b1 : 0 ≤ s' := by rw [hs']; exact Int.fmod_nonneg_of_pos _ (by decide)
    have b2 : s' < 2147483647 := by rw [hs']; exact Int.fmod_lt_of_pos _ (by decide)
    have t6 : sm s' = true := sm_of (n := 2147483648) (by omega) (by decide +kernel)
    refine ⟨(((s' * s').fmod 2147483629).fdiv 32).fmod m, h.set j (.lst [.int d, .int s', .int (c + 1)]), ?_, Int.fmod_nonneg_of_pos _ m0, Int.fmod_lt_of_pos _ m0, ⟨_, _, _, e3 s', d0, d1, b1, by omega, by omega, by omega⟩, .set⟩
    simp [jTake, jTakeE, cDef, i0, i1, i2, q, x_mod, x_div, x_mul, mz, ms, isLst_of e, isLst_of e2, set3_2 e, set3_1 e2, k1, k2, t1, t2, t3, t4, t5, t6, ← hs']
theorem jOne_ok (J : Jar j n h) (hn : n < 10 ^ 12) {xs : List FV} {t : Nat} (e : h[t]? = some (.lst xs)) (nj : t ≠ j) (x0 : xs ≠ []) (xl : xs.length ≤ 1000) : ∃ (x : FV) (h' : FH), jOne [.ref j, .ref t] h = .ok x h' ∧ x ∈ xs ∧ Jar j (n + 1) h' ∧ Bes j h h' := by
  have l0 : 0 < xs.length := List.length_pos_iff.mpr x0
  obtain ⟨f, h', e1, f0, f1, J', B⟩ := jTake_ok J hn (m := xs.length) (by omega) (sm_of (n := 1000) (by omega) (by decide +kernel))
  have e2 := B.at_ nj e
  have hf : f.toNat < xs.length := by omega
  have at_ : atI xs f = some xs[f.toNat] := by
    unfold atI ixN
    rw [if_pos f0, if_pos f1]
    simp [hf]
  refine ⟨xs[f.toNat], h', ?_, List.getElem_mem hf, J', B⟩
  simp [jOne, jOneE, cDef, len_lst e, e1, ix_lst e2 at_]
end

/-! ### loops -/
theorem forG_loop {s : Src} {t : Tg} {b : EvS} {P : Nat → FSt → FH → Prop} {B : FSt → FH → Prop} {n : Nat} (done : ∀ σ h, P n σ h → nextI s n h = some none)
    (step : ∀ i σ h, i < n → P i σ h → ∃ (x : FV) (σ1 σ2 : FSt) (h2 : FH), nextI s i h = some (some x) ∧ setT h t x σ = some σ1 ∧ ((b σ1 h = .nx σ2 h2 ∧ P (i + 1) σ2 h2) ∨ (b σ1 h = .ct σ2 h2 ∧ P (i + 1) σ2 h2) ∨ (b σ1 h = .bk σ2 h2 ∧ B σ2 h2))) :
    ∀ (m i f : Nat) (σ : FSt) (h : FH), i + m = n → m < f → P i σ h → ∃ (σ' : FSt) (h' : FH), forG s t b f i σ h = .nx σ' h' ∧ (P n σ' h' ∨ B σ' h')
  | 0, i, f + 1, σ, h, e, _, p => by
    have e' : i = n := by omega
    subst e'
    exact ⟨σ, h, by unfold forG; rw [done σ h p], .inl p⟩
  | m + 1, i, f + 1, σ, h, e, l, p => by
    obtain ⟨x, σ1, σ2, h2, e1, e2, q⟩ := step i σ h (by omega) p
    unfold forG
    rw [e1]
    simp only [e2]
    rcases q with ⟨q, p2⟩ | ⟨q, p2⟩ | ⟨q, p2⟩
    · rw [q]
      exact forG_loop done step m (i + 1) f σ2 h2 (by omega) (by omega) p2
    · rw [q]
      exact forG_loop done step m (i + 1) f σ2 h2 (by omega) (by omega) p2
    · rw [q]
      exact ⟨σ2, h2, rfl, .inr p2⟩
theorem sFor_loop {ei : EvI} {s : Src} {t : Tg} {b : EvS} (P : Nat → FSt → FH → Prop) (B : FSt → FH → Prop) (n : Nat) {σ : FSt} {h h1 : FH} (e : ei σ h = .ok s h1) (el : lenI s h1 = n) (p0 : P 0 σ h1) (done : ∀ σ h, P n σ h → nextI s n h = some none)
    (step : ∀ i σ h, i < n → P i σ h → ∃ (x : FV) (σ1 σ2 : FSt) (h2 : FH), nextI s i h = some (some x) ∧ setT h t x σ = some σ1 ∧ ((b σ1 h = .nx σ2 h2 ∧ P (i + 1) σ2 h2) ∨ (b σ1 h = .ct σ2 h2 ∧ P (i + 1) σ2 h2) ∨ (b σ1 h = .bk σ2 h2 ∧ B σ2 h2))) :
    ∃ (σ' : FSt) (h' : FH), sFor ei t b σ h = .nx σ' h' ∧ (P n σ' h' ∨ B σ' h') := by
  unfold sFor
  rw [e, r_toS_ok, el]
  exact forG_loop done step n 0 (n + 1) σ h1 (by omega) (by omega) p0
theorem rng_some {lo : Int} {k i : Nat} {h : FH} (l : i < k) : nextI (.rng lo k) i h = some (some (.int (lo + i))) := by simp [nextI, l]
theorem rng_none {lo : Int} {k : Nat} {h : FH} : nextI (.rng lo k) k h = some none := by simp [nextI]
theorem bnd_of {i : Int} (a : -1000000 ≤ i) (b : i ≤ 1000000) : bnd i = true := decide_eq_true ⟨by omega, by omega⟩
theorem cRng1_int {er : EvA} {σ : FSt} {h h1 : FH} {j : Int} (e : er σ h = .ok [.int j] h1) (b0 : -1000000 ≤ j) (b : j ≤ 1000000) : cRng1 er σ h = .ok (.rng 0 j.toNat) h1 := by
  unfold cRng1
  rw [e]
  show (if bnd j = true then Res.ok (Src.rng 0 j.toNat) h1 else .stuck) = _
  rw [bnd_of b0 b]
  rfl
theorem cRng1_nat {er : EvA} {σ : FSt} {h h1 : FH} {n : Nat} (e : er σ h = .ok [.int n] h1) (b : n ≤ 1000000) : cRng1 er σ h = .ok (.rng 0 n) h1 := by
  rw [cRng1_int e (by omega) (by omega), Int.toNat_natCast]
theorem cRng2_int {er : EvA} {σ : FSt} {h h1 : FH} {i j : Int} (e : er σ h = .ok [.int i, .int j] h1) (a0 : -1000000 ≤ i) (a : i ≤ 1000000) (b0 : -1000000 ≤ j) (b : j ≤ 1000000) : cRng2 er σ h = .ok (.rng i (j - i).toNat) h1 := by
  unfold cRng2
  rw [e]
  show (if (bnd i && bnd j) = true then Res.ok (Src.rng i (j - i).toNat) h1 else .stuck) = _
  rw [bnd_of a0 a, bnd_of b0 b]
  rfl
theorem pow_int {i j : Int} {h : FH} (a : 0 ≤ j) (b : j ≤ 1000000) (c : i.natAbs < 2 ^ 64) : powF (.int i) (.int j) h = some (.int (i ^ j.toNat), h) := if_pos ⟨a, b, c⟩
theorem pow_ten {j : Int} {h : FH} (a : 0 ≤ j := by decide) (b : j ≤ 1000000 := by decide) : powF (.int 10) (.int j) h = some (.int (10 ^ j.toNat), h) := pow_int a b (by decide)
theorem atI_nat {α : Type} {xs : List α} {i : Nat} {x : α} (e : xs[i]? = some x) : atI xs (i : Int) = some x := by
  have l := (List.getElem?_eq_some_iff.mp e).1
  unfold atI ixN
  rw [if_pos (by omega), if_pos (by omega)]
  simp [e]
end FX
set_option maxRecDepth 100000
set_option maxHeartbeats 4000000
namespace FX
open PySem PySem.Spec PyProof.Rows L2
/-! ### the jar's making -/
def T60 : Int := 10 ^ 60
theorem sm_T60 : sm T60 = true := by decide +kernel
theorem T60_pos : 0 < T60 := by decide +kernel
theorem T60_ne : T60 ≠ 0 := by decide +kernel
theorem T60_sq : T60 * T60 < 10 ^ 200 := by decide +kernel
theorem pow60 {h : FH} : powF (.int 10) (.int 60) h = some (.int T60, h) := pow_int (by decide) (by decide) (by decide)
theorem pow12 {h : FH} : powF (.int 10) (.int 12) h = some (.int 1000000000000, h) := pow_int (by decide) (by decide) (by decide)
def pst1 : EvS := (sSeq (sAsg 2 (cBin modF (cCB intF (cCons (cBin addF (cBin addF (cBin mulF (cVar 2) (cC (.int 48271))) (cBin modF (cVar 4) (cC (.int 2147483629)))) (cC (.int 11))) cNil)) (cC (.int 2147483647))))
    (sAsg 1 (cIf (cAndT (cTb (cBin geF (cVar 4) (cBin powF (cC (.int 10)) (cC (.int 12))))) (cTb (cBin ltF (cVar 1) (cBin powF (cC (.int 10)) (cC (.int 60)))))) (cCB intF (cCons (cBin addF (cBin mulF (cVar 1) (cBin powF (cC (.int 10)) (cC (.int 60)))) (cBin modF (cVar 4) (cBin powF (cC (.int 10)) (cC (.int 60))))) cNil)) (cVar 1))))
def pst0 : EvS := sAsg 4 (cIf (cTb (cBin geF (cBin ixF (cVar 0) (cVar 3)) (cC (.int 0)))) (cCB intF (cCons (cBin ixF (cVar 0) (cVar 3)) cNil)) (cCB intF (cCons (cBin subF (cNeg (cC (.int 1))) (cBin ixF (cVar 0) (cVar 3))) cNil)))
theorem pst1_ok {d s c i : Int} {h : FH} {x : Option FV} (d0 : 0 ≤ d) (d1 : d < 10 ^ 200) (s0 : 0 ≤ s) (s1 : s < 2147483648) : pst1 [x, some (.int d), some (.int s), some (.int i), some (.int c)] h =
    .nx [x, some (.int (if 1000000000000 ≤ c ∧ d < T60 then d * T60 + c.fmod T60 else d)), some (.int ((s * 48271 + c.fmod 2147483629 + 11).fmod 2147483647)), some (.int i), some (.int c)] h := by
  have ts : sm s = true := sm_of (n := 2147483648) (by omega) (by decide +kernel)
  have t3 : sm 48271 = true := by decide +kernel
  by_cases q1 : 1000000000000 ≤ c
  · by_cases q2 : d < T60
    · have sd : sm d = true := sm_of (n := 10 ^ 200) (by omega) (by decide +kernel)
      simp [pst1, x_mul, x_mod, ts, t3, q1, q2, sd, sm_T60, T60_ne, pow60, pow12]
    · simp [pst1, x_mul, x_mod, ts, t3, q1, q2, pow60, pow12]
  · simp [pst1, x_mul, x_mod, ts, t3, q1, pow60, pow12]
theorem pst1_fin {d c : Int} (d0 : 0 ≤ d) (d1 : d < 10 ^ 200) : 0 ≤ (if 1000000000000 ≤ c ∧ d < T60 then d * T60 + c.fmod T60 else d) ∧ (if 1000000000000 ≤ c ∧ d < T60 then d * T60 + c.fmod T60 else d) < 10 ^ 200 := by
  have f0 := Int.fmod_nonneg_of_pos c T60_pos
  have f1 := Int.fmod_lt_of_pos c T60_pos
  have tp := T60_pos
  have tq := T60_sq
  split
  · rename_i z
    have m0 : 0 ≤ d * T60 := Int.mul_nonneg d0 (Int.le_of_lt tp)
    have m1 : d * T60 ≤ (T60 - 1) * T60 := Int.mul_le_mul_of_nonneg_right (by omega) (Int.le_of_lt tp)
    have m2 : (T60 - 1) * T60 = T60 * T60 - T60 := by rw [Int.sub_mul, Int.one_mul]
    exact ⟨by omega, by omega⟩
  · exact ⟨d0, d1⟩
theorem pst0_ok {ns : List Int} {i : Nat} (hi : i < ns.length) {a b c : Option FV} : pst0 [some (.ref 0), a, b, some (.int (0 + i)), c] [.ro (ns.map FV.int)] = .nx [some (.ref 0), a, b, some (.int (0 + i)), some (.int (if 0 ≤ ns[i] then ns[i] else -1 - ns[i]))] [.ro (ns.map FV.int)] := by
  have e0 : ([FO.ro (ns.map FV.int)] : FH)[0]? = some (.ro (ns.map FV.int)) := rfl
  have at1 := ix_ro (i := (i : Int)) e0 (atI_nat (x := FV.int ns[i]) (by simp [hi]))
  by_cases q : 0 ≤ ns[i] <;> simp [pst0, at1, q]
theorem jPool_ok {ns : List Int} (l : ns.length ≤ 63) : ∃ h', jPool [.ref 0] [.ro (ns.map FV.int)] = .ok (.ref 1) h' ∧ Jar 1 0 h' ∧ h'.length = 2 := by
  have e0 : ([FO.ro (ns.map FV.int)] : FH)[0]? = some (.ro (ns.map FV.int)) := rfl
  have loop := sFor_loop (ei := cRng1 (cCons (cCB lenF (cCons (cVar 0) cNil)) cNil)) (s := .rng 0 ns.length) (t := .nm 3) (b := sSeq pst0 pst1) (σ := [some (.ref 0), some (.int 0), some (.int 7), none, none]) (h := [.ro (ns.map FV.int)]) (h1 := [.ro (ns.map FV.int)])
    (fun _ σ h => h = [.ro (ns.map FV.int)] ∧ ∃ (d s : Int) (a b : Option FV), σ = [some (.ref 0), some (.int d), some (.int s), a, b] ∧ 0 ≤ d ∧ d < 10 ^ 200 ∧ 0 ≤ s ∧ s < 2147483648) (fun _ _ => False) ns.length
    (cRng1_nat (by simp [len_ro e0]) (by omega)) rfl ⟨rfl, 0, 7, none, none, rfl, by decide, by decide +kernel, by decide, by decide⟩ (fun _ _ _ => rng_none) ?_
  · obtain ⟨σ', h', e1, (⟨rfl, d, s, a, b, rfl, d0, d1, s0, s1⟩ | f)⟩ := loop
    · refine ⟨[.ro (ns.map FV.int), .lst [.int d, .int s, .int 0]], ?_, ⟨d, s, 0, rfl, d0, d1, s0, s1, by decide, by decide⟩, rfl⟩
      refine cDef_rt (ev := jPoolE) ?_
      show (sSeq (sAsgT (.tp [(.nm 1), (.nm 2)]) (cTup (cCons (cC (.int 0)) (cCons (cC (.int 7)) cNil)))) (sSeq (sFor (cRng1 (cCons (cCB lenF (cCons (cVar 0) cNil)) cNil)) (.nm 3) (sSeq pst0 pst1)) (sRet (cLst (cCons (cVar 1) (cCons (cVar 2) (cCons (cC (.int 0)) cNil))))))) [some (.ref 0), none, none, none, none] [.ro (ns.map FV.int)] = _
      rw [a_sSeq, show sAsgT (.tp [(.nm 1), (.nm 2)]) (cTup (cCons (cC (.int 0)) (cCons (cC (.int 7)) cNil))) [some (.ref 0), none, none, none, none] [.ro (ns.map FV.int)] = .nx [some (.ref 0), some (.int 0), some (.int 7), none, none] [.ro (ns.map FV.int)] from by simp, then_nx, a_sSeq, e1, then_nx]
      simp
    · exact f.elim
  · rintro i σ h hi ⟨rfl, d, s, a, b, rfl, d0, d1, s0, s1⟩
    obtain ⟨c, hc⟩ : ∃ c : Int, c = if 0 ≤ ns[i] then ns[i] else -1 - ns[i] := ⟨_, rfl⟩
    have q := pst1_fin (c := c) d0 d1
    have z0 : 0 ≤ (s * 48271 + c.fmod 2147483629 + 11).fmod 2147483647 := Int.fmod_nonneg_of_pos _ (by decide)
    have z1 : (s * 48271 + c.fmod 2147483629 + 11).fmod 2147483647 < 2147483647 := Int.fmod_lt_of_pos _ (by decide)
    refine ⟨.int (0 + i), [some (.ref 0), some (.int d), some (.int s), some (.int (0 + i)), b], [some (.ref 0), some (.int (if 1000000000000 ≤ c ∧ d < T60 then d * T60 + c.fmod T60 else d)), some (.int ((s * 48271 + c.fmod 2147483629 + 11).fmod 2147483647)), some (.int (0 + i)), some (.int c)], _, rng_some hi, rfl, .inl ⟨?_, rfl, _, _, _, _, rfl, q.1, q.2, z0, by omega⟩⟩
    rw [a_sSeq, pst0_ok hi, then_nx, pst1_ok d0 d1 s0 s1, hc]
end FX
set_option maxRecDepth 100000
set_option maxHeartbeats 4000000
namespace FX
open PySem PySem.Spec PyProof.Rows L2
/-! ### the text of a pair of numbers -/
theorem strOk_str (s : String) : PyData.strOk (Str.ofString s) = true := by
  rw [Str.ofString_eq_toList]
  unfold PyData.strOk
  rw [Array.all_eq_true']
  intro c hc
  have hc' : c ∈ s.toList.map Char.toNat := by simpa using hc
  obtain ⟨u, _, rfl⟩ := List.mem_map.mp hc'
  have := u.valid
  simp only [decide_eq_true_eq]
  unfold Char.toNat
  rcases this with q | ⟨_, q⟩ <;> omega
theorem strOk_app {a b : Str} (ha : PyData.strOk a = true) (hb : PyData.strOk b = true) : PyData.strOk (a ++ b) = true := by
  unfold PyData.strOk at *
  rw [Str.cps_append, Array.all_append, ha, hb]
  rfl
theorem len_str (s : String) : (Str.ofString s).length = s.length := by
  rw [Str.ofString_eq_toList]
  show (s.toList.map Char.toNat).toArray.size = s.length
  rw [List.size_toArray, List.length_map]
  exact String.length_toList
theorem repr_pair {a b : Int} (ha : a.natAbs.log2 < 1920) (hb : b.natAbs.log2 < 1920) : ∃ S : Str, PyData.strOk S = true ∧ ∀ h : FH, reprF [.tup [.int a, .int b]] h = some (.str S, h) := by
  have la := int_text_length_le (k := 1920) (by decide) ha
  have lb := int_text_length_le (k := 1920) (by decide) hb
  have e : (PyData.tuple [.int a, .int b]).shown = ("(" : Str) ++ (Str.ofString (toString a) ++ (", " : Str) ++ Str.ofString (toString b)) ++ (")" : Str) := by
    simp only [PyData.shown, PyData.shownAll]
    rfl
  refine ⟨(PyData.tuple [.int a, .int b]).shown, ?_, fun h => ?_⟩
  · rw [e]
    exact strOk_app (strOk_app (strOk_str _) (strOk_app (strOk_app (strOk_str _) (strOk_str _)) (strOk_str _))) (strOk_str _)
  · have d : datF h DEEP (.tup [.int a, .int b]) = some (.tuple [.int a, .int b]) := rfl
    have s : (PyData.tuple [.int a, .int b]).showable = true := by
      simp only [PyData.showable, PyData.showableAll, ha, hb]
      rfl
    have l : (PyData.tuple [.int a, .int b]).shown.length ≤ sizeLine := by
      rw [e]
      simp only [Str.length_append, len_str]
      have l1 : "(".length = 1 := rfl
      have l2 : ", ".length = 2 := rfl
      have l3 : ")".length = 1 := rfl
      have : sizeLine = 16777216 := by decide +kernel
      omega
    unfold reprF
    simp only [d]
    rw [if_pos ⟨s, l⟩]
theorem ne_same {S : Str} (a : PyData.strOk S = true) (h : FH) : neF (.str S) (.str S) h = some (.bl false, h) := by
  have e : datF h DEEP (.str S) = some (.str S) := (if_pos a : (if PyData.strOk S = true then some (PyData.str S) else none) = some (.str S))
  unfold neF
  rw [e]
  show some (FV.bl (!PyData.eqv (.str S) (.str S)), h) = _
  simp [PyData.eqv]
end FX
set_option maxRecDepth 100000
set_option maxHeartbeats 4000000
namespace FX
open PySem PySem.Spec PyProof.Rows L2
variable [LamT]
/-! ### an own exception, made where nothing is handled: its context is None -/
section
variable {X : Cx} {e : Expr} {es : List Expr} {ta : TA} {pos p : Pos}
theorem mk_own {CX : CXT} {x : Str} {C fI : Addr} {k : Nat} {fd : FuncData} {ps : List Str} {sp : Sp} (T : OexC X.K C) (i1 : PySem.W.findIn X.K (.ref C) "__init__" = some (some (.ref fI))) (i2 : PySem.W.typeIn X.K (.ref fI) = some (.type "function"))
    (F1 : FnOk X.prog X.w X.K X.mg X.base CX k fI fd ps sp) (hr : Room (k + 1) X.A) (hb : Binds X.K fd ps []) (hx : Passes CX X (fun _ _ _ => False)) (hg : Gl X x) (hm : X.mg x = some (.ref C)) (ha : PA X (e :: es) ta) (hdb : (x == ("__debug__" : Str)) = false := by decide)
    (he : starEach (e :: es) X.env = (false, eval e X.env) :: starEach es X.env := by rfl) (hpl : (backTo pos (starEach es X.env)).any (·.1) = false := by rfl) : L2N.PMk X (.Call (.Name x p) (e :: es) [] pos) (tMkO C sp [] ta) := by
  intro pins s0 σ H Q I0 h0
  obtain ⟨nm, q, N, bs, bm, sn, sub, ab, col, dd, k0, k1, k2, k3, k5, atC, mro⟩ := T.cls
  refine wpAny_Call_Name_kw (ld_glob I0 hg hm ?_ hdb)
  refine PySem.W.callWith_K (h₀ := X.base) I0.ok.mod.kin T.kC (thn (ha.run pos pins s0 σ H _ I0 h0) fun us s1 ⟨vs, H1, I1, r1, hz, q1⟩ => ⟨I1.kIn, ?_⟩) he hpl
  show wpAny _ _ (call (.ref C) us) _ _ _
  obtain ⟨hp, gg, dr, tk, os⟩ := s1
  obtain ⟨a, ea⟩ : ∃ a, a = hp.objs.size + 1 := ⟨_, rfl⟩
  have le1 : hp.objs.size ≤ a := by omega
  have fr : H1 a = none := I1.hok.fresh le1
  have hq := q1 a fr
  have stay : ∀ b o, hp.get? b = some o → ((hp.push (PySem.W.kdv_tup us)).push (PySem.HandSPX.excO C hp.objs.size)).get? b = some o := fun b o z => Heap.get?_push_of_some _ (Heap.get?_push_of_some _ z)
  have here : ((hp.push (PySem.W.kdv_tup us)).push (PySem.HandSPX.excO C hp.objs.size)).get? a = some (PySem.HandSPX.excO C hp.objs.size) := by rw [ea]; heap_get
  have I2 : Inv X pins σ (upd H1 a (exo a C none)) ⟨(hp.push (PySem.W.kdv_tup us)).push (PySem.HandSPX.excO C hp.objs.size), gg, dr, tk, os⟩ :=
    I1.laid (t' := tk) (a := a) (o := exo a C none) (h' := (hp.push (PySem.W.kdv_tup us)).push (PySem.HandSPX.excO C hp.objs.size)) stay le1 (exo_ok here)
  have r2 : Vals (V.ref a :: (vs ++ [])) (Value.ref a :: (us ++ [])) := .cons rfl (r1.append .nil)
  have len2 : (Value.ref a :: us ++ []).length = ps.length := by
    have z := r2.length
    rw [F1.len _ _ _ _ hq] at z
    exact z.symm
  have few : us.length ≤ sizeLine := by
    rw [← Paired.length r1, sizeLine_eq]
    omega
  subst ea
  refine wpAny_call (PySem.HandSPX.call_own F.excBase_ValueError (fun Y => PySem.HandSPX.refsVE_contains Y bm mro) (I1.kIn _ _ atC) (PySem.W.looks_findIn I1.kIn i1) (fun self => PySem.W.bind_fn I1.kIn self i2) few
    (codeAny_mono (F1.run _ X.stack _ _ ⟨Value.ref (hp.objs.size + 1) :: us, []⟩ (Value.ref (hp.objs.size + 1) :: us ++ []) _ _ (fun _ _ _ => False) (hr.make C us []) (I2.env0.make C us []) (hb _ (Value.ref (hp.objs.size + 1) :: us) I2.kIn len2) r2 hq) fun res s' z => ?_))
  match res, z with
  | .error er, z => exact hx pins σ _ _ er s' I2 z
  | .ok (.ret u), z =>
    obtain ⟨v, H2, os2, bare2, un2, hok2, rv, ev, d, fs, xa, xd, hd1, q2⟩ := z
    subst ev
    obtain ⟨h2, g2, d2, t2, os'⟩ := s'
    obtain ⟨t0, G, J, kG, ge, hoe, na⟩ := mk_end0 (d2 := d2) (t2 := t2) I1 le1 stay un2 hok2 os2 bare2 xa xd hd1
    exact ⟨rv, hp.objs.size + 1, _, _, ⟨G, g2, d2, t2, os'⟩, _, .ref C, some d, rfl, J, kG, ge, hoe, ⟨rfl, rfl, fun ws y => by cases y; rfl⟩, rfl, rfl, na, rfl, bare2, raises_own T.exC T.tyC, q2⟩
end
/-! ### an own exception class: its __init__ keeps its arguments as fields -/
def spX (C : Addr) (fl : List Str) : Sp := fun vs H Q _ => ∃ (a : Addr) (ys : List V), vs = .ref a :: ys ∧ ys.length = fl.length ∧ H a = some (exo a C none) ∧ ∀ dx, H dx = none → dx ≠ a → Q .non (upd (upd H dx (exd dx (fl.zip ys).reverse)) a (exo a C (some dx)))
structure XCl (P : Program) (w : World) (K : PySem.W.Frag) (mg : Str → Option Value) (base : Heap) (k : Nat) (x : Str) (c : Nat) (fl : List Str) : Prop where
  at_ : mg x = some (.ref (xA K c))
  own : OexC K (xA K c)
  ex : ∃ (fI : Addr) (fd : FuncData) (ps : List Str), ps.length = fl.length + 1 ∧ PySem.W.findIn K (.ref (xA K c)) "__init__" = some (some (.ref fI)) ∧ PySem.W.typeIn K (.ref fI) = some (.type "function") ∧ FnOk P w K mg base (L2.CX P w) k fI fd ps (spX (xA K c) fl) ∧ Binds K fd ps []
def sRaise (c : Nat) (fl : List Str) (er : EvA) : EvS := fun σ h => (er σ h).toS σ fun xs h1 => if xs.length = fl.length ∧ xs.length ≤ 900 then .ex c (fl.zip xs).reverse σ h1 else .stuck
theorem rk_zip {K : PySem.W.Frag} {ρ : List Addr} {H : Hp} : ∀ {fl : List Str} {xs : List FV} {ys : List V}, RVs K ρ H xs ys → RK K ρ H (fl.zip xs) (fl.zip ys)
  | [], _, _, _ => by simp; exact .nil
  | _ :: _, [], [], .nil => .nil
  | f :: fl, _ :: _, _ :: _, .cons a b => .cons a (rk_zip b)
theorem rk_app {K : PySem.W.Frag} {ρ : List Addr} {H : Hp} {κ : Type} : ∀ {xs : List (κ × FV)} {vs : List (κ × V)} {xs' : List (κ × FV)} {vs' : List (κ × V)}, RK K ρ H xs vs → RK K ρ H xs' vs' → RK K ρ H (xs ++ xs') (vs ++ vs')
  | _, _, _, _, .nil, b => b
  | _, _, _, _, .cons a c, b => .cons a (rk_app c b)
theorem rk_rev {K : PySem.W.Frag} {ρ : List Addr} {H : Hp} {κ : Type} : ∀ {xs : List (κ × FV)} {vs : List (κ × V)}, RK K ρ H xs vs → RK K ρ H xs.reverse vs.reverse
  | _, _, .nil => .nil
  | _, _, .cons a b => by
    rw [List.reverse_cons, List.reverse_cons]
    exact rk_app (rk_rev b) (.cons a .nil)
section
variable {X : Cx} {W : Wsh} {e : Expr} {es : List Expr} {er : EvA} {pos p p2 : Pos} {x : Str} {k c : Nat} {fl : List Str}
theorem fs_raise (T : XCl X.prog X.w X.K X.mg X.base k x c fl) (hc : X.calm = true) (hr : Room (k + 1) X.A) (tk : L2N.Takes X W.w) (ha : FA X W (e :: es) er) (hg : Gl X x := by rfl) (hdb : (x == ("__debug__" : Str)) = false := by decide)
    (he : starEach (e :: es) X.env = (false, eval e X.env) :: starEach es X.env := by rfl) (hpl : (backTo p2 (starEach es X.env)).any (·.1) = false := by rfl) : FS X W (.Raise (some (.Call (.Name x p) (e :: es) [] p2)) none pos) (sRaise c fl er) := by
  obtain ⟨fI, fd, ps, hl, h1, h2, F, b⟩ := T.ex
  refine ps_imp (L2N.ps_raise hc tk (mk_own T.own h1 h2 F hr b (fun _ _ _ _ e s' _ cx => ?_) hg T.at_ ha hdb he hpl)) fun D σ H ⟨ρ, σf, h, rs, rh, pp⟩ => ?_
  · obtain ⟨_, _, _, _, _, _, _, _, _, _, _, _, z⟩ := cx
    exact z.elim
  · obtain ⟨C, eC⟩ : ∃ C, C = xA X.K c := ⟨_, rfl⟩
    refine coreS rs rh pp fun ρ1 H1 h1 xs ys e1 rs1 rh1 r1 p1 => ?_
    by_cases z : xs.length = fl.length ∧ xs.length ≤ 900
    · rw [if_pos z] at p1
      refine ⟨by rw [← r1.len]; exact Nat.le_trans z.2 (by decide), fun a na => ⟨a, ys, by rw [List.append_nil], by rw [← r1.len]; exact z.1, upd_same, fun dx nd ne => ⟨rfl, dx, (fl.zip ys).reverse, upd_same, ?_, ?_, ?_⟩⟩⟩
      · rw [upd_ne ne, upd_same]
      · rw [upd_ne ne] at nd
        exact nd
      · rw [upd_ne ne] at nd
        have eH : upd (del (upd (upd (upd H1 a (exo a (xA X.K c) none)) dx (exd dx (fl.zip ys).reverse)) a (exo a (xA X.K c) (some dx))) a) dx (.xd (fl.zip ys).reverse) = upd H1 dx (.xd (fl.zip ys).reverse) := by
          funext c
          by_cases c1 : c = dx
          · rw [c1, upd_same, upd_same]
          · rw [upd_ne c1, upd_ne c1]
            by_cases c2 : c = a
            · rw [c2, del_same, na]
            · rw [del_ne c2, upd_ne c2, upd_ne c1, upd_ne c2]
        rw [eH]
        have ev : Ev X.K ρ1 H1 ρ1 (upd H1 dx (.xd (fl.zip ys).reverse)) := .beside nd
        exact p1 ρ1 _ σ (some dx) ev (rs1.ev ev) (rh1.beside nd ev) ⟨_, upd_same, (rk_rev (rk_zip r1)).ev ev⟩
    · rw [if_neg z] at p1
      exact p1.elim
end
/-! ### what such an __init__ does -/
def tBI (K : PySem.W.Frag) (m : Str) : TS := tDrop (tVeI K (tCons (tVar 0) (tCons (tC (.str m)) tNil)))
theorem init_one {K : PySem.W.Frag} {C a : Addr} {m f : Str} {y : V} {N : List Str} {D : Ends} {H : Hp} (T : OexC K C) (n1 : PySem.W.findIn K (.ref C) f = some none) (hN : N.length = 2) (ha : H a = some (exo a C none)) (hq : ∀ dx, H dx = none → dx ≠ a → D.nx (start N [.ref a, y]) (upd (upd H dx (exd dx [(f, y)])) a (exo a C (some dx)))) :
    tSeq (tBI K m) (tOst K f (tVar 0) (tVar 1)) D (start N [.ref a, y]) H :=
  ⟨_, rfl, a, C, _, rfl, by simp, T, ha, _, rfl, _, rfl, a, C, rfl, T, n1, .inl ⟨ha, hq⟩⟩
theorem init_two {K : PySem.W.Frag} {C a : Addr} {m f g : Str} {y z : V} {N : List Str} {D : Ends} {H : Hp} (T : OexC K C) (n1 : PySem.W.findIn K (.ref C) f = some none) (n2 : PySem.W.findIn K (.ref C) g = some none) (hN : N.length = 3) (ha : H a = some (exo a C none))
    (hq : ∀ dx, H dx = none → dx ≠ a → D.nx (start N [.ref a, y, z]) (upd (upd H dx (exd dx [(g, z), (f, y)])) a (exo a C (some dx)))) : tSeq (tBI K m) (tSeq (tOst K f (tVar 0) (tVar 1)) (tOst K g (tVar 0) (tVar 2))) D (start N [.ref a, y, z]) H := by
  refine ⟨_, rfl, a, C, _, rfl, by simp, T, ha, _, rfl, _, rfl, a, C, rfl, T, n1, .inl ⟨ha, fun dx nd ne => ?_⟩⟩
  refine ⟨_, rfl, _, rfl, a, C, rfl, T, n2, .inr ⟨dx, [(f, y)], upd_same, by rw [upd_ne ne, upd_same], by simp, ?_⟩⟩
  have e : upd (upd (upd H dx (exd dx [(f, y)])) a (exo a C (some dx))) dx (exd dx [(g, z), (f, y)]) = upd (upd H dx (exd dx [(g, z), (f, y)])) a (exo a C (some dx)) := by
    funext c
    by_cases c1 : c = dx
    · rw [c1, upd_same, upd_ne ne, upd_same]
    · by_cases c2 : c = a
      · rw [c2, upd_ne ne.symm, upd_same, upd_same]
      · rw [upd_ne c1, upd_ne c2, upd_ne c1, upd_ne c2, upd_ne c1]
  rw [e]
  exact hq dx nd ne
end FX
set_option maxRecDepth 100000
set_option maxHeartbeats 4000000
namespace FX
open PySem PySem.Spec PySem.Calls PyProof.Rows L2
/-! ### a loop over values, each turn told -/
def turns {α β : Type} (r : α → β → ForInStep β) : List α → β → β
  | [], b => b
  | c :: l, b => match r c b with
    | .done b' => b'
    | .yield b' => turns r l b'
theorem forIn_turns {M : Model} {A : Around} {E : Value → Shared → Prop} {s : Shared} {α β : Type} {f : α → β → Sem (ForInStep β)} {r : α → β → ForInStep β} : ∀ {l : List α} {b : β} {Q : β → Shared → Prop}, (∀ c ∈ l, ∀ (st : β) (R : ForInStep β → Shared → Prop), R (r c st) s → wpAny M A (f c st) R E s) → Q (turns r l b) s → wpAny M A (forIn l b f) Q E s
  | [], b, Q, _, q => by
    rw [List.forIn_nil]
    exact wpAny_pure q
  | c :: l, b, Q, h, q => by
    rw [List.forIn_cons]
    refine wpAny_bind (h c List.mem_cons_self b _ ?_)
    unfold turns at q
    cases e : r c b with
    | done b' => rw [e] at q; exact wpAny_pure q
    | yield b' =>
      rw [e] at q
      exact forIn_turns (fun d hd => h d (List.mem_cons_of_mem _ hd)) q
/-! ### except (A, B, ..): a tuple of classes of any length -/
theorem exm_each {K : PySem.W.Frag} {cls : Value} : ∀ {cs : List Value} {b : Bool}, PySem.W.exmAny K cls cs = some b → ∃ v : Value → Bool, (∀ c ∈ cs, PySem.W.exmOne K cls c = some (v c)) ∧ b = cs.any v
  | [], b, h => ⟨fun _ => false, ⟨fun c hc => absurd hc (by simp), (Option.some.inj h).symm⟩⟩
  | c :: cs, b, h => by
    obtain ⟨b1, d1, h1, h2, e⟩ := PySem.W.exmAny_cons h
    obtain ⟨v, h3, h4⟩ := exm_each h2
    refine ⟨fun u => (PySem.W.exmOne K cls u).getD false, fun u hu => ?_, ?_⟩
    · show PySem.W.exmOne K cls u = some ((PySem.W.exmOne K cls u).getD false)
      rcases List.mem_cons.mp hu with rfl | hu
      · rw [h1]; rfl
      · rw [h3 u hu]; rfl
    · rw [e, List.any_cons, h1, h4]
      congr 1
      have same : ∀ l : List Value, (∀ u ∈ l, PySem.W.exmOne K cls u = some (v u)) → l.any v = l.any fun u => (PySem.W.exmOne K cls u).getD false := fun l hl => by
        induction l with
        | nil => rfl
        | cons u us ih =>
          rw [List.any_cons, List.any_cons, hl u List.mem_cons_self, ih fun z hz => hl z (List.mem_cons_of_mem _ hz)]
          rfl
      exact same cs h3
theorem exm_all {M : Model} {K : PySem.W.Frag} {cls : Value} {tp e : Addr} {h : Heap} {cs : List Value} {b : Bool} (X : K.In h) (LT : PySem.W.Looks M h (typeOf (.ref e)) cls) (hp : h.get? tp = some { cls := .type "tuple", data := .seq cs.toArray }) (hx : PySem.W.exmAny K cls cs = some b) :
    PySem.W.Looks M h (excMatches (.ref e) (.ref tp)) b := by
  intro A Q E s kept q
  have isT : PySem.W.Looks M h (isInstance (.ref tp) (.type "tuple")) true := ((PySem.W.Looks.ld hp).andThen .now).andThen (PySem.W.Looks.of_pure isSubtype_tuple_tuple)
  have at_ := kept _ _ hp
  have LT' := LT.keeps kept
  have k2 := isT.keeps kept
  obtain ⟨v, hv, hb⟩ := exm_each hx
  have L1 := fun c hc => (PySem.W.exm_cls (M := M) X (hv c hc)).1.keeps kept
  have L2 := fun c hc => (PySem.W.exm_cls (M := M) X (hv c hc)).2.keeps kept
  unfold excMatches
  refine wpAny_bind (k2.here ?_)
  dsimp only
  rw [if_pos rfl]
  first
    | refine wpAny_bind (wpAny_seqItems at_ rfl ?_)
    | refine wpAny_bind (wpAny_bind (wpAny_seqItems at_ rfl (wpAny_pure ?_)))
  dsimp only [Option.getD_some, Option.getD]
  refine wpAny_bind (wpAny_pure (wpAny_bind (forIn_turns (r := fun _ _ => .yield PUnit.unit) (fun c hc st R r => ?_) ?_)))
  · refine wpAny_bind ((L1 c hc).here ?_)
    rw [if_neg (by simp)]
    exact wpAny_pure r
  · refine wpAny_bind (LT'.here (wpAny_bind (forIn_turns (r := fun c _ => if v c = true then .done (some true, ()) else .yield (none, ())) (fun c hc st R r => ?_) ?_)))
    · refine wpAny_bind ((L2 c hc).here ?_)
      cases e : v c with
      | true => rw [e] at r; exact wpAny_pure r
      | false => rw [e] at r; exact wpAny_pure r
    · have key : ∀ l : List Value, turns (fun (c : Value) (_ : Option Bool × Unit) => if v c = true then ForInStep.done (some true, ()) else .yield (none, ())) l (none, ()) = (if l.any v = true then (some true, ()) else (none, ())) := by
        intro l
        induction l with
        | nil => rfl
        | cons c l ih =>
          unfold turns
          cases e : v c with
          | true => simp [e]
          | false => simp [e, ih]
      rw [key, ← hb]
      cases b with
      | true => exact wpAny_pure q
      | false => exact wpAny_pure q
end FX
set_option maxRecDepth 100000
set_option maxHeartbeats 4000000
namespace FX
open PySem PySem.Spec PySem.Calls PyProof.Rows L2
variable [LamT]
/-! ### what is told of the classes that may fly -/
structure XFs (K : PySem.W.Frag) (L : List Nat) : Prop where
  ma : ∀ c ∈ L, ∀ m ∈ L, PySem.W.exmOne K (.ref (xA K c)) (.ref (xA K m)) = some (decide (c = m))
/-! ### a clause's test: does it name the class? -/
structure TstF (X : Cx) (L : List Nat) (t : Expr) (cs : List Nat) : Prop where
  run : ∀ (a : Addr) (pn : List (Addr × Obj)) (σ : L2.St) (H : Hp) (s : Shared) (c : Nat) (oe : Obj) (E : Value → Shared → Prop) (Q : Bool → Shared → Prop), Inv (X.suite a pn) [] σ H s → s.heap.get? a = some oe → oe.cls = .ref (xA X.K c) → c ∈ L →
    (∀ h' : Heap, (∀ b o, s.heap.get? b = some o → h'.get? b = some o) → Q (cs.contains c) { s with heap := h' }) →
    wpAny (model X.prog X.w) (X.A.mark (some (.ref a))) (eval t X.env) (fun cv s1 => wpAny (model X.prog X.w) (X.A.mark (some (.ref a))) (excMatches (.ref a) cv) Q E s1) E s
theorem looks_cls {M : Model} {h : Heap} {a : Addr} {oe : Obj} {cv : Value} (ha : h.get? a = some oe) (hc : oe.cls = cv) : PySem.W.Looks M h (typeOf (.ref a)) cv := fun A Q E s k q => wpAny_typeOf_ref (k _ _ ha) (by rw [hc]; exact q)
section
variable {X : Cx} {L : List Nat} {np pos : Pos} {x : Str} {m : Nat}
theorem tst_nm (F : XFs X.K L) (hx : X.mg x = some (.ref (xA X.K m))) (hm : m ∈ L) (hg : Gl X x := by rfl) (hd : (x == ("__debug__" : Str)) = false := by decide) : TstF X L (.Name x np) [m] := by
  refine ⟨fun a pn σ H s c oe E Q I ha hc hL q => ?_⟩
  have LM := PySem.W.exm_one (M := model X.prog X.w) I.kIn (looks_cls ha hc) (F.ma c hL m hm)
  refine ld_glob (X := X.suite a pn) I hg hx (LM.here ?_) hd
  have e : decide (c = m) = [m].contains c := by
    rw [List.contains_cons]
    by_cases z : c = m <;> simp [z]
  rw [e]
  exact q s.heap fun _ _ z => z
/-- names of classes, one behind another -/
inductive Nms (X : Cx) (L : List Nat) : List Expr → List Nat → Prop
  | nil : Nms X L [] []
  | cons {x : Str} {m : Nat} {np : Pos} {es : List Expr} {ms : List Nat} (hx : X.mg x = some (.ref (xA X.K m))) (hm : m ∈ L) (r : Nms X L es ms) (hg : Gl X x := by rfl) (hd : (x == ("__debug__" : Str)) = false := by decide)
      (he : starEach (.Name x np :: es) X.env = (false, eval (.Name x np) X.env) :: starEach es X.env := by rfl) : Nms X L (.Name x np :: es) (m :: ms)
theorem Nms.run {es : List Expr} {ms : List Nat} (h : Nms X L es ms) {a : Addr} {pn : List (Addr × Obj)} {σ : L2.St} {H : Hp} {s : Shared} (I : Inv (X.suite a pn) [] σ H s) : ∀ {E : Value → Shared → Prop} {Q : List Value → Shared → Prop}, Q (ms.map fun m => Value.ref (xA X.K m)) s →
    wpAny (model X.prog X.w) (X.A.mark (some (.ref a))) (spliced (backTo pos (starEach es X.env))) Q E s := by
  induction h with
  | nil => exact fun q => spliced_nil q
  | cons hx hm r hg hd he ih =>
    intro E Q q
    rw [he]
    exact spliced_cons (ld_glob (X := X.suite a pn) I hg hx (ih q) hd)
theorem Nms.in_ {es : List Expr} {ms : List Nat} (h : Nms X L es ms) : ∀ m ∈ ms, m ∈ L := by
  induction h with
  | nil => exact fun m hm => by cases hm
  | cons hx hm r hg hd he ih =>
    intro m z
    rcases List.mem_cons.mp z with z | z
    · rw [z]; exact hm
    · exact ih m z
theorem exm_list (F : XFs X.K L) {c : Nat} (hL : c ∈ L) : ∀ {ms : List Nat}, (∀ m ∈ ms, m ∈ L) → PySem.W.exmAny X.K (.ref (xA X.K c)) (ms.map fun m => Value.ref (xA X.K m)) = some (ms.contains c)
  | [], _ => rfl
  | m :: ms, h => by
    have h1 := F.ma c hL m (h m List.mem_cons_self)
    have h2 := exm_list F hL fun z hz => h z (List.mem_cons_of_mem _ hz)
    rw [List.map_cons]
    unfold PySem.W.exmAny
    rw [h1, h2]
    rw [List.contains_cons]
    by_cases z : c = m <;> simp [z]
theorem tst_tup {es : List Expr} {ms : List Nat} {k : Nat} (F : XFs X.K L) (h : Nms X L es ms) (hl : ms.length ≤ 1000 := by decide) : TstF X L (.Tuple es k pos) ms := by
  refine ⟨fun a pn σ H s c oe E Q I ha hc hL q => ?_⟩
  refine Tuple_ (h.run I ?_)
  refine wpAny_newObj_type ?_ (by show (List.map _ ms).toArray.size ≤ sizeLine; rw [List.size_toArray, List.length_map]; exact Nat.le_trans hl (by decide +kernel))
  have k1 : ∀ b o, s.heap.get? b = some o → (s.heap.push { cls := .type "tuple", data := .seq (ms.map fun m => Value.ref (xA X.K m)).toArray }).get? b = some o := fun b o z => Heap.get?_push_of_some _ z
  exact (exm_all (M := model X.prog X.w) (PySem.W.Frag.In.keeps I.kIn k1) (looks_cls (k1 _ _ ha) hc) (Heap.get?_push_size _ rfl) (exm_list F hL h.in_)).here (q _ k1)
end
/-- where all objects stay, it flies on -/
theorem fly_kept {base h h' : Heap} {l : List Env} {e : Addr} {Z : Obj → Prop} (f : HandSPX.FlyingZ base l e Z h) (k : ∀ b o, h.get? b = some o → h'.get? b = some o) : HandSPX.FlyingZ base l e Z h' := by
  obtain ⟨f1, f2, f3, oe, vs, T, oT, ts, a1, a2, a3, a4, a5, a6, a7, a8, a9⟩ := f
  exact ⟨fun b o q => k b o (f1 b o q), f2, f3.of_keeps fun b o q _ => ⟨o, k b o q, rfl⟩, oe, vs, T, oT, ts, k _ _ a1, a2, a3, a4, a5, a6, k _ _ a7, a8, a9⟩
/-! ### clauses -/
structure Hd where
  cs : List Nat
  i : Option Nat
  ev : Nat → Nat → EvS
def hdSet (i : Option Nat) (v : Option FV) (σ : FSt) : FSt := match i with
  | none => σ
  | some i => σ.set i v
def SR.unset (i : Option Nat) : SR → SR
  | .nx σ h => .nx (hdSet i none σ) h
  | .bk σ h => .bk (hdSet i none σ) h
  | .ct σ h => .ct (hdSet i none σ) h
  | .rt v h => .rt v h
  | _ => .stuck
def runH : List Hd → Nat → List (Str × FV) → FSt → FH → SR
  | [], c, fs, σ, h => .ex c fs σ h
  | d :: r, c, fs, σ, h => if d.cs.contains c = true then (d.ev h.length c (hdSet d.i (some (.ref h.length)) σ) (h ++ [.opq, .xdo fs])).unset d.i else runH r c fs σ h
def sTry (L : List Nat) (b : EvS) (hs : List Hd) : EvS := fun σ h => match b σ h with
  | .ex c fs σ1 h1 => if L.contains c = true then runH hs c fs σ1 h1 else .stuck
  | r => r
/-- a clause's suite, whatever was caught: a the exception, its object, its class c, its dict dd; n where it is numbered -/
abbrev SuiF (X : Cx) (L : List Nat) (su : List Stmt) (ev : Nat → Nat → EvS) : Prop := ∀ (a : Addr) (oe : Obj) (c : Nat) (dd : Option Addr) (pn : List (Addr × Obj)) (ρ0 : List Addr) (H0 : Hp) (n : Nat), c ∈ L → L2N.Zn (.ref (xA X.K c)) dd oe → (∃ vs, oe.data = .fields vs) → ρ0[n]? = some a →
  ρ0[n + 1]? = some (dd.getD a) → (∀ d, dd = some d → ∃ vs, H0 d = some (.xd vs)) → FSs (X.suite a ((a, oe) :: pn)) ⟨fun _ _ _ _ => False, ρ0, H0⟩ su (ev n c)
inductive HsF (X : Cx) (L : List Nat) : List ExceptHandler → List Hd → Prop
  | nil : HsF X L [] []
  | plain {t : Expr} {cs : List Nat} {ev : Nat → Nat → EvS} {b₀ : Stmt} {su : List Stmt} {p : Pos} {hds : List ExceptHandler} {l : List Hd} (ht : TstF X L t cs) (hs : SuiF X L (b₀ :: su) ev) (r : HsF X L hds l) : HsF X L (.ExceptHandler (some t) none (b₀ :: su) p :: hds) (⟨cs, none, ev⟩ :: l)
  | as_ {t : Expr} {cs : List Nat} {ev : Nat → Nat → EvS} {b₀ : Stmt} {su : List Stmt} {p : Pos} {n : Str} {i : Nat} {hds : List ExceptHandler} {l : List Hd} (ht : TstF X L t cs) (hi : X.N[i]? = some n) (hl : X.env.kindOf n = some .local) (hs : SuiF X L (b₀ :: su) ev) (r : HsF X L hds l) :
      HsF X L (.ExceptHandler (some t) (some n) (b₀ :: su) p :: hds) (⟨cs, some i, ev⟩ :: l)

/-! ### try: body, several clauses -/
section
variable {K : PySem.W.Frag} {W : Wsh} {ρ : List Addr} {h : FH} {H : Hp}
/-- a soft thing, numbered -/
theorem RH.softp (r : RH K ρ h H) (p : Addr) (u : FO) (e : Ev K ρ H (ρ ++ [p]) H) (new : Soft K (ρ ++ [p]) H p u) : RH K (ρ ++ [p]) (h ++ [u]) H := by
  have keep : ∀ {i : Nat} {x : FO}, h[i]? = some x → (h ++ [u])[i]? = some x := fun {i x} q => by
    rw [List.getElem?_append_left (List.getElem?_eq_some_iff.mp q).1]; exact q
  have atE : (h ++ [u])[ρ.length]? = some u := by rw [r.len]; simp
  have two : ∀ i a, (ρ ++ [p])[i]? = some a → (ρ[i]? = some a) ∨ (i = ρ.length ∧ a = p) := fun i a q => by
    by_cases hi : i < ρ.length
    · rw [List.getElem?_append_left hi] at q
      exact .inl q
    · have hl := (List.getElem?_eq_some_iff.mp q).1
      rw [List.length_append, List.length_singleton] at hl
      have e2 : i = ρ.length := by omega
      rw [e2] at q
      rw [List.getElem?_append_right (Nat.le_refl _), Nat.sub_self] at q
      exact .inr ⟨e2, (Option.some.inj q).symm⟩
  refine ⟨by rw [List.length_append, List.length_append, r.len]; rfl, fun i j a q1 q2 => ?_, fun i w q => ?_⟩
  · rcases two i a q1 with z1 | ⟨z1, y1⟩
    · rcases two j a q2 with z2 | ⟨z2, y2⟩
      · rcases r.nd i j a z1 z2 with y | ⟨w, y, k⟩ | ⟨w, y, k⟩
        · exact .inl y
        · exact .inr (.inl ⟨w, keep y, k.ev e⟩)
        · exact .inr (.inr ⟨w, keep y, k.ev e⟩)
      · subst y2
        exact .inr (.inr ⟨u, by rw [z2]; exact atE, new⟩)
    · subst y1
      exact .inr (.inl ⟨u, by rw [z1]; exact atE, new⟩)
  · by_cases hi : i < h.length
    · rw [List.getElem?_append_left hi] at q
      obtain ⟨a, q1, q2⟩ := r.at_ i w q
      exact ⟨a, e.get q1, RO.ne (p := a + 1) e (fun b hb => rfl) (Nat.ne_of_lt (Nat.lt_succ_self a)) q2⟩
    · have hl := (List.getElem?_eq_some_iff.mp q).1
      rw [List.length_append, List.length_singleton] at hl
      have e2 : i = h.length := by omega
      rw [e2] at q
      rw [List.getElem?_append_right (Nat.le_refl _), Nat.sub_self] at q
      have e3 : u = w := Option.some.inj q
      refine ⟨p, by rw [e2, ← r.len]; simp, ?_⟩
      rw [← e3]
      exact new.ro
theorem Ev.more {p : Addr} : Ev K ρ H (ρ ++ [p]) H := ⟨⟨[p], rfl⟩, fun _ _ z => z, id, fun _ _ z => z, fun _ _ z => z⟩
theorem RS.gone {σf : FSt} {σ : L2.St} (r : RS K W ρ H σf σ) (i : Nat) : RS K W ρ H (σf.set i none) (σ.set i none) := by
  refine ⟨by rw [List.length_set, List.length_set, r.len], fun j y e => ?_, r.tabs, r.base⟩
  by_cases z : i = j
  · subst z
    have hi : i < σf.length := by
      have := (List.getElem?_eq_some_iff.mp e).1
      rwa [List.length_set] at this
    rw [List.getElem?_set_self hi] at e
    cases (Option.some.inj e)
  · rw [List.getElem?_set_ne z] at e ⊢
    exact r.at_ j y e
/-- from a point further on -/
theorem RS.from_ {W' : Wsh} {σf : FSt} {σ : L2.St} (r : RS K W' ρ H σf σ) (b : Ev K W.ρ0 W.H0 W'.ρ0 W'.H0) : RS K W ρ H σf σ := ⟨r.len, r.at_, r.tabs, b.trans r.base⟩
/-- a suite's end, seen from the try -/
theorem PostS.suite {ρ1 ρ2 : List Addr} {H1 : Hp} {D : Ends} {r : SR} {w : WX} (p : PostS K W ρ1 H1 D (r.unset none)) (e : Ev K ρ1 H1 ρ2 H1) (b : Ev K W.ρ0 W.H0 ρ2 H1) : PostS K ⟨w, ρ2, H1⟩ ρ2 H1 D r := by
  cases r with
  | nx σ h => exact fun ρ' H' σ' e' rs rh => p ρ' H' σ' (e.trans e') (rs.from_ b) rh
  | bk σ h => exact fun ρ' H' σ' e' rs rh => p ρ' H' σ' (e.trans e') (rs.from_ b) rh
  | ct σ h => exact fun ρ' H' σ' e' rs rh => p ρ' H' σ' (e.trans e') (rs.from_ b) rh
  | rt v h => exact fun ρ' H' u e' rh rv => p ρ' H' u (e.trans e') rh rv
  | ex c fs σ h => exact p.elim
  | stuck => exact p.elim
abbrev endsAs (i : Nat) (D : Ends) : Ends := { nx := fun σ H => D.nx (σ.set i none) H, rt := D.rt, bk := fun σ H => D.bk (σ.set i none) H, ct := fun σ H => D.ct (σ.set i none) H }
theorem PostS.suiteAs {ρ1 ρ2 : List Addr} {H1 : Hp} {D : Ends} {r : SR} {w : WX} {i : Nat} (p : PostS K W ρ1 H1 D (r.unset (some i))) (e : Ev K ρ1 H1 ρ2 H1) (b : Ev K W.ρ0 W.H0 ρ2 H1) : PostS K ⟨w, ρ2, H1⟩ ρ2 H1 (endsAs i D) r := by
  cases r with
  | nx σ h => exact fun ρ' H' σ' e' rs rh => p ρ' H' _ (e.trans e') ((rs.from_ b).gone i) rh
  | bk σ h => exact fun ρ' H' σ' e' rs rh => p ρ' H' _ (e.trans e') ((rs.from_ b).gone i) rh
  | ct σ h => exact fun ρ' H' σ' e' rs rh => p ρ' H' _ (e.trans e') ((rs.from_ b).gone i) rh
  | rt v h => exact fun ρ' H' u e' rh rv => p ρ' H' u (e.trans e') rh rv
  | ex c fs σ h => exact p.elim
  | stuck => exact p.elim
end
section
variable {X : Cx} {W : Wsh} {L : List Nat} {body : List Stmt} {h0 : ExceptHandler} {hds : List ExceptHandler} {hl : List Hd} {pos : Pos} {ev : EvS}
theorem fs_try (hs : X.stack = X.env :: X.outer) (hf : X.env.frame = some X.env.locals) (hN : X.N.Nodup) (tk : L2N.Takes X W.w)
    (hb : ∀ (w : WX) (pn : List (Addr × Obj)) (xe : Value → Shared → Prop), L2N.Takes (X.tr pn xe) w → PassesOwn (model X.prog X.w) X.A X.env xe → FSs (X.tr pn xe) ⟨w, W.ρ0, W.H0⟩ body ev)
    (hh : HsF X L (h0 :: hds) hl) : FS X W (.Try body (h0 :: hds) [] [] pos) (sTry L ev hl) := by
  refine ⟨fun pins s σ H D I ⟨ρ, σf, h, rs, rh, p⟩ => ?_⟩
  have ok := I.ok
  have frA : X.A.frames = some (X.env :: X.outer) := by rw [ok.frames, hs]
  obtain ⟨wc, ewc⟩ : ∃ wc : WX, wc = fun cls d σ' H' => ∃ (ρ' : List Addr) (σf' : FSt) (h' : FH) (c : Nat) (fs : List (Str × FV)), cls = .ref (xA X.K c) ∧ c ∈ L ∧ RS X.K W ρ' H' σf' σ' ∧ RH X.K ρ' h' H' ∧ XD X.K ρ' H' fs d ∧ PostS X.K W ρ' H' D (runH hl c fs σf' h') := ⟨_, rfl⟩
  have p0 : PostS X.K ⟨wc, W.ρ0, W.H0⟩ ρ H D (ev σf h) := by
    unfold sTry at p
    cases q : ev σf h with
    | nx σ1 h1 => rw [q] at p; exact fun ρ' H' σ' e' rs' => p ρ' H' σ' e' (rs'.wish _)
    | rt v h1 => rw [q] at p; exact p
    | bk σ1 h1 => rw [q] at p; exact fun ρ' H' σ' e' rs' => p ρ' H' σ' e' (rs'.wish _)
    | ct σ1 h1 => rw [q] at p; exact fun ρ' H' σ' e' rs' => p ρ' H' σ' e' (rs'.wish _)
    | ex c fs σ1 h1 =>
      rw [q] at p
      simp only at p
      by_cases z : L.contains c = true
      · rw [if_pos z] at p
        intro ρ' H' σ' d e' rs' rh' xd
        show wc _ _ _ _
        rw [ewc]
        exact ⟨ρ', σ1, h1, c, fs, rfl, List.contains_iff_mem.mp z, rs'.wish _, rh', xd, p.at_ e'⟩
      · rw [if_neg z] at p
        exact p.elim
    | stuck => rw [q] at p; exact p.elim
  refine wpAny_Try_except ?_
  refine wpAny_mono ((hb wc (X.pn ++ pins) (fun e s1 => wpAny (model X.prog X.w) X.A (noteFrame e X.env) (fun _ s2 => wpAny (model X.prog X.w) X.A (setFlight e none) (fun _ s3 => wpAny (model X.prog X.w) X.A (handleBy e X.env (h0 :: hds)) (SP X pins D) X.xe s3) X.xe s2) X.xe s1) (fun u s' xx => ?_) PassesOwn.looking).run [] s σ H D (I.toTry _)
    ⟨ρ, σf, h, rs.wish _, rh, p0⟩) (fun f s1 z => ?_) (fun e s1 z => z)
  · obtain ⟨a, B, sI, pins', σ', H', cls, d, rfl, J', nb, up, sky, na, os, ag, ww⟩ := xx
    rw [ewc] at ww
    obtain ⟨ρ1, σf1, h1, c, fs, rfl, cL, rs1, rh1, xd, p1⟩ := ww
    have J : Inv X pins σ' H' sI := J'.ofTry ok
    have sky1 : Sky B (X.env :: X.outer) a (L2N.Zn (.ref (xA X.K c)) d) X.env.locals s'.heap := by rw [← hs]; exact sky
    show wpAny (model X.prog X.w) X.A (noteFrame (.ref a) X.env) _ _ _
    -- where what was caught is numbered
    have e1 : Ev X.K ρ1 H' (ρ1 ++ [a]) H' := .more
    have e2 : Ev X.K (ρ1 ++ [a]) H' (ρ1 ++ [a] ++ [d.getD a]) H' := .more
    have sx : Soft X.K (ρ1 ++ [a] ++ [d.getD a]) H' (d.getD a) (.xdo fs) := by
      cases d with
      | none => exact .inl xd
      | some dd => exact .inr ⟨_, xd.choose_spec.1, xd.choose_spec.2.ev (e1.trans e2)⟩
    have rh2 : RH X.K (ρ1 ++ [a] ++ [d.getD a]) (h1 ++ [.opq, .xdo fs]) H' := by
      have z := (rh1.softp a .opq e1 trivial).softp (d.getD a) (.xdo fs) e2 sx
      have y : h1 ++ [FO.opq, FO.xdo fs] = h1 ++ [FO.opq] ++ [FO.xdo fs] := by simp
      rw [y]
      exact z
    have n1 : (ρ1 ++ [a] ++ [d.getD a])[h1.length]? = some a := by rw [← rh1.len]; simp
    have n2 : (ρ1 ++ [a] ++ [d.getD a])[h1.length + 1]? = some (d.getD a) := by rw [← rh1.len]; simp
    have n3 : ∀ dd, d = some dd → ∃ vs, H' dd = some (.xd vs) := fun dd z => by
      subst z
      exact ⟨_, xd.choose_spec.1⟩
    have eb : Ev X.K W.ρ0 W.H0 (ρ1 ++ [a] ++ [d.getD a]) H' := rs1.base.trans (e1.trans e2)
    have rsS : ∀ {τf : FSt} {τ : L2.St}, RS X.K W ρ1 H' τf τ → RS X.K ⟨fun _ _ _ _ => False, ρ1 ++ [a] ++ [d.getD a], H'⟩ (ρ1 ++ [a] ++ [d.getD a]) H' τf τ := fun r =>
      let r2 := r.ev (e1.trans e2)
      ⟨r2.len, r2.at_, r2.tabs, .refl⟩
    have away : ∀ {hh : Heap} {o : Obj} {vs : Array Value}, hh.FunFrames B (X.env :: X.outer) → hh.get? a = some o → o.data = .fields vs → a ∉ frs (X.env :: X.outer) := fun {hh o vs} ff e dd hm => by
      obtain ⟨_, o', e', hnf⟩ := ff.mem hm
      rw [e] at e'
      cases e'
      exact hnf _ dd
    -- the clauses, from any heap on that bears it
    have go : ∀ {hds' : List ExceptHandler} {hl' : List Hd}, HsF X L hds' hl' → ∀ h3 : Heap, HandSPX.FlyingZ B (X.env :: X.outer) a (L2N.Zn (.ref (xA X.K c)) d) h3 → sI.heap.UpToSlots h3 → PostS X.K W ρ1 H' D (runH hl' c fs σf1 h1) →
        wpAny (model X.prog X.w) X.A (handleBy (.ref a) X.env hds') (SP X pins D) X.xe { s' with heap := h3 } := by
      intro hds' hl' hk
      -- one clause's test
      have test : ∀ {t : Expr} {cs : List Nat} {Q : Bool → Shared → Prop} {E : Value → Shared → Prop} (h3 : Heap), TstF X L t cs → HandSPX.FlyingZ B (X.env :: X.outer) a (L2N.Zn (.ref (xA X.K c)) d) h3 → sI.heap.UpToSlots h3 →
          (∀ h4 : Heap, HandSPX.FlyingZ B (X.env :: X.outer) a (L2N.Zn (.ref (xA X.K c)) d) h4 → sI.heap.UpToSlots h4 → Q (cs.contains c) { s' with heap := h4 }) →
          wpAny (model X.prog X.w) (X.A.mark (some (.ref a))) (eval t X.env) (fun cv s1 => wpAny (model X.prog X.w) (X.A.mark (some (.ref a))) (excMatches (.ref a) cv) Q E s1) E { s' with heap := h3 } := fun {t cs Q E} h3 T fl3 up3 q => by
        have J3 : Inv X pins σ' H' { s' with heap := h3 } := J.landed nb fl3.1 up3 os ag
        obtain ⟨oe, vs, o1, o2, o3⟩ := fl3.there
        have nfr := away fl3.2.2.1 o1 o3
        have S3 := J3.suite o1 o3 na (fun z => nfr (List.mem_filterMap.mpr ⟨X.env, List.mem_cons_self, by rw [hf, z]⟩)) (fun hm => by
          obtain ⟨e, he, y⟩ := List.mem_filterMap.mp hm
          exact nfr (List.mem_filterMap.mpr ⟨e, List.mem_cons_of_mem _ he, y⟩))
        exact T.run a _ σ' H' _ c oe E Q S3 o1 o2.1 cL fun h4 k4 => q h4 (fly_kept fl3 k4) (up3.trans (Heap.UpToSlots.of_keeps k4))
      -- the suite's start
      have start : ∀ {Q : Unit → Shared → Prop} {E : Value → Shared → Prop} (h4 : Heap), HandSPX.FlyingZ B (X.env :: X.outer) a (L2N.Zn (.ref (xA X.K c)) d) h4 → sI.heap.UpToSlots h4 →
          (∀ (h5 : Heap) (oe : Obj), L2N.Zn (.ref (xA X.K c)) d oe → (∃ vs, oe.data = .fields vs) → Inv (X.suite a ((a, oe) :: (X.pn ++ pins))) [] σ' H' { s' with heap := h5 } → Q () { s' with heap := h5 }) →
          wpAny (model X.prog X.w) (X.A.mark (some (.ref a))) (setFlight (.ref a) none) Q E { s' with heap := h4 } := fun {Q E} h4 fl4 up4 q => by
        refine HandSPX.lands_againZ fl4 fun h5 fl5 up5 => ?_
        have J5 : Inv X pins σ' H' { s' with heap := h5 } := J.landed nb fl5.1 (up4.trans up5) os ag
        obtain ⟨oe, vs, o1, o2, o3⟩ := fl5.there
        have nfr := away fl5.2.2.1 o1 o3
        exact q h5 oe o2 ⟨vs, o3⟩ (J5.suite o1 o3 na (fun z => nfr (List.mem_filterMap.mpr ⟨X.env, List.mem_cons_self, by rw [hf, z]⟩)) (fun hm => by
          obtain ⟨e, he, y⟩ := List.mem_filterMap.mp hm
          exact nfr (List.mem_filterMap.mpr ⟨e, List.mem_cons_of_mem _ he, y⟩)))
      induction hk with
      | nil =>
        intro h3 fl3 up3 pp
        refine wpAny_handleBy_nil ?_
        obtain ⟨k1, k2, k3, oe, vs, T, oT, ts', he, hz, hd, y1, hr⟩ := id fl3
        unfold PySem.passOn
        refine wpAny_bind (wpAny_field he hd y1 ?_)
        rw [if_neg (show ¬ ((Value.ref T == Value.none) = true) from by simp)]
        have out : wpAny (model X.prog X.w) X.A (setFlight (.ref a) X.env.frame) (fun _ s4 => wpAny (model X.prog X.w) X.A (throw (.ref a) : Sem Flow) (SP X pins D) X.xe s4) X.xe { s' with heap := h3 } := by
          rw [hf]
          refine HandSPX.setFlight_upZ fl3 fun h4 f4 up4 => wpAny_throw (tk _ _ ?_)
          exact ⟨a, B, sI, pins, σ', H', _, d, rfl, J, nb, up3.trans up4, .inr (.inr (by rw [hs]; exact f4)), na, os, ag, pp ρ1 H' σ' d .refl rs1 rh1 xd⟩
        first
          | exact wpAny_bind (wpAny_pure (wpAny_bind out))
          | exact wpAny_bind out
      | @plain t cs ev' b₀ su pp' hds2 l2 ht hsu r ih =>
        intro h3 fl3 up3 pp
        refine wpAny_handleBy_cons (codeAny_handlers_test (test h3 ht fl3 up3 fun h4 fl4 up4 => ?_)) (by intro q; cases q)
        unfold runH at pp
        cases cq : cs.contains c with
        | false =>
          simp only [cq] at pp
          rw [if_neg Bool.false_ne_true] at pp
          exact ih h4 fl4 up4 pp
        | true =>
          simp only [cq] at pp
          rw [if_pos trivial] at pp
          refine codeAny_handlers_suite (start h4 fl4 up4 fun h5 oe zo fo S5 => ?_)
          refine wpAny_mono ((hsu a oe c d (X.pn ++ pins) _ H' h1.length cL zo fo n1 n2 n3).run [] _ _ H' D S5 ⟨_, _, _, rsS rs1, rh2, pp.suite (e1.trans e2) eb⟩) (fun f s6 z => ?_) (fun _ _ z => False.elim z)
          match f, z with
          | .next, ⟨_, _, S6, q6⟩ => exact ⟨_, _, S6.unsuite ok, q6⟩
          | .brk, ⟨_, _, S6, q6⟩ => exact ⟨_, _, S6.unsuite ok, q6⟩
          | .cont, ⟨_, _, S6, q6⟩ => exact ⟨_, _, S6.unsuite ok, q6⟩
          | .ret u, ⟨_, _, _, S6, r6, q6⟩ => exact ⟨_, _, _, S6.unsuite ok, r6, q6⟩
      | @as_ t cs ev' b₀ su pp' n i hds2 l2 ht hi hl hsu r ih =>
        intro h3 fl3 up3 pp
        refine wpAny_handleBy_cons (codeAny_handlers_test (test h3 ht fl3 up3 fun h4 fl4 up4 => ?_)) (by intro q; cases q)
        unfold runH at pp
        cases cq : cs.contains c with
        | false =>
          simp only [cq] at pp
          rw [if_neg Bool.false_ne_true] at pp
          exact ih h4 fl4 up4 pp
        | true =>
          simp only [cq] at pp
          rw [if_pos trivial] at pp
          refine codeAny_handlers_suite_as (start h4 fl4 up4 fun h5 oe zo fo S5 => ?_)
          refine store_ok (X := X.suite a ((a, oe) :: (X.pn ++ pins))) (v := .ref a) S5 hN hi (.inl hl) rfl (fun s6 S6 => ?_) (.inr hl)
          have rs6 : RS X.K ⟨fun _ _ _ _ => False, ρ1 ++ [a] ++ [d.getD a], H'⟩ (ρ1 ++ [a] ++ [d.getD a]) H' (hdSet (some i) (some (.ref h1.length)) σf1) (σ'.set i (some (.ref a))) := (rsS rs1).set i (.ref n1)
          refine wpAny_mono ((hsu a oe c d (X.pn ++ pins) _ H' h1.length cL zo fo n1 n2 n3).run [] s6 _ H' (endsAs i D) S6 ⟨_, _, _, rs6, rh2, pp.suiteAs (e1.trans e2) eb⟩) (fun f s7 z => ?_) (fun _ _ z => False.elim z)
          have off : ∀ {τ : L2.St} {H6 : Hp} {Q : Shared → Prop}, Inv (X.suite a ((a, oe) :: (X.pn ++ pins))) [] τ H6 s7 → (∀ s8, Inv X pins (τ.set i none) H6 s8 → Q s8) → wpAny (model X.prog X.w) X.A (do bindName X.env n .none; unbindBehindTheSuite X.env n pp') (fun _ s8 => Q s8) X.xe s7 := fun S8 hq => gone_ok (S8.unsuite ok) hN hi hl hq
          match f, z with
          | .next, ⟨_, _, S8, q8⟩ => exact off S8 fun _ J8 => ⟨_, _, J8, q8⟩
          | .brk, ⟨_, _, S8, q8⟩ => exact off S8 fun _ J8 => ⟨_, _, J8, q8⟩
          | .cont, ⟨_, _, S8, q8⟩ => exact off S8 fun _ J8 => ⟨_, _, J8, q8⟩
          | .ret u, ⟨_, _, _, S8, r8, q8⟩ => exact off S8 fun _ J8 => ⟨_, _, _, J8, r8, q8⟩
    exact L2N.Sky.land L2N.Zn.steady frA hf sky1 fun h3 fl3 up3 => go hh h3 fl3 (up.trans up3) p1
  · match f, z with
    | .next, ⟨_, _, J', q⟩ => exact wpAny_execs_nil ⟨_, _, J'.ofTry ok, q⟩
    | .brk, ⟨_, _, J', q⟩ => exact ⟨_, _, J'.ofTry ok, q⟩
    | .cont, ⟨_, _, J', q⟩ => exact ⟨_, _, J'.ofTry ok, q⟩
    | .ret u, ⟨_, _, _, J', r, q⟩ => exact ⟨_, _, _, J'.ofTry ok, r, q⟩
end
end FX
set_option maxRecDepth 100000
set_option maxHeartbeats 4000000
/-! ### an exception with its dict: what isinstance asks of it -/
namespace FXK
open PySem PySem.Spec PySem.Calls PyProof.Rows PySem.W
section
variable {prog : Program} {w : World} {A : Around} {E : Value → Shared → Prop} {K : Frag} {x D : Addr} {ox : Obj} {od : Option Obj}
theorem find_bound {a g : Value} {n : Str} (hc : (clsIn K D).isSome = true) (ha : findIn K (.ref D) n = some (some a)) (hg : specialIn K a "__get__" = some (some g)) (ht : takesIn K a = some true) : findObj K D od n = some (.bind g a) := by
  obtain ⟨cd, q⟩ := Option.isSome_iff_exists.mp hc
  unfold findObj
  rw [q]
  simp [ha, hg, ht]
theorem class_of {s : Shared} {Q : Option Value → Shared → Prop} (C : L2.ExcC K D) (X : K.In s.heap) (I : InstAt s.heap x ox D od) (q : Q (some (.ref D)) { s with toks := s.toks + 1 }) : wpAny (model prog w) A (getAttr? (.ref x) "__class__") Q E s := by
  have fnd : findObj K D od "__class__" = some (.bind (.builtin "getset_descriptor.__get__") (.builtin "object.__class__")) := find_bound (by obtain ⟨cd, z, _⟩ := any_some C.hd; rw [z]; rfl) C.ha C.hn C.ht
  obtain ⟨hp, gg, dd, tt, oo⟩ := s
  have t0 := I.type (M := model prog w)
  have t1 := looks_findIn (M := model prog w) X C.hg
  have t2 := looks_findIn (M := model prog w) X C.hk
  have t3 := looks_find (M := model prog w) X I fnd
  have isE : Looks (model prog w) hp (isInstance (.ref x) (.type "BaseException")) true := t0.andThen (looks_subIn X C.hs)
  have b0 : (false && onTheHeap (Value.builtin "BaseException.__getattribute__")) = false := rfl
  have b2 : (Value.builtin "BaseException.__getattribute__" == Value.builtin "object.__getattribute__") = false := by decide +kernel
  have b1 : (onTheHeap (Value.ref D) && Value.builtin "BaseException.__getattribute__" == Value.builtin "object.__getattribute__") = false := by rw [b2]; rfl
  unfold getAttr? getAttrBy? getAttrBy
  refine wpAny_bind (wpAny_mkText (wpAny_bind (wpAny_attempt (wpAny_holding (wpAny_bind (t0.at (wpAny_bind (t1.at ?_))))))))
  show wpAny _ _ (if (onTheHeap (Value.ref D) && Value.builtin "BaseException.__getattribute__" == Value.builtin "object.__getattribute__") = true then _ else _) _ _ _
  rw [b1, if_neg Bool.false_ne_true]
  unfold getAttrByItsOwn hookBefore
  refine wpAny_bind ?_
  rw [if_pos (show onTheHeap (Value.ref D) = true from rfl)]
  refine t2.at ?_
  refine wpAny_bind (wpAny_attempt (wpAny_holding ?_))
  unfold callGetattribute
  rw [b0, if_neg Bool.false_ne_true]
  unfold boundAndCalled
  rw [PySem.F.excAttr_ValueError.ga.bind (.ref x)]
  refine wpAny_bind (wpAny_pure ?_)
  show wpAny _ _ (call (.builtin "BaseException.__getattribute__") [.ref x, .str "__class__" tt]) _ _ _
  refine wpAny_call (codeAny_call_builtin PySem.F.excAttr_ValueError.ga.plain PySem.F.entry_bexc_ga ?_)
  refine @check_slot (model prog w) _ _ ⟨hp, gg, dd, tt + 1, oo⟩ "BaseException.__getattribute__" "BaseException" "__getattribute__" (.ref x) [.str "__class__" tt] [] _ (by decide +kernel) (by decide +kernel) isE (PySem.F.args_bexc_ga (.ref x) (.str "__class__" tt)) ?_
  unfold Builtin.«object.__getattribute__»
  refine wpAny_bind (wpAny_of_eq (a := ((Value.ref x : Value), [Value.str "__class__" tt])) (by first | rfl | (simp only [slotArgs]; rfl)) ?_)
  refine wpAny_bind (wpAny_pure (wpAny_bind (t0.at (wpAny_bind (t3.at ?_)))))
  show wpAny _ _ (holding [Value.builtin "object.__class__"] (call (.builtin "getset_descriptor.__get__") [.builtin "object.__class__", .ref x, .ref D]) >>= ret) _ _ _
  refine wpAny_bind (wpAny_holding (wpAny_call (class_get (s := ⟨hp, gg, dd, tt + 1, oo⟩) (ox := ox) (od := od) X I C.hm ?_)))
  refine wpAny_pure ?_
  show wpAny _ _ (handedOut (.ref D)) _ _ _
  rw [handedOut_of (v := .ref D) rfl]
  first
    | exact wpAny_pure (wpAny_pure q)
    | exact wpAny_pure q
    | exact wpAny_pure (wpAny_bind (wpAny_pure (wpAny_pure q)))
theorem kit_exc (C : L2.ExcC K D) : KitX K (.ref x) (.ref D) (fun h => InstAt h x ox D od) where
  ty := fun _ _ _ I => I.type
  it := fun _ _ X _ => by
    obtain ⟨cd, z, _⟩ := any_some C.hd
    unfold clsIn at z
    split at z
    · rename_i o1 o2 o3 o4 ho
      intro A1 Q1 E1 s1 k q
      unfold isType loadHead
      exact wpAny_bind (wpAny_loadPart (k _ _ (X _ _ ho)) (wpAny_pure q))
    · cases z
  ne := fun h tp dd its n sl X htp => by
    obtain ⟨cd, z, _⟩ := any_some C.hd
    refine Bool.eq_false_iff.mpr fun q => ?_
    cases (Value.ref.inj (beq_iff_eq.mp q))
    unfold clsIn at z
    split at z
    · rename_i o1 o2 o3 o4 ho
      have y := (X _ _ ho).symm.trans htp
      cases y
    · cases z
  ca := fun X I k => class_of C X I k
end
end FXK
namespace FX
open PySem PySem.Spec PySem.Calls PyProof.Rows L2
variable [LamT]
/-! ### what is told of the classes whose exceptions are caught -/
structure XSu (K : PySem.W.Frag) (L : List Nat) (FL : List Str) : Prop where
  ki : ∀ c ∈ L, ∀ m ∈ L, PySem.W.kitOne K (.ref (xA K c)) (.ref (xA K m)) = some (decide (c = m))
  ec : ∀ c ∈ L, ExcC K (xA K c)
  xf : ∀ c ∈ L, XfC K (xA K c)
  nf : ∀ c ∈ L, ∀ f ∈ FL, PySem.W.findIn K (.ref (xA K c)) f = some none
/-- a class by its name -/
theorem fe_cls {X : Cx} {W : Wsh} {x : Str} {m : Nat} {pos : Pos} (hx : X.mg x = some (.ref (xA X.K m))) (hg : Gl X x := by rfl) (hd : (x == ("__debug__" : Str)) = false := by decide) : FE X W (.Name x pos) (cC (.cls m)) :=
  pe_imp (pe_glob (v := .ref (xA X.K m)) hg hx rfl hd) fun σ H Q ⟨ρ, σf, h, rs, rh, p⟩ => Post.ok_ (x := FV.cls m) p rh (.cls m)
/-- odd.f -/
def cXf (n : Nat) (f : Str) (ea : EvE) : EvE := fun σ h => (ea σ h).bind fun x h1 => match x with
  | .ref m => if m = n then (match h1[n + 1]? with
    | some (.xdo fs) => (match fs.lookup f with
      | some v => .ok v h1
      | none => .stuck)
    | _ => .stuck) else .stuck
  | _ => .stuck
theorem rk_look {K : PySem.W.Frag} {ρ : List Addr} {H : Hp} {f : Str} : ∀ {fs : List (Str × FV)} {vs : List (Str × V)} {y : FV}, RK K ρ H fs vs → fs.lookup f = some y → ∃ v, vs.lookup f = some v ∧ RV K ρ H y v
  | _, _, _, .nil, e => by cases e
  | _, _, y, @RK.cons _ _ _ _ _ j x v xs ws a b, e => by
    rw [List.lookup_cons] at e ⊢
    by_cases z : (f == j) = true
    · rw [z] at e ⊢
      cases (Option.some.inj e)
      exact ⟨v, rfl, a⟩
    · have z := Bool.eq_false_iff.mpr z
      rw [z] at e ⊢
      exact rk_look b e
section
variable {X : Cx} {W : Wsh} {L : List Nat} {FL : List Str} {a : Addr} {oe : Obj} {c n : Nat} {dd : Option Addr} {pn : List (Addr × Obj)} {e : Expr} {es : List Expr} {ea : EvE} {er : EvA} {pos p : Pos} {f x : Str}
theorem inst_of {h : Heap} {H : Hp} {K : PySem.W.Frag} {P : Program} {w : World} {C : Addr} {vs : List (Str × V)} (zo : L2N.Zn (.ref C) dd oe) (fo : ∃ vs, oe.data = .fields vs) (ha : h.get? a = some oe) (hd : ∀ d, dd = some d → ∃ o, h.get? d = some o) : ∃ od, PySem.W.InstAt h a oe C od := by
  obtain ⟨ws, q⟩ := fo
  cases dd with
  | none => exact ⟨none, ha, zo.1, by unfold PySem.W.notCls; rw [q] <;> rfl, by rw [zo.2.1]; trivial⟩
  | some d =>
    obtain ⟨o, y⟩ := hd d rfl
    exact ⟨some o, ha, zo.1, by unfold PySem.W.notCls; rw [q] <;> rfl, by rw [zo.2.1]; exact y⟩
theorem fe_xf (T : XSu X.K L FL) (hc : c ∈ L) (hf : f ∈ FL) (zo : L2N.Zn (.ref (xA X.K c)) dd oe) (fo : ∃ vs, oe.data = .fields vs) (n1 : W.ρ0[n]? = some a) (n2 : W.ρ0[n + 1]? = some (dd.getD a)) (he : FE (X.suite a ((a, oe) :: pn)) W e ea)
    (hb : attributeBase e f X.env (eval e X.env) = eval e X.env := by rfl) : FE (X.suite a ((a, oe) :: pn)) W (.Attribute e f pos) (cXf n f ea) := by
  refine ⟨fun pins s σ H Q I ⟨ρ, σf, h, rs, rh, p⟩ => ?_⟩
  have hA : tG (RV X.K) X.K W ea σ H (fun v H1 => ∃ (ρ1 : List Addr) (h1 : FH) (m : Nat) (fs : List (Str × FV)) (y : FV), v = .ref a ∧ m = n ∧ RS X.K W ρ1 H1 σf σ ∧ RH X.K ρ1 h1 H1 ∧ h1[n + 1]? = some (.xdo fs) ∧ fs.lookup f = some y ∧ Post X.K W (RV X.K) ρ1 H1 σ (.ok y h1) Q) := by
    refine core rs rh p fun ρ1 H1 h1 y u e1 rs1 rh1 r1 p1 => ?_
    cases y with
    | ref m =>
      simp only at p1
      by_cases em : m = n
      · rw [if_pos em] at p1
        split at p1
        · rename_i fs q1
          split at p1
          · rename_i v q2
            cases r1 with
            | ref qn =>
              rw [em, rs1.base.get n1] at qn
              cases (Option.some.inj qn)
              exact ⟨ρ1, h1, m, fs, v, rfl, em, rs1, rh1, q1, q2, p1⟩
          · exact p1.elim
        · exact p1.elim
      · rw [if_neg em] at p1
        exact p1.elim
    | _ => exact p1.elim
  refine attr_of hb (thn (he.run pins s σ H _ I hA) fun u s1 ⟨v, H1, I1, rv, ρ1, h1, m, fs, y, ev, em, rs1, rh1, q1, q2, p1⟩ => ?_)
  subst ev
  obtain rfl : u = Value.ref a := rv
  obtain ⟨g1, g2, _⟩ := I1.pin (a, oe) (List.mem_append_left _ List.mem_cons_self)
  obtain ⟨b, b1, b2⟩ := rh1.at_ _ _ q1
  rw [rs1.base.get n2] at b1
  cases (Option.some.inj b1)
  rcases b2 with b2 | ⟨vs, b2, b3⟩
  · rw [b2] at q2
    cases q2
  · cases dd with
    | none =>
      have g2' : H1 a = none := g2
      rw [show H1 (Option.getD none a) = H1 a from rfl, g2'] at b2
      cases b2
    | some d =>
      obtain ⟨vy, l1, l2⟩ := rk_look b3 q2
      have hx : ObjOk X.prog X.w H1 s1.heap d (.xd vs) := I1.hok d _ b2
      obtain ⟨mA, hns, hr⟩ := hx
      obtain ⟨od, ho, hl⟩ := lookIn_ns hns
      obtain ⟨u, hu, ru⟩ := RelO.some_of (v := vy) (o := mA f) (by rw [← l1]; exact hr f)
      obtain ⟨ws, wd⟩ := fo
      have J : PySem.W.InstAt s1.heap a oe (xA X.K c) (some od) := ⟨g1, zo.1, by unfold PySem.W.notCls; rw [wd] <;> rfl, by rw [zo.2.1]; exact ho⟩
      have F := T.xf c hc
      exact HandSPX.exc_get I1.kIn J F.ga F.gg F.exC (PySem.W.findObj_own F.hdC (T.nf c hc f hf) rfl (by rw [hl, hu])) (handed_of ru) ⟨vy, H1, I1.tok _, ru, p1 ρ1 H1 vy .refl rh1 l2⟩
/-- isinstance(odd, C) -/
def cIsx (n c k : Nat) (ea : EvE) : EvE := fun σ h => (ea σ h).bind fun x h1 => match x with
  | .ref m => if m = n then .ok (.bl (decide (c = k))) h1 else .stuck
  | _ => .stuck
def rIsx (K : PySem.W.Frag) (a C k : Addr) (b : Bool) (dd : Option Addr) : List V → Hp → VK → Prop := fun xs H Q => xs = [.ref a, .ref k] ∧ (∀ d, dd = some d → ∃ vs, H d = some (.xd vs)) ∧ PySem.W.kitOne K (.ref C) (.ref k) = some b ∧ Q (.bl b) H
theorem call_isx {C k : Addr} {b : Bool} (T : ExcC X.K C) (zo : L2N.Zn (.ref C) dd oe) (fo : ∃ vs, oe.data = .fields vs) : CallR (X.suite a ((a, oe) :: pn)) (.builtin "isinstance") (rIsx X.K a C k b dd) := by
  intro pins s σ H xs us Q I r ⟨ex, hd, hk, q⟩
  subst ex
  cases r with
  | cons rx rr =>
    cases rr with
    | cons rt rr =>
      cases rr
      cases rx
      cases rt
      obtain ⟨g1, _⟩ := I.pin (a, oe) (List.mem_append.mpr (.inl List.mem_cons_self))
      obtain ⟨od, J⟩ := inst_of (K := X.K) (H := H) (P := X.prog) (w := X.w) (vs := []) zo fo g1 fun d z => by
        obtain ⟨vs, y⟩ := hd d z
        exact objOk_get (I.hok d _ y)
      exact PySem.W.kia_one (FXK.kit_exc T) I.kIn J hk (fun z => nomatch z) fun tk => ⟨.bl b, H, I.kept (t' := tk) fun _ _ z => z, rfl, q⟩
theorem fe_isx {k : Nat} {y : Str} {py : Pos} (T : XSu X.K L FL) (hc : c ∈ L) (hk : k ∈ L) (zo : L2N.Zn (.ref (xA X.K c)) dd oe) (fo : ∃ vs, oe.data = .fields vs) (n1 : W.ρ0[n]? = some a) (n3 : ∀ d, dd = some d → ∃ vs, W.H0 d = some (.xd vs)) (he : FE (X.suite a ((a, oe) :: pn)) W e ea)
    (hy : X.mg y = some (.ref (xA X.K k))) (hm : X.mg "isinstance" = none) (hgy : Gl X y := by rfl) (hdy : (y == ("__debug__" : Str)) = false := by decide) (hg : Gl X "isinstance" := by rfl) (hs : starEach [e, .Name y py] X.env = (false, eval e X.env) :: starEach [.Name y py] X.env := by rfl)
    (hs2 : starEach [.Name y py] X.env = (false, eval (.Name y py) X.env) :: starEach [] X.env := by rfl) (hpl : (backTo pos (starEach [.Name y py] X.env)).any (·.1) = false := by rfl) :
    FE (X.suite a ((a, oe) :: pn)) W (.Call (.Name "isinstance" p) [e, .Name y py] [] pos) (cIsx n c k ea) := by
  have ha : FA (X.suite a ((a, oe) :: pn)) W [e, .Name y py] (cCons ea (cCons (cC (.cls k)) cNil)) := fa_cons he (fa_cons (fe_cls (X := X.suite a ((a, oe) :: pn)) hy hgy hdy) fa_nil hs2) hs
  refine pe_imp (pe_callB (X := X.suite a ((a, oe) :: pn)) (call_isx (k := xA X.K k) (b := decide (c = k)) (T.ec c hc) zo fo) hg hm rfl ha (by decide) (by decide) hs hpl) fun σ H Q ⟨ρ, σf, h, rs, rh, pp⟩ => ?_
  refine ⟨ρ, σf, h, rs, rh, ?_⟩
  unfold cIsx at pp
  unfold cCons
  cases q : ea σf h with
  | stuck =>
    rw [q] at pp
    exact pp.elim
  | exc x fs h1 =>
    rw [q] at pp
    exact pp
  | ok x h1 =>
    rw [q] at pp
    cases x with
    | ref m =>
      have pp1 : Post X.K W (RV X.K) ρ H σ (if m = n then Res.ok (FV.bl (decide (c = k))) h1 else .stuck) Q := pp
      by_cases em : m = n
      · rw [if_pos em] at pp1
        show Post X.K W (RVs X.K) ρ H σ (.ok [FV.ref m, FV.cls k] h1) _
        intro ρ' H' vs e' rh' r'
        obtain ⟨v, u, rfl, r1, r2⟩ := two_of r'
        have rs1 := rs.ev e'
        cases r2
        cases r1 with
        | ref qn =>
          rw [em, rs1.base.get n1] at qn
          cases (Option.some.inj qn)
          exact ⟨rfl, fun d z => (n3 d z).imp fun vs y => rs1.base.xds d vs y, T.ki c hc k hk, pp1 ρ' H' _ e' rh' (.bl _)⟩
      · rw [if_neg em] at pp1
        exact pp1.elim
    | _ => exact pp.elim
end
end FX
set_option maxRecDepth 100000
set_option maxHeartbeats 4000000
/-! ### iterators that end while an exception is handled -/
namespace HotY
open PySem PySem.Spec PyProof.Rows HotX
section
variable {prog : Program} {w : World} {A : Around} {E : Value → Shared → Prop} {s : Shared}
/-- StopIteration, made and raised -/
theorem stop_hot {α : Type} {x1 : Addr} {Q : α → Shared → Prop} (hot : HotAt A x1 s.heap) (q : ∀ (h' : Heap) (e : Addr), (∀ b o, s.heap.get? b = some o → h'.get? b = some o) → (({ s with heap := h' } : Shared).TypeIs (.ref e) "StopIteration") → E (.ref e) { s with heap := h' }) :
    wpAny (model prog w) A (do let e ← newExc (.type "StopIteration") []; (raiseNew e : Sem α)) Q E s := by
  obtain ⟨hh, o1, v1, g1, d1, c1⟩ := hot
  refine wpAny_bind ?_
  simp only [newExc, newTuple]
  refine wpAny_bind (wpAny_newObj_type ?_ (by size_fits))
  refine wpAny_bind (m := firstArgMember _ _) (wpAny_of_eq (a := Value.none) (by first | rfl | (simp only [firstArgMember]; rfl)) ?_)
  refine wpAny_newObj_type ?_ (by size_fits)
  refine raiseNew_hot ⟨hh, o1, v1, Heap.get?_push_of_some _ (Heap.get?_push_of_some _ g1), d1, c1⟩ (Nat.ne_of_lt (Heap.lt_size (Heap.get?_push_of_some _ g1))) (Heap.get?_push_size _ rfl) rfl (by first | (simp; done) | (simp; omega) | (simp only [Array.size_append]; simp; omega)) ?_
  refine q _ _ (fun b o e => ?_) ⟨_, Heap.get?_update_self _ (Heap.get?_push_size _ rfl) rfl, rfl⟩
  rw [Heap.get?_update_other _ _ (Nat.ne_of_gt (Heap.lt_size (Heap.get?_push_of_some _ e)))]
  exact Heap.get?_push_of_some _ (Heap.get?_push_of_some _ e)
theorem list_end_hot {it l x1 : Addr} {i : Nat} {items : Array Value} {Q : Option Value → Shared → Prop} (hot : HotAt A x1 s.heap) (hx1 : x1 ≠ it) (hit : s.heap.IsListIter it l i) (hl : s.heap.IsList l items) (hx : items[i]? = none) (hQ : ∀ h', Heap.ExtBut it s.heap h' → Q none { s with heap := h' }) :
    wpAny (model prog w) A (pyNext (.ref it)) Q E s := by
  obtain ⟨oi, a1, a2, a3⟩ := id hit
  obtain ⟨ol, b1, _, nl, b3⟩ := hl
  obtain ⟨hh, o1, v1, g1, d1, c1⟩ := hot
  unfold pyNext
  refine wpAny_bind (wpAny_attempt (wpAny_callSpecial?_slot (name := Str.ofString "__next__") hit.typeIs slot_listiter_next (wpAny_call_entry slot_listiter_next hit.typeIs entry_listiter_next ?_ (args_listiter_next _))))
  show wpAny _ _ (field (.ref it) 0 >>= _) _ _ s
  refine wpAny_bind (wpAny_field a1 a3 (x := .ref l) rfl ?_)
  show wpAny _ _ (if (Value.ref l == Value.none) = true then _ else _) _ _ s
  rw [if_neg (show ¬ ((Value.ref l == Value.none) = true) from Bool.false_ne_true)]
  show wpAny _ _ (field (.ref it) 1 >>= _) _ _ s
  refine wpAny_bind (wpAny_field a1 a3 (x := .int i 0) rfl ?_)
  show wpAny _ _ (seqItems? (.ref l) >>= _) _ _ s
  refine wpAny_bind (wpAny_seqItems b1 b3 ?_)
  simp only [Int.toNat_natCast, hx]
  refine wpAny_bind (wpAny_rule (wpAny_bind (wpAny_setField a1 a3 (by simp) ?_)))
  have sb : Heap.SameBut it s.heap (s.heap.update it (Obj.mapFields (·.setIfInBounds 0 Value.none))) := Heap.SameBut.update ..
  refine stop_hot ⟨hh, o1, v1, (sb.2 x1 hx1).trans g1, d1, c1⟩ fun h' e k t => ?_
  refine wpAny_bind (wpAny_isInstance (T := "StopIteration") (b := true) t isSubtype_stop ?_)
  exact wpAny_pure (hQ _ fun b o hb z => k b o ((sb.2 b hb).trans z))
theorem tup_end_hot {it t x1 : Addr} {i : Nat} {items : Array Value} {Q : Option Value → Shared → Prop} (hot : HotAt A x1 s.heap) (hx1 : x1 ≠ it) (hit : IsTupIter s.heap it t i) (ht : IsTup s.heap t items) (hx : items[i]? = none) (hQ : ∀ h', Heap.ExtBut it s.heap h' → Q none { s with heap := h' }) :
    wpAny (model prog w) A (pyNext (.ref it)) Q E s := by
  obtain ⟨oi, a1, a2, a3⟩ := id hit
  obtain ⟨ol, b1, _, nl, b3⟩ := ht
  obtain ⟨hh, o1, v1, g1, d1, c1⟩ := hot
  unfold pyNext
  refine wpAny_bind (wpAny_attempt (wpAny_callSpecial?_slot (name := Str.ofString "__next__") hit.typeIs slot_tupleiter_next (wpAny_call_entry slot_tupleiter_next hit.typeIs entry_tupleiter_next ?_ (args_tupleiter_next _))))
  show wpAny _ _ (field (.ref it) 0 >>= _) _ _ s
  refine wpAny_bind (wpAny_field a1 a3 (x := .ref t) rfl ?_)
  show wpAny _ _ (if (Value.ref t == Value.none) = true then _ else _) _ _ s
  rw [if_neg (show ¬ ((Value.ref t == Value.none) = true) from Bool.false_ne_true)]
  show wpAny _ _ (field (.ref it) 1 >>= _) _ _ s
  refine wpAny_bind (wpAny_field a1 a3 (x := .int i 0) rfl ?_)
  show wpAny _ _ (seqItems? (.ref t) >>= _) _ _ s
  refine wpAny_bind (wpAny_seqItems b1 b3 ?_)
  simp only [Int.toNat_natCast, hx]
  refine wpAny_bind (wpAny_rule (wpAny_bind (wpAny_setField a1 a3 (by simp) ?_)))
  have sb : Heap.SameBut it s.heap (s.heap.update it (Obj.mapFields (·.setIfInBounds 0 Value.none))) := Heap.SameBut.update ..
  refine stop_hot ⟨hh, o1, v1, (sb.2 x1 hx1).trans g1, d1, c1⟩ fun h' e k tt => ?_
  refine wpAny_bind (wpAny_isInstance (T := "StopIteration") (b := true) tt isSubtype_stop ?_)
  exact wpAny_pure (hQ _ fun b o hb z => k b o ((sb.2 b hb).trans z))
/-- a, b, .. = a tuple -/
theorem assign_hot {env : Env} {elts : List Expr} {k1 : Nat} {pos : Pos} {t x1 : Addr} {items : Array Value} {Q : Unit → Shared → Prop} (hot : HotAt A x1 s.heap) (ht : IsTup s.heap t items) (hn : (assignEach elts env).length = items.size) (hstar : (assignEach elts env).findIdx? (·.1) = none)
    (h : ∀ h', Heap.ExtBut s.heap.objs.size s.heap h' → wpAny (model prog w) A (assignInOrder ((assignEach elts env).map (·.2)) items.toList) Q E { s with heap := h' }) : wpAny (model prog w) A (assign (.Tuple elts k1 pos) env (.ref t)) Q E s := by
  have away : t ≠ s.heap.objs.size := by
    obtain ⟨o, ho, _⟩ := ht
    exact Nat.ne_of_lt (Heap.lt_size ho)
  obtain ⟨hh, o1, v1, g1, d1, c1⟩ := hot
  have lt1 : x1 ≠ s.heap.objs.size := Nat.ne_of_lt (Heap.lt_size g1)
  rw [assign_Tuple]
  refine wpAny_bind (wpAny_standAt ?_)
  unfold unpack
  rw [hn, hstar]
  refine wpAny_bind (wpAny_holding ?_)
  unfold unpackItems
  refine wpAny_bind ?_
  unfold notIterableAtAll
  refine wpAny_bind (wpAny_specialOf ht.typeIs slot_tuple_iter.lookup ?_)
  refine wpAny_pure ?_
  simp only [Bool.false_eq_true, if_false]
  refine wpAny_bind (wpAny_holding (iter_tuple ht ?_))
  refine wpAny_bind (wpAny_holding (draw_tuple away items.size 0 _ _ ⟨_, Heap.get?_push_size _ rfl, rfl, rfl⟩ (ht.push _) (by omega) fun h1 it1 sb1 => ?_))
  have all_ : List.take items.size (List.drop 0 items.toList) = items.toList := by
    rw [List.drop_zero]; exact List.take_of_length_le (by simp)
  rw [all_]
  rw [if_neg (by simp)]
  have ht1 : IsTup h1 t items := (ht.push _).extBut sb1.extBut away
  refine wpAny_bind (wpAny_holding (tup_end_hot ⟨hh, o1, v1, (sb1.2 x1 lt1).trans (Heap.get?_push_of_some _ g1), d1, c1⟩ lt1 it1 ht1 (by simp) fun h2 e2 => ?_))
  simp only [Option.isSome_none, Bool.false_eq_true, if_false]
  exact wpAny_pure (h h2 fun b o hb z => e2 b o hb (sb1.extBut b o hb (Heap.get?_push_of_some _ z)))
end
end HotY
set_option maxRecDepth 100000
set_option maxHeartbeats 4000000
namespace FX
open PySem PySem.Spec PySem.Calls PyProof.Rows L2 HotX
variable [LamT]
/-! ### comprehensions while an exception is handled -/
theorem hot_suite {X : Cx} {a : Addr} {oe : Obj} {cls : Value} {dd : Option Addr} {pn : List (Addr × Obj)} (zo : L2N.Zn cls dd oe) (fo : ∃ vs, oe.data = .fields vs) : L2H.HotC (X.suite a ((a, oe) :: pn)) := by
  obtain ⟨vs, q⟩ := fo
  exact ⟨(a, oe), ⟨rfl, vs, q, zo.2.2 vs q⟩, List.mem_cons_self⟩
theorem hot_apart {X : Cx} {pins : List (Addr × Obj)} {σ : L2.St} {H : Hp} {s : Shared} {b : Addr} (c : L2H.HotC X) (I : Inv X pins σ H s) (hb : FpOk X pins H b) : ∃ x1, HotAt X.A x1 s.heap ∧ x1 ≠ b := by
  obtain ⟨p, ⟨hh, v1, e1, c1⟩, hp⟩ := c
  have z := List.mem_append_left pins hp
  exact ⟨p.1, ⟨hh, p.2, v1, (I.pin p z).1, e1, c1⟩, hb.2.2.2.2.2 p z⟩
/-- (a, b, ..) = a tuple -/
theorem pg_tupH {X : Cx} {es : List Expr} {k n : Nat} {pos : Pos} {t : TGs} (hot : L2H.HotC X) (h : PGs X es t) (hn : (assignEach es X.env).length = n := by rfl) (hst : (assignEach es X.env).findIdx? (·.1) = none := by rfl) : PG X (.Tuple es k pos) (gTup X.K n t) := by
  refine ⟨fun pins s σ H v u Q I r hw => ?_⟩
  obtain ⟨a, xs, rfl, sq, len, hw⟩ := hw
  cases r
  obtain ⟨its, rv, ht, hz⟩ := I.tuple sq
  obtain ⟨x1, hx⟩ := hot.at I
  refine HotY.assign_hot hx ht (by simp [hn, ← len, rv.length]) hst fun h' z => ?_
  have I1 : Inv X pins σ H { s with heap := h' } := I.kept (t' := s.toks) fun b o e => z b o (Nat.ne_of_lt (Heap.lt_size e)) e
  exact h.run pins _ σ H xs _ Q I1 (by simpa using rv) hw
theorem fg_tupH {X : Cx} {W : Wsh} {es : List Expr} {pos : Pos} {k : Nat} {ts : List Tg} (hot : L2H.HotC X) (h : PGs X es (gFs X.K W ts)) (hl : es.length = ts.length := by rfl) (hn : (assignEach es X.env).length = es.length := by rfl) (hst : (assignEach es X.env).findIdx? (·.1) = none := by rfl) : PG X (.Tuple es k pos) (gF X.K W (.tt ts)) := by
  refine pg_imp (pg_tupH hot h hn hst) fun v σ H Q ⟨ρ, σf, y, σf', h, rs, rh, r, e, go⟩ => ?_
  cases r with
  | tup sq rw_ =>
    simp only [setT] at e
    exact ⟨_, _, rfl, sq, by rw [rw_.len', setTs_len e, hl], ρ, σf, _, σf', h, rs, rh, rw_, e, fun σ2 rs2 b2 => go σ2 rs2 (by simp only [Tg.slots]; exact b2)⟩
  | _ => simp [setT] at e
/-- a walk over a list -/
theorem turn_hot {P : Program} {w : World} {K : PySem.W.Frag} {tg : Expr} (a it : Addr) : L2H.TurnH P w K tg (Itl K a) [it] it (fun i h => h.IsListIter it a i) where
  mem := by simp
  obj := fun i h st b hb => by
    have e : b = it := by simpa using hb
    subst e
    obtain ⟨o, z, c, d⟩ := st
    exact ⟨o, z, fun v y => by rw [d] at y; cases y⟩
  keep := fun i h h' st k => st.at fun o z => k it (by simp) o z
  item := by
    intro X hP hw hK hot i pins s σ H E I hf st hg
    subst hP hw hK
    obtain ⟨xs, x, sq, hx⟩ := hg
    obtain ⟨its, rv, pl, hz⟩ := I.list sq
    obtain ⟨u, hu, ru⟩ := rv.get hx
    obtain ⟨f0, f1, f2, f3, f4, f5⟩ := hf it (by simp)
    refine wpAny_pyNext_list_item st pl.isList (x := u) (by simpa using hu) fun h' st' sb => ?_
    have I1 : Inv X pins σ H { s with heap := h' } := I.turned (t' := s.toks) (fun b o hb z => (sb.2 b hb).trans z) f0 f1 f3 f4 f5
    obtain ⟨o, z, c, d⟩ := id st'
    exact ⟨u, rfl, go_of (s := { s with heap := h' }) z c d (by decide) ⟨x, H, I1, ru, ⟨rfl, fun ys hy => by rw [I.list_inj hy sq]; exact hx⟩, st', fun b hb => (hf b hb).1⟩⟩
  done := by
    intro X hP hw hK hot i pins s σ H E I hf st hg
    subst hP hw hK
    obtain ⟨xs, sq, hx⟩ := hg
    obtain ⟨its, rv, pl, hz⟩ := I.list sq
    have fp := hf it (by simp)
    obtain ⟨x1, h1, ne⟩ := hot_apart hot I fp
    obtain ⟨f0, f1, f2, f3, f4, f5⟩ := fp
    have hl := rv.length
    exact HotY.list_end_hot h1 ne st pl.isList (by simp; omega) fun h' eb => ⟨rfl, I.turned (t' := s.toks) (fun b o hb z => eb b o hb z) f0 f1 f3 f4 f5⟩
  self := fun _ _ _ _ _ st h => wpAny_pyIter_listiter st h
theorem pi_hot {X : Cx} {tg l : Expr} {tl : TE} (hl : PE X l tl) : L2H.PIH X tg l (iList X.K tl) := by
  refine ⟨fun pins s σ H R I h => ?_⟩
  refine thn (hl.run pins s σ H _ I h) fun v s1 ⟨x, H1, I1, r1, a, ex, ⟨xs, sq⟩, q⟩ => ?_
  subst ex
  cases r1
  obtain ⟨its, rv, pl, hz⟩ := I1.list sq
  refine wpAny_pyIter_list pl.isList ⟨s1.heap.objs.size, [s1.heap.objs.size], _, _, H1, rfl, I1.kept (t' := s1.toks) fun b o z => Heap.get?_push_of_some _ z, turn_hot a _, ⟨_, Heap.get?_push_size _ rfl, rfl, rfl⟩, fun b hb => ?_, q⟩
  have e : b = s1.heap.objs.size := by simpa using hb
  subst e
  exact I1.fpOk (Nat.le_refl _) (I1.hok.fresh (Nat.le_refl _))
abbrev FIH (X : Cx) (W : Wsh) (tg e : Expr) (ei : EvI) : Prop := L2H.PIH X tg e (tG (RI X.K) X.K W ei)
def cItL (ea : EvE) : EvI := fun σ h => (ea σ h).bind fun x h1 => match x with
  | .ref n => (match lstF n h1 with
    | some _ => .ok (.own n) h1
    | none => .stuck)
  | _ => .stuck
theorem fi_hot {X : Cx} {W : Wsh} {tg e : Expr} {ea : EvE} (ha : FE X W e ea) : FIH X W tg e (cItL ea) := by
  refine ⟨fun pins s σ H R I ⟨ρ, σf, h, rs, rh, p⟩ => ?_⟩
  refine (pi_hot ha).run pins s σ H R I (coreE rs rh p fun ρ1 H1 h2 y u q1 e1 rs1 rh1 r1 p1 => ?_)
  cases y with
  | ref n =>
    cases r1 with
    | ref qn =>
      cases z : lstF n h2 with
      | none =>
        simp only [z] at p1
        exact p1.elim
      | some xs =>
        simp only [z] at p1
        obtain ⟨vs, sq, rw_⟩ := lstF_of rh1 qn z
        exact ⟨_, rfl, ⟨_, sq⟩, Post.ok_ (R := RI X.K) (x := Src.own n) p1 rh1 ⟨_, rfl, qn⟩⟩
  | _ => exact p1.elim
/-- a comprehension's block where p's exception is handled -/
abbrev blkH (X : Cx) (p : Addr × Obj) (s : Shared) (H : Hp) (scope : Scope) (cenv : Env) (fp : List Addr) : Cx := { X.blk s H scope cenv fp with pn := [p] }
section
variable {X : Cx} {pins : List (Addr × Obj)} {σ : L2.St} {H : Hp} {s : Shared}
theorem start_hot {scope : Scope} {own : List (Str × Nat)} {fp : List Addr} {p : Addr × Obj} (I : Inv X pins σ H s) (hp : p ∈ X.pn) (ok : BlkOk X.N X.env.scope scope own) (hN : X.N.Nodup) (hfp : ∀ b ∈ fp, FpOk X pins H b ∧ b < s.heap.objs.size) :
    Inv (blkH X p s H scope (compEnvC scope (cellsFrom (s.heap.objs.size + 1) scope.names (cloFrom X.env.cells scope.names [])) s.heap.objs.size X.env) fp) [] (wipe σ (own.map (·.2))) H { s with heap := pushCells (s.heap.push { cls := .type "dict", data := .dict #[] }) scope.names } := by
  have B := block_start I ok hN hfp
  have P := I.pin p (List.mem_append_left _ hp)
  have k : ∀ b o, s.heap.get? b = some o → (pushCells (s.heap.push { cls := .type "dict", data := .dict #[] }) scope.names).get? b = some o := fun b o z => pushCells_keeps _ _ _ _ (Heap.get?_push_of_some _ z)
  refine ⟨⟨B.ok.mod, B.ok.kind, B.ok.glob, B.ok.blt, B.ok.above, B.ok.inj, B.ok.has, B.ok.cab, B.ok.hd, B.ok.frames, B.ok.stk, B.ok.exf, B.ok.bs, B.ok.bsz, B.ok.noex, B.ok.exfs, B.ok.funs, B.ok.frf⟩, B.os, B.bare, B.base, B.loc, B.cell, B.free, B.freeC, fun q hq => ?_, B.hok, B.len⟩
  have e : q = p := by simpa using (show q ∈ [p] ++ ([] : List (Addr × Obj)) from hq)
  rw [e]
  refine ⟨k _ _ P.1, P.2.1, Nat.ne_of_lt (Heap.lt_size P.1), fun hm => ?_, P.2.2.2.2⟩
  exact (List.mem_cons.mp (I.stkSub p.1 hm)).elim P.2.2.1 P.2.2.2.1
theorem pe_lcH {elt tg iter : Expr} {ifs : List Expr} {scope : Scope} {own : List (Str × Nat)} {pos : Pos} {wi : TI} {g : TG} {tt : TT} {te : TE} (hot : L2H.HotC X) (hN : X.N.Nodup) (hi : L2H.PIH X tg iter wi) (ok : BlkOk X.N X.env.scope scope own)
    (hg : ∀ (p : Addr × Obj) (s : Shared) (H : Hp) (C : Addr) (cl : List (Str × Addr)) (fp : List Addr), L2H.HotC (blkH X p s H scope (compEnvC scope cl C X.env) fp) → PG (blkH X p s H scope (compEnvC scope cl C X.env) fp) tg g)
    (ht : ∀ (p : Addr × Obj) (s : Shared) (H : Hp) (C : Addr) (cl : List (Str × Addr)) (fp : List Addr), PTs (blkH X p s H scope (compEnvC scope cl C X.env) fp) ifs tt)
    (he : ∀ (p : Addr × Obj) (s : Shared) (H : Hp) (C : Addr) (cl : List (Str × Addr)) (fp : List Addr), PE (blkH X p s H scope (compEnvC scope cl C X.env) fp) elt te) (hs : ∀ x, foldedSetIterable iter X.env x = pure x := by intro _; rfl) :
    PE X (.ListComp elt [⟨tg, iter, ifs, 0⟩] scope pos) (tLc wi g tt te (own.map (·.2))) := by
  refine ⟨fun pins s σ H Q I h => ?_⟩
  obtain ⟨p, h1p, hpp⟩ := hot
  rw [eval_ListComp]
  have caps : ∀ y ∈ scope.names, y.2 = .free → ∃ c, X.env.cells.lookup y.1 = some c := fun y hy e => by
    rcases ok.free y hy e with k | k
    · exact I.ok.has _ (.inl k)
    · exact I.ok.has _ (.inr k)
  refine wpAny_comprehension_free (use := none) rfl hs (closure_ok caps) ok.kind (fun y hy e => by rw [ok.uniq y hy, e]) (thn (hi.run pins s σ H _ I h) fun xv s1 hx => thn hx fun itv s2 h2 => ?_)
  obtain ⟨it, fp, tn, J, H2, rfl, I2, T, st2, f2, q⟩ := h2
  refine wpAny_newObj_type (newEnv_comp ?_) (by show 0 ≤ sizeLine; decide)
  generalize hD : s2.heap.objs.size = D
  have nD : H2 D = none := I2.hok.fresh (Nat.le_of_eq hD)
  obtain ⟨W, ⟨m0, w0⟩, turn⟩ := q D nD
  generalize es3 : ({ s2 with heap := s2.heap.push { cls := .type "list", data := .seq ([] : List Value).toArray } } : Shared) = s3
  have I3 : Inv X pins σ (upd H2 D (.lst [])) s3 := by
    rw [← es3]
    refine I2.laid (t' := s2.toks) (fun b o z => Heap.get?_push_of_some _ z) (Nat.le_of_eq hD) ⟨Nat.zero_le _, [], 0, .nil, ?_⟩
    rw [← hD]
    exact Heap.get?_push_size _ rfl
  have eh3 : s3.heap = s2.heap.push { cls := .type "list", data := .seq ([] : List Value).toArray } := by rw [← es3]
  have f3 : ∀ b ∈ fp, FpOk X pins (upd H2 D (.lst [])) b ∧ b < s3.heap.objs.size := fun b hb => by
    obtain ⟨o, z, _⟩ := T.obj _ _ st2 b hb
    have lt := Heap.lt_size z
    refine ⟨⟨?_, (f2 b hb).2⟩, by rw [eh3, Heap.size_push]; exact Nat.lt_succ_of_lt lt⟩
    rw [upd_ne (by rw [← hD]; exact Nat.ne_of_lt lt)]
    exact (f2 b hb).1
  have st3 : tn 0 s3.heap := T.keep _ _ _ st2 fun b _ o z => by rw [eh3]; exact Heap.get?_push_of_some _ z
  have I4 := start_hot I3 hpp ok hN f3
  have hotB : ∀ (ce : Env), L2H.HotC (blkH X p s3 (upd H2 D (.lst [])) scope ce fp) := fun ce => ⟨p, h1p, List.mem_singleton.mpr rfl⟩
  have pg := hg p s3 (upd H2 D (.lst [])) s3.heap.objs.size (cellsFrom (s3.heap.objs.size + 1) scope.names (cloFrom X.env.cells scope.names [])) fp (hotB _)
  have pt := ht p s3 (upd H2 D (.lst [])) s3.heap.objs.size (cellsFrom (s3.heap.objs.size + 1) scope.names (cloFrom X.env.cells scope.names [])) fp
  have pe := he p s3 (upd H2 D (.lst [])) s3.heap.objs.size (cellsFrom (s3.heap.objs.size + 1) scope.names (cloFrom X.env.cells scope.names [])) fp
  show codeAny _ _ (.compStart (.ListComp elt [⟨tg, iter, ifs, 0⟩] scope pos) 0 (.ref it) (.ref D) (compEnvC scope (cellsFrom (s3.heap.objs.size + 1) scope.names (cloFrom X.env.cells scope.names [])) s3.heap.objs.size X.env)) (compPost (model X.prog X.w) X.A X.xe none (EP X pins σ Q) (.ref D) s3.heap.objs.size) { s3 with heap := pushCells (s3.heap.push { cls := .type "dict", data := .dict #[] }) scope.names }
  have nfp : ∀ b ∈ fp, (upd H2 D (.lst [])) b = none := fun b hb => (f3 b hb).1.1
  generalize ece : compEnvC scope (cellsFrom (s3.heap.objs.size + 1) scope.names (cloFrom X.env.cells scope.names [])) s3.heap.objs.size X.env = ce at I4 pg pt pe ⊢
  have cL : ce.locals = s3.heap.objs.size := by subst ece; rfl
  generalize eH3 : upd H2 D (.lst []) = H3 at I3 I4 pg pt pe w0 nfp f3 hotB
  generalize es4 : ({ s3 with heap := pushCells (s3.heap.push { cls := .type "dict", data := .dict #[] }) scope.names } : Shared) = s4 at I4 ⊢
  have st4 : tn 0 s4.heap := T.keep _ _ _ st3 fun b _ o z => by rw [← es4]; exact pushCells_keeps _ _ _ _ (Heap.get?_push_of_some _ z)
  have p3 : s3.heap.get? p.1 = some p.2 := (I3.pin p (List.mem_append_left _ hpp)).1
  have stat : ∀ {τ : L2.St} {H' : Hp} {s' : Shared}, Inv (blkH X p s3 H3 scope ce fp) [] τ H' s' → (∀ b ∈ fp, H' b = none) → ∀ b ∈ fp, FpOk (blkH X p s3 H3 scope ce fp) [] H' b := fun {τ H' s'} I' hn b hb =>
    ⟨hn b hb, (I'.ok.exf b hb).1, I'.ok.exfs b hb, .inl hb, fun x c z => (I'.ok.exf b hb).2 x c z, fun q hq => by
      have e : q = p := by simpa using (show q ∈ [p] ++ ([] : List (Addr × Obj)) from hq)
      rw [e]
      exact (f3 b hb).1.2.2.2.2.2 p (List.mem_append_left _ hpp)⟩
  have loop : codeAny (model X.prog X.w) X.A (.compLoop (.ListComp elt [⟨tg, iter, ifs, 0⟩] scope pos) 0 (.ref it) (.ref D) ce) (compPost (model X.prog X.w) X.A X.xe none (EP X pins σ Q) (.ref D) s3.heap.objs.size) s4 := by
    refine compLoop_any (fun n s' => ∃ i H', Inv (blkH X p s3 H3 scope ce fp) [] (wipe σ (own.map (·.2))) H' s' ∧ tn i s'.heap ∧ (∀ b ∈ fp, H' b = none) ∧ W i n H') ?_ m0 ⟨0, H3, I4, st4, nfp, w0⟩
    rintro n s5 ⟨i, H5, I5, st5, n5, w5⟩
    rcases turn i n H5 w5 with ⟨stop, qq⟩ | ⟨go, Nx, hNx, step⟩
    · refine thnF (T.done (blkH X p s3 H3 scope ce fp) rfl rfl rfl (hotB ce) i [] s5 _ H5 (fun _ _ => False) I5 (stat I5 n5) st5 stop) fun r s6 ⟨hr, I6⟩ => ?_
      subst hr
      have I7 : Inv X pins σ H5 s6 := I3.call' (ch := fp) I6.os I6.base I6.hok I6.bare fun b hb => ⟨(f3 b hb).1.2.2.2.1, (f3 b hb).1.2.1, (f3 b hb).1.2.2.2.2.1, (f3 b hb).1.2.2.2.2.2⟩
      have nC : H5 s3.heap.objs.size = none := by
        have z : H5 ce.locals = none := I6.free
        rw [cL] at z
        exact z
      obtain ⟨m, hn, _⟩ := I6.loc
      have hn : s6.heap.Ns ce.locals m := hn
      rw [cL] at hn
      obtain ⟨g0, g1, g2, g3, g4, g5⟩ := I3.fpOk (Nat.le_refl _) nC
      exact ⟨m, hn, fun h'' sb => ⟨.ref D, H5, I7.turned (t' := s6.toks) (fun b o hb z => (sb.2 b hb).trans z) g0 g1 g3 g4 g5, rfl, qq⟩⟩
    · refine thnF (T.item (blkH X p s3 H3 scope ce fp) rfl rfl rfl (hotB ce) i [] s5 _ H5 (fun _ _ => False) I5 (stat I5 n5) st5 go) fun r s6 ⟨u, hr, h6⟩ => ?_
      subst hr
      refine thnF h6 fun _ s7 ⟨x, H7, I7, r7, y7, st7, n7⟩ => ?_
      have I7' := I7.pinned (stat I7 n7) (T.obj _ _ st7)
      refine thnF (pg.run _ s7 _ H7 x u _ I7' r7 (step x H7 y7)) fun _ s8 ⟨σ8, H8, I8, hw8, q8⟩ => ?_
      refine thnF (pt.run _ s8 σ8 H8 _ I8 q8) fun b s9 ⟨H9, I9, q9⟩ => ?_
      have fin : ∀ {s' : Shared} {H' : Hp}, Inv (blkH X p s3 H3 scope ce fp) ([] ++ pinsAt fp s7.heap) σ8 H' s' → Nx H' → ∃ m, m < n ∧ ∃ i H', Inv (blkH X p s3 H3 scope ce fp) [] (wipe σ (own.map (·.2))) H' s' ∧ tn i s'.heap ∧ (∀ b ∈ fp, H' b = none) ∧ W i m H' := fun {s' H'} I' nx => by
        obtain ⟨m', hm, w'⟩ := hNx H' nx
        have at7 : ∀ b ∈ fp, ∀ o, s7.heap.get? b = some o → s'.heap.get? b = some o ∧ H' b = none := fun b hb o z =>
          let y := I'.pin (b, o) (List.mem_append_right _ (List.mem_append_right _ (mem_pinsAt hb z)))
          ⟨y.1, y.2.1⟩
        have hl : (wipe σ (own.map (·.2))).length = σ8.length := by rw [← hw8, wipe_length]
        refine ⟨m', hm, i + 1, H', (I'.unpinned (pins := [])).weak hl (fun j v e => ?_), T.keep _ _ _ st7 fun b hb o z => (at7 b hb o z).1, fun b hb => ?_, w'⟩
        · rw [← hw8] at e
          exact (wipe_some e).1
        · obtain ⟨o, z, _⟩ := T.obj _ _ st7 b hb
          exact (at7 b hb o z).2
      cases b with
      | false =>
        simp only [Bool.false_eq_true, if_false] at q9 ⊢
        exact fin I9 q9
      | true =>
        simp only [if_true] at q9 ⊢
        refine thnF (pe.run _ s9 σ8 H9 _ I9 q9) fun z s10 ⟨yv, H10, I10, r10, acc, hD10, hz10, nx⟩ => ?_
        exact app_ok (X := blkH X p s3 H3 scope ce fp) I10 hD10 hz10 r10 fun s11 I11 => fin I11 nx
  exact codeAny_compStart_list loop (T.self X.A 0 _ _ _ st4 loop)
end
theorem fe_lcH {X : Cx} {W : Wsh} {a tg e : Expr} {pos : Pos} {ei : EvI} {t : Tg} {own : List (Str × Nat)} {ifs : List Expr} {scope : Scope} {tt : EvT} {te : EvE} (hot : L2H.HotC X) (hN : X.N.Nodup) (hi : FIH X W tg e ei) (hB : blkC X.N X.env.scope scope own = true) (hsub : ∀ i ∈ t.slots, i ∈ own.map (·.2))
    (hg : ∀ (p : Addr × Obj) (s : Shared) (H : Hp) (C : Addr) (cl : List (Str × Addr)) (fp : List Addr), L2H.HotC (blkH X p s H scope (compEnvC scope cl C X.env) fp) → PG (blkH X p s H scope (compEnvC scope cl C X.env) fp) tg (gF X.K W t))
    (ht : ∀ (p : Addr × Obj) (s : Shared) (H : Hp) (C : Addr) (cl : List (Str × Addr)) (fp : List Addr), PTs (blkH X p s H scope (compEnvC scope cl C X.env) fp) ifs (tG RB X.K W.nox tt))
    (he : ∀ (p : Addr × Obj) (s : Shared) (H : Hp) (C : Addr) (cl : List (Str × Addr)) (fp : List Addr), PE (blkH X p s H scope (compEnvC scope cl C X.env) fp) a (tG (RV X.K) X.K W.nox te)) (hs : ∀ x, foldedSetIterable e X.env x = pure x := by intro _; rfl) :
    FE X W (.ListComp a [⟨tg, e, ifs, 0⟩] scope pos) (cLc ei t (own.map (·.2)) tt te) := pe_imp (pe_lcH hot hN hi (blkOk_by hB) hg ht he hs) fun _ _ _ h => tLc_of hsub h
end FX
set_option maxRecDepth 100000
set_option maxHeartbeats 4000000
namespace FX
open PySem PySem.Spec PySem.Calls PyProof.Rows L2
variable [LamT]
/-! ### what the head has to say of exception classes -/
def oexB (K : PySem.W.Frag) (C : Addr) : Bool := (match K.lookup C with
  | some ⟨.type t, _, .cls cd, sl⟩ => decide (t = "type") && (match cd.mro, sl.toList with
    | .ref D :: bm, [_, _, _, _, some (.builtin n), _] => (decide (D = C) && decide (n = "ValueError.__new__")) && ((!cd.hasDel && cd.hasDict) && PySem.HandSPX.refsVE bm)
    | _, _ => false)
  | _ => false) && ((decide (PySem.W.findIn K (.ref C) "__setattr__" = some (some (.builtin "object.__setattr__"))) && decide (PySem.W.subIn K (.ref C) (.type "BaseException") = some true)) && (decide (PySem.W.typeIn K (.ref C) = some (.type "type")) && PySem.W.keepIn K (.ref C)))
theorem two_b {a b : Bool} (h : (a && b) = true) : a = true ∧ b = true := Bool.and_eq_true_iff.mp h
theorem oexB_ok {K : PySem.W.Frag} {C : Addr} (h : oexB K C = true) : OexC K C := by
  obtain ⟨h1, h2⟩ := two_b h
  obtain ⟨h3, h4⟩ := two_b h2
  obtain ⟨h5, h6⟩ := two_b h3
  obtain ⟨h7, h8⟩ := two_b h4
  refine ⟨?_, of_decide_eq_true h5, of_decide_eq_true h6, of_decide_eq_true h7, h8⟩
  split at h1
  · rename_i t od cd sl q
    obtain ⟨z1, z2⟩ := two_b h1
    split at z2
    · rename_i D bm k0 k1 k2 k3 n k5 em es
      obtain ⟨z3, z4⟩ := two_b z2
      obtain ⟨z5, z6⟩ := two_b z4
      obtain ⟨y1, y2⟩ := two_b z3
      obtain ⟨y3, y4⟩ := two_b z5
      obtain ⟨nm, bs, mro, ns, qn, hd, sn, sub, ab, col, del⟩ := cd
      dsimp only at em y3 y4
      have e1 := of_decide_eq_true z1
      have e2 := of_decide_eq_true y1
      have e3 := of_decide_eq_true y2
      have e4 : del = false := by cases del with
        | false => rfl
        | true => cases y3
      subst e1 e2 e3 e4 em y4
      have e5 : sl = #[k0, k1, k2, k3, some (.builtin "ValueError.__new__"), k5] := by
        obtain ⟨l⟩ := sl
        dsimp only at es
        rw [es]
      subst e5
      exact ⟨nm, qn, ns, bs, bm, sn, sub, ab, col, od, k0, k1, k2, k3, k5, q, z6⟩
    · cases z2
  · cases h1
def excB (K : PySem.W.Frag) (D : Addr) : Bool := (decide (PySem.W.findIn K (.ref D) "__getattribute__" = some (some (.builtin "BaseException.__getattribute__"))) && decide (PySem.W.findIn K (.ref D) "__getattr__" = some none)) && ((decide (PySem.W.subIn K (.ref D) (.type "BaseException") = some true) && PySem.W.hasDictIn K D) &&
  ((decide (PySem.W.findIn K (.ref D) "__class__" = some (some (.builtin "object.__class__"))) && decide (PySem.W.specialIn K (.builtin "object.__class__") "__get__" = some (some (.builtin "getset_descriptor.__get__")))) && (decide (PySem.W.takesIn K (.builtin "object.__class__") = some true) && decide (PySem.W.mroIn K D (.type "object") = some true))))
theorem excB_ok {K : PySem.W.Frag} {D : Addr} (h : excB K D = true) : ExcC K D ∧ XfC K D := by
  obtain ⟨h1, h2⟩ := two_b h
  obtain ⟨a1, a2⟩ := two_b h1
  obtain ⟨h3, h4⟩ := two_b h2
  obtain ⟨a3, a4⟩ := two_b h3
  obtain ⟨h5, h6⟩ := two_b h4
  obtain ⟨a5, a6⟩ := two_b h5
  obtain ⟨a7, a8⟩ := two_b h6
  exact ⟨⟨of_decide_eq_true a1, of_decide_eq_true a2, of_decide_eq_true a3, a4, of_decide_eq_true a5, of_decide_eq_true a6, of_decide_eq_true a7, of_decide_eq_true a8⟩, ⟨of_decide_eq_true a1, of_decide_eq_true a2, of_decide_eq_true a3, a4⟩⟩
def xfsB (L : List Nat) (K : PySem.W.Frag) : Bool := L.all fun c => L.all fun m => decide (PySem.W.exmOne K (.ref (xA K c)) (.ref (xA K m)) = some (decide (c = m)))
theorem xfsB_ok {K : PySem.W.Frag} {L : List Nat} (h : xfsB L K = true) : XFs K L := ⟨fun c hc m hm => of_decide_eq_true (List.all_eq_true.mp (List.all_eq_true.mp h c hc) m hm)⟩
def xsuB (L : List Nat) (FL : List Str) (K : PySem.W.Frag) : Bool := (L.all fun c => L.all fun m => decide (PySem.W.kitOne K (.ref (xA K c)) (.ref (xA K m)) = some (decide (c = m)))) && ((L.all fun c => excB K (xA K c)) && L.all fun c => FL.all fun f => decide (PySem.W.findIn K (.ref (xA K c)) f = some none))
theorem xsuB_ok {K : PySem.W.Frag} {L : List Nat} {FL : List Str} (h : xsuB L FL K = true) : XSu K L FL := by
  obtain ⟨h1, h2⟩ := two_b h
  obtain ⟨h3, h4⟩ := two_b h2
  exact ⟨fun c hc m hm => of_decide_eq_true (List.all_eq_true.mp (List.all_eq_true.mp h1 c hc) m hm), fun c hc => (excB_ok (List.all_eq_true.mp h3 c hc)).1, fun c hc => (excB_ok (List.all_eq_true.mp h3 c hc)).2, fun c hc f hf => of_decide_eq_true (List.all_eq_true.mp (List.all_eq_true.mp h4 c hc) f hf)⟩
/-! ### an __init__ that keeps one or two values -/
section
variable {P : Program} {w : World} {K : PySem.W.Frag} {mg : Str → Option Value} {base : Heap} {N ps : List Str} {x qual : Str} {params : Arguments} {body : List Stmt} {scope : Scope} {f C : Addr} {fd : FuncData} {m f1 f2 : Str}
theorem ini_one (F : FunD K x qual params body scope [] [] f fd) (S : FnScope N ps scope) (hN : N.length = 2) (hps : ps.length = 2) (T : OexC K C) (n1 : PySem.W.findIn K (.ref C) f1 = some none)
    (hb : ∀ (cdv : Value) (A : Around) (outer : List Env) (s : Shared) (H : Hp) (E : XK), PSs (cxOf (L2.CX P w) P w K mg base N qual scope f cdv A outer s H E) body (tSeq (tBI K m) (tOst K f1 (tVar 0) (tVar 1)))) : FnOk P w K mg base (L2.CX P w) 1 f fd ps (spX C [f1]) := by
  refine F.ok (k := 0) S (fun vs H Q E ⟨a, ys, ev, hl, _⟩ => by rw [ev, List.length_cons, hl, hps]; rfl) fun cdv A outer s H vs Q E hr ⟨a, ys, ev, hl, ha, hq⟩ => ⟨_, hb cdv A outer s H E, ?_⟩
  match ys, hl with
  | [y], _ =>
    rw [ev]
    exact init_one T n1 hN ha fun dx nd ne => hq dx nd ne
theorem ini_two (F : FunD K x qual params body scope [] [] f fd) (S : FnScope N ps scope) (hN : N.length = 3) (hps : ps.length = 3) (T : OexC K C) (n1 : PySem.W.findIn K (.ref C) f1 = some none) (n2 : PySem.W.findIn K (.ref C) f2 = some none)
    (hb : ∀ (cdv : Value) (A : Around) (outer : List Env) (s : Shared) (H : Hp) (E : XK), PSs (cxOf (L2.CX P w) P w K mg base N qual scope f cdv A outer s H E) body (tSeq (tBI K m) (tSeq (tOst K f1 (tVar 0) (tVar 1)) (tOst K f2 (tVar 0) (tVar 2))))) : FnOk P w K mg base (L2.CX P w) 1 f fd ps (spX C [f1, f2]) := by
  refine F.ok (k := 0) S (fun vs H Q E ⟨a, ys, ev, hl, _⟩ => by rw [ev, List.length_cons, hl, hps]; rfl) fun cdv A outer s H vs Q E hr ⟨a, ys, ev, hl, ha, hq⟩ => ⟨_, hb cdv A outer s H E, ?_⟩
  match ys, hl with
  | [y, z], _ =>
    rw [ev]
    exact init_two T n1 n2 hN ha fun dx nd ne => hq dx nd ne
end
end FX
set_option maxRecDepth 100000
set_option maxHeartbeats 4000000
/-! ### a tuple, turned round -/
namespace HotY
open PySem PySem.Spec PyProof.Rows HT
section
variable {prog : Program} {w : World} {A : Around} {E : Value → Shared → Prop} {s : Shared}
theorem back_adjust (n : Nat) : Builtin.Slice.sliceAdjust none none (-1) (n : Int) = ((n : Int) - 1, -1) := rfl
theorem back_places (n : Nat) : Builtin.Slice.slicePlaces ((n : Int) - 1) (-1) (-1) = n := by
  unfold Builtin.Slice.slicePlaces
  rw [if_neg (by decide)]
  by_cases z : n = 0
  · subst z; rfl
  · rw [if_pos (by omega)]
    have e : ((n : Int) - 1 - -1 - 1) / -(-1) + 1 = n := by
      rw [show -(-1 : Int) = 1 by rfl, Int.ediv_one]
      omega
    rw [e, Int.toNat_natCast]
theorem filter_same {α β : Type} {f g : α → Option β} : ∀ {l : List α}, (∀ x ∈ l, f x = g x) → l.filterMap f = l.filterMap g
  | [], _ => rfl
  | x :: l, h => by
    rw [List.filterMap_cons, List.filterMap_cons, h x List.mem_cons_self, filter_same fun y hy => h y (List.mem_cons_of_mem _ hy)]
theorem back_pick (xs : Array Value) : ((List.range xs.size).filterMap fun (k : Nat) => xs[((xs.size : Int) - 1 + (k : Int) * (-1)).toNat]?).toArray = xs.toList.reverse.toArray := by
  have e1 : ((List.range xs.size).filterMap fun (k : Nat) => xs[((xs.size : Int) - 1 + (k : Int) * (-1)).toNat]?) = (((List.range xs.size).map fun k => xs.size - 1 - k).filterMap (xs[·]?)) := by
    rw [List.filterMap_map]
    refine filter_same fun k hk => ?_
    have hk := List.mem_range.mp hk
    have e : ((xs.size : Int) - 1 + (k : Int) * (-1)).toNat = xs.size - 1 - k := by omega
    show xs[((xs.size : Int) - 1 + (k : Int) * (-1)).toNat]? = xs[xs.size - 1 - k]?
    rw [e]
  rw [e1, PySem.W.krv_range, List.filterMap_reverse, PySem.W.krv_all]
theorem getItem_tuple_back {t sl : Addr} {items : Array Value} {vs : Value} {Q : Value → Shared → Prop} (ht : IsTup s.heap t items) (hs : s.heap.IsSliceOf sl .none .none vs) (ps : IsPart vs (some (-1)))
    (h : Q (.ref s.heap.objs.size) { s with heap := s.heap.push { cls := .type "tuple", data := .seq items.toList.reverse.toArray } }) (hsz : items.size ≤ sizeLine) : wpAny (model prog w) A (getItem (.ref t) (.ref sl)) Q E s := by
  obtain ⟨os, o1, o2, o3⟩ := id hs
  have tS : s.TypeIs (.ref sl) "slice" := ⟨os, o1, o2⟩
  have fits : sizeOk (.seq items.toList.reverse.toArray) := by
    show items.toList.reverse.toArray.size ≤ sizeLine
    rw [List.size_toArray, List.length_reverse, Array.length_toList]
    exact hsz
  unfold getItem
  try with_reducible refine wpAny_holding ?_
  first | refine wpAny_bind (wpAny_pure ?_) | skip
  refine wpAny_bind (wpAny_sequenceKey ht.typeIs (by decide) ?_)
  refine wpAny_bind (wpAny_callSpecial?_slot (name := Str.ofString "__getitem__") ht.typeIs PyProof.Rows.slot_tuple_getitem (wpAny_call_entry PyProof.Rows.slot_tuple_getitem ht.typeIs entry_tuple_getitem ?_ (args_tuple_getitem _ _)))
  show wpAny _ _ (Builtin.Tuple.tupleItemsOf (.ref t) >>= _) _ _ s
  refine wpAny_bind (tupleItemsOf_ ht ?_)
  refine wpAny_bind (wpAny_typeOf tS ?_)
  rw [if_pos (by decide)]
  refine wpAny_bind (m := Builtin.Slice.sliceApplied (.ref sl) (pure (items.size : Int))) ?_
  unfold Builtin.Slice.sliceApplied Builtin.Slice.sliceFields
  refine wpAny_bind (wpAny_bind (wpAny_field o1 o3 (x := .none) rfl (wpAny_bind (wpAny_field o1 o3 (x := .none) rfl (wpAny_bind (wpAny_field o1 o3 (x := vs) rfl (wpAny_pure ?_)))))))
  refine wpAny_bind (slicePart_ ps ?_)
  show wpAny _ _ (if ((-1 : Int) == 0) = true then _ else _) _ _ s
  rw [if_neg (by decide)]
  refine wpAny_bind (slicePart_none (wpAny_bind (slicePart_none (wpAny_bind (wpAny_pure ?_)))))
  show wpAny _ _ (match Builtin.Slice.sliceAdjust none none (-1) (items.size : Int) with | (lo, hi) => pure (lo, (-1 : Int), Builtin.Slice.slicePlaces lo hi (-1))) _ _ s
  rw [back_adjust]
  show wpAny _ _ (pure ((items.size : Int) - 1, (-1 : Int), Builtin.Slice.slicePlaces ((items.size : Int) - 1) (-1) (-1))) _ _ s
  rw [back_places]
  refine wpAny_pure ?_
  have no : ¬ (((((items.size : Int) - 1) == 0) && ((-1 : Int) == 1)) && (items.size == items.size)) = true := by simp
  show wpAny _ _ (if ((((items.size : Int) - 1) == 0 && (-1 : Int) == 1 && items.size == items.size)) = true then _ else _) _ _ s
  rw [if_neg no, back_pick]
  first
    | exact wpAny_bind (m := Builtin.Tuple.tupleExact _) (wpAny_newObj_type (wpAny_pure ⟨_, rfl, wpAny_pure h⟩) fits)
    | exact wpAny_bind (m := Builtin.Tuple.tupleExact _) (wpAny_newObj_type (wpAny_bind (wpAny_pure (wpAny_pure ⟨_, rfl, wpAny_pure h⟩))) fits)
    | exact wpAny_bind (wpAny_bind (m := Builtin.Tuple.tupleExact _) (wpAny_newObj_type (wpAny_pure (wpAny_pure ⟨_, rfl, wpAny_pure h⟩)) fits))
    | exact wpAny_bind (wpAny_bind (m := Builtin.Tuple.tupleExact _) (wpAny_newObj_type (wpAny_pure ⟨_, rfl, wpAny_pure h⟩) fits))
end
end HotY
namespace FX
open PySem PySem.Spec PySem.Calls PyProof.Rows L2
variable [LamT]
/-- xs[::-1] of a tuple -/
def tBackT (K : PySem.W.Frag) (te : TE) : TE := fun σ H Q => te σ H fun x H1 => ∃ a xs, x = .ref a ∧ SqT K H1 a xs ∧ ∀ p, H1 p = none → Q (.ref p) (upd H1 p (.tup xs.reverse))
section
variable {X : Cx} {W : Wsh} {e : Expr} {te : TE} {ea : EvE} {k : Nat} {p1 p2 p3 pos : Pos}
theorem pe_backT (he : PE X e te) : PE X (.Subscript e (.Slice none none (some (.UnaryOp .USub (.Constant (.int 1) k p1) p2)) p3) pos) (tBackT X.K te) := by
  refine ⟨fun pins s σ H Q I h => ?_⟩
  refine Subscript_ (thn (he.run pins s σ H _ I h) fun v s1 ⟨x, H1, I1, r1, a, xs, ex, sq, q⟩ => ?_)
  subst ex
  cases r1
  have st : PO X (some (.UnaryOp .USub (.Constant (.int 1) k p1) p2)) (tPart (tUn (rU fun i => .int (-i)) (tC (.int 1)))) := po_some (pe_un un_neg pe_int)
  refine wpAny_Slice (thn (po_none.run pins s1 σ H1 (fun o H2 => o = none ∧ H2 = H1) I1 ⟨rfl, rfl⟩) fun vl s2 ⟨l, H2, I2, pl, el, e2⟩ => ?_)
  subst el e2
  refine thn (po_none.run pins s2 σ H2 (fun o H3 => o = none ∧ H3 = H2) I2 ⟨rfl, rfl⟩) fun vu s3 ⟨u, H3, I3, pu, eu, e3⟩ => ?_
  subst eu e3
  refine thn (st.run pins s3 σ H3 (fun o H4 => o = some (-1) ∧ H4 = H3) I3 ⟨1, rfl, -1, rfl, rfl, rfl⟩) fun vs s4 ⟨o, H4, I4, ps, eo, e4⟩ => ?_
  subst eo e4
  have I5 : Inv X pins σ H4 { s4 with heap := s4.heap.push { cls := .type "slice", data := .fields #[vl, vu, vs] } } := I4.kept (t' := s4.toks) fun b ob q => Heap.get?_push_of_some _ q
  obtain ⟨its, r, ht, hz⟩ := I5.tuple sq
  cases pl
  cases pu
  show wpAny (model X.prog X.w) X.A (subscriptTail e (.Slice none none (some (.UnaryOp .USub (.Constant (.int 1) k p1) p2)) p3) (.ref a) (.ref s4.heap.objs.size)) (EP X pins σ Q) X.xe { s4 with heap := s4.heap.push { cls := .type "slice", data := .fields #[.none, .none, vs] } }
  refine tail_any (ops := [.ref a, .ref s4.heap.objs.size]) ht.typeIs (PyProof.Rows.slot_tuple_getitem.lookup) ?_ (by with_unfolding_all rfl)
  have hlen := r.length
  refine HotY.getItem_tuple_back ht (Heap.IsSliceOf.new _ .none .none vs) ps ?_ (by rw [List.size_toArray]; omega)
  refine ⟨.ref _, _, I5.laid (t' := s4.toks) (o := .tup xs.reverse) (fun b ob q => Heap.get?_push_of_some _ q) (Nat.le_refl _) ?_, rfl, q _ (I5.hok.fresh (Nat.le_refl _))⟩
  exact ⟨by rw [List.length_reverse]; exact hz, its.reverse, r.reverse, IsTup.new _ _⟩
end
end FX
set_option maxRecDepth 100000
set_option maxHeartbeats 4000000
namespace FX
open PySem PySem.Spec PySem.Calls PyProof.Rows L2
variable [LamT]
/-! ### xs[::-1] -/
def revF (x : FV) (h : FH) : Option (FV × FH) := match x with
  | .tup xs => some (.tup xs.reverse, h)
  | .ref n => (match lstF n h with
    | some xs => some (.ref h.length, h ++ [.lst xs.reverse])
    | none => none)
  | _ => none
def cRev (ea : EvE) : EvE := fun σ h => (ea σ h).bind fun x h1 => Res.of (revF x h1)
section
variable {X : Cx} {W : Wsh} {e a : Expr} {es : List Expr} {ea : EvE} {er ek : EvA} {k : Nat} {p p1 p2 p3 pos : Pos} {x : Str}
theorem fe_rev (ha : FE X W e ea) : FE X W (.Subscript e (.Slice none none (some (.UnaryOp .USub (.Constant (.int 1) k p1) p2)) p3) pos) (cRev ea) := by
  refine ⟨fun pins s σ H Q I ⟨ρ, σf, h, rs, rh, pp⟩ => ?_⟩
  by_cases c : ∃ xs h1, ea σf h = .ok (.tup xs) h1
  · obtain ⟨xs, h1, c⟩ := c
    refine (pe_backT ha).run pins s σ H Q I (coreE rs rh pp fun ρ1 H1 h2 y u q1 e1 rs1 rh1 r1 p1 => ?_)
    rw [c] at q1
    cases q1
    cases r1 with
    | tup sq rw_ => exact ⟨_, _, rfl, sq, fun q hq => new_tup rh1 rw_.rev p1 q hq⟩
  · refine (pe_revL ha).run pins s σ H Q I (coreE rs rh pp fun ρ1 H1 h2 y u q1 e1 rs1 rh1 r1 p1 => ?_)
    cases r1 with
    | tup _ _ => exact absurd ⟨_, _, q1⟩ c
    | ref qn =>
      rename_i n a'
      cases z : lstF n h2 with
      | none =>
        simp only [revF, z] at p1
        exact p1.elim
      | some xs =>
        simp only [revF, z] at p1
        obtain ⟨vs, sq, rw_⟩ := lstF_of rh1 qn z
        exact ⟨_, _, rfl, sq, fun q hq => new_list rh1 rw_.rev p1 q hq⟩
    | _ => exact p1.elim
/-! ### all, any, sum of a list -/
def blsF : List FV → Option (List Bool)
  | [] => some []
  | .bl b :: r => (blsF r).map (b :: ·)
  | _ => none
def intsF : List FV → Option (List Int)
  | [] => some []
  | .int i :: r => (intsF r).map (i :: ·)
  | _ => none
theorem bls_of {K : PySem.W.Frag} {ρ : List Addr} {H : Hp} : ∀ {xs : List FV} {vs : List V} {bs : List Bool}, RVs K ρ H xs vs → blsF xs = some bs → vs = bs.map V.bl
  | [], _, bs, .nil, e => by cases e; rfl
  | x :: xs, _, bs, .cons r1 r2, e => by
    cases x with
    | bl b =>
      cases r1
      obtain ⟨cs, q, rfl⟩ := Option.map_eq_some_iff.mp (show (blsF xs).map (b :: ·) = some bs from e)
      rw [List.map_cons, ← bls_of r2 q]
    | _ => cases e
theorem ints_of {K : PySem.W.Frag} {ρ : List Addr} {H : Hp} : ∀ {xs : List FV} {vs : List V} {bs : List Int}, RVs K ρ H xs vs → intsF xs = some bs → vs = bs.map V.int
  | [], _, bs, .nil, e => by cases e; rfl
  | x :: xs, _, bs, .cons r1 r2, e => by
    cases x with
    | int b =>
      cases r1
      obtain ⟨cs, q, rfl⟩ := Option.map_eq_some_iff.mp (show (intsF xs).map (b :: ·) = some bs from e)
      rw [List.map_cons, ← ints_of r2 q]
    | _ => cases e
def foldB (f : List Bool → Bool) : OpN := fun xs h => match xs with
  | [.ref n] => (match lstF n h with
    | some ys => (match blsF ys with
      | some bs => some (.bl (f bs), h)
      | none => none)
    | none => none)
  | _ => none
def allF : OpN := foldB fun bs => bs.all id
def anyF : OpN := foldB fun bs => bs.any id
def sumF : OpN := fun xs h => match xs with
  | [.ref n] => (match lstF n h with
    | some ys => (match intsF ys with
      | some is => some (.int is.sum, h)
      | none => none)
    | none => none)
  | _ => none
theorem fold_of {K : PySem.W.Frag} {f : List Bool → Bool} {fs : List FV} {vs : List V} {ρ : List Addr} {h h' : FH} {H : Hp} {fz : FV} (rh : RH K ρ h H) (r : RVs K ρ H fs vs) (e : foldB f fs h = some (fz, h')) : ∃ (a : Addr) (bs : List Bool), vs = [V.ref a] ∧ SqL K H a (bs.map V.bl) ∧ fz = .bl (f bs) ∧ h' = h := by
  unfold foldB at e
  split at e
  · rename_i n
    split at e
    · rename_i ys q1
      split at e
      · rename_i bs q2
        cases e
        obtain ⟨v, rfl, r2⟩ := one_of r
        cases r2 with
        | ref qn =>
          obtain ⟨ws, sq, rw_⟩ := lstF_of rh qn q1
          rw [bls_of rw_ q2] at sq
          exact ⟨_, bs, rfl, sq, rfl, rfl⟩
      · cases e
    · cases e
  · cases e
theorem of_all (hc : X.calm = true) : CallR X (.builtin "all") (rC X.K allF) := by
  intro pins s σ H vs us Q I r ⟨ρ, fs, h, fz, h', r1, rh, e, go⟩
  obtain ⟨a, bs, ev, sq, rfl, rfl⟩ := fold_of rh r1 e
  exact cr_all hc pins s σ H vs us Q I r ⟨a, bs, ev, sq, go ρ H _ .refl rh (.bl _)⟩
theorem of_any (hc : X.calm = true) : CallR X (.builtin "any") (rC X.K anyF) := by
  intro pins s σ H vs us Q I r ⟨ρ, fs, h, fz, h', r1, rh, e, go⟩
  obtain ⟨a, bs, ev, sq, rfl, rfl⟩ := fold_of rh r1 e
  exact cr_any hc pins s σ H vs us Q I r ⟨a, bs, ev, sq, go ρ H _ .refl rh (.bl _)⟩
theorem of_sum (hc : X.calm = true) : CallR X (.builtin "sum") (rC X.K sumF) := by
  intro pins s σ H vs us Q I r ⟨ρ, fs, h, fz, h', r1, rh, e, go⟩
  unfold sumF at e
  split at e
  · rename_i n
    split at e
    · rename_i ys q1
      split at e
      · rename_i is q2
        cases e
        obtain ⟨v, rfl, r2⟩ := one_of r1
        cases r2 with
        | ref qn =>
          obtain ⟨ws, sq, rw_⟩ := lstF_of rh qn q1
          rw [ints_of rw_ q2] at sq
          exact cr_sum hc pins s σ H _ us Q I r ⟨_, is, rfl, sq, go ρ H _ .refl rh (.int _)⟩
      · cases e
    · cases e
  · cases e
/-! ### xs.extend(ys) -/
def extendF : OpM := fun x ys h => match x, ys with
  | .ref n, [.ref m] => (match h[n]?, h[m]? with
    | some (.lst xs), some (.lst zs) => if xs.length + zs.length ≤ sizeLine then some (.non, h.set n (.lst (xs ++ zs))) else none
    | _, _ => none)
  | _, _ => none
theorem of_extend : MtR X "list.extend" (rM X.K extendF) := by
  intro pins s σ H x xs v us Q I rx rxs ⟨ρ, fx, fs, h, fz, h', r1, r2, rh, e, go⟩
  unfold extendF at e
  split at e
  · rename_i n m
    split at e
    · rename_i ys zs q1 q2
      split at e
      · rename_i z
        cases e
        obtain ⟨w, rfl, r3⟩ := one_of r2
        cases r1 with
        | ref qn =>
          cases r3 with
          | ref qm =>
            obtain ⟨vs, a1, a2⟩ := lst_of rh qn q1
            obtain ⟨ws, b1, b2⟩ := lst_of rh qm q2
            obtain ⟨ev, rh'⟩ := set_lst rh qn q1 a1 (a2.app b2)
            exact mt_extend pins s σ H _ _ v us Q I rx rxs ⟨_, _, vs, ws, rfl, rfl, a1, b1, by rw [a2.len', b2.len']; exact z, go ρ _ _ ev rh' .non⟩
      · cases e
    · cases e
  · cases e
end
end FX
set_option maxRecDepth 100000
set_option maxHeartbeats 4000000
namespace FX
open PySem PySem.Spec PySem.Calls PyProof.Rows L2
variable [LamT]
/-! ### f(e, .., k = v, ..) of a def -/
def permF {α : Type} (π : List Nat) (xs : List α) : List α := π.filterMap (xs[·]?)
theorem rvs_perm {K : PySem.W.Frag} {ρ : List Addr} {H : Hp} {xs : List FV} {vs : List V} (r : RVs K ρ H xs vs) : ∀ π : List Nat, RVs K ρ H (permF π xs) (permF π vs)
  | [] => .nil
  | i :: π => by
    unfold permF
    rw [List.filterMap_cons, List.filterMap_cons]
    cases q : xs[i]? with
    | some x =>
      obtain ⟨v, e, rv⟩ := r.get q
      rw [e]
      exact .cons rv (rvs_perm r π)
    | none =>
      have e : vs[i]? = none := by
        rw [List.getElem?_eq_none_iff] at q ⊢
        rw [r.len']
        exact q
      rw [e]
      exact rvs_perm r π
theorem vals_perm {vs : List V} {us : List Value} (r : Vals vs us) : ∀ π : List Nat, Vals (permF π vs) (permF π us)
  | [] => .nil
  | i :: π => by
    unfold permF
    rw [List.filterMap_cons, List.filterMap_cons]
    cases q : vs[i]? with
    | some x =>
      obtain ⟨v, e, rv⟩ := r.get q
      rw [e]
      exact .cons rv (vals_perm r π)
    | none =>
      have e : us[i]? = none := by
        rw [List.getElem?_eq_none_iff] at q ⊢
        rw [← r.length]
        exact q
      rw [e]
      exact vals_perm r π
structure KnW (P : Program) (w : World) (K : PySem.W.Frag) (mg : Str → Option Value) (base : Heap) (k : Nat) (x : Str) (ps : List Str) (n : Nat) (ks : List Str) (π : List Nat) (g : Fn) : Prop where
  ex : ∃ (f : Addr) (fd : FuncData), mg x = some (.ref f) ∧ PySem.W.keepIn K (.ref f) = true ∧ (∀ (s : Shared) (us ws : List Value), K.In s.heap → us.length = n → ws.length = ks.length → BindsTo s fd ⟨us, ks.zip ws⟩ (ps.zip (permF π (us ++ ws)))) ∧ FnF P w K mg base k f fd ps g
theorem KnW.mono {P : Program} {w : World} {K : PySem.W.Frag} {mg : Str → Option Value} {base : Heap} {k k' n : Nat} {x : Str} {ps ks : List Str} {π : List Nat} {g : Fn} (D : KnW P w K mg base k x ps n ks π g) (h : k ≤ k') : KnW P w K mg base k' x ps n ks π g := let ⟨f, fd, a, b, c, d⟩ := D.ex; ⟨f, fd, a, b, c, d.mono h⟩
/-- no defaults: every parameter is written -/
theorem FunD.bindsW {K : PySem.W.Frag} {x qual : Str} {params : Arguments} {body : List Stmt} {scope : Scope} {kws : List (Str × V)} {f : Addr} {fd : FuncData} {ps ks : List Str} {n : Nat} {π : List Nat} (F : FunD K x qual params body scope [] kws f fd)
    (h : ∀ (kV doc pm : Value) (an : Option Addr) (cdv ct : Value) (us ws : List Value), us.length = n → ws.length = ks.length → bindArgs (PySem.W.fnOf x qual params body scope .none kV doc pm an cdv ct) ⟨us, ks.zip ws⟩ = pure (ps.zip (permF π (us ++ ws)))) :
    ∀ (s : Shared) (us ws : List Value), K.In s.heap → us.length = n → ws.length = ks.length → BindsTo s fd ⟨us, ks.zip ws⟩ (ps.zip (permF π (us ++ ws))) := by
  obtain ⟨oc, od, dV, kV, doc, pm, an, cdv, ct, osl, rfl, lk, hcd, hD, hK⟩ := F.ex
  rcases hD with ⟨_, rfl⟩ | ⟨e, _⟩
  · exact fun s us ws _ a b => .of_eq (h kV doc pm an cdv ct us ws a b)
  · exact absurd rfl e
abbrev FK (X : Cx) (W : Wsh) (kws : List Keyword) (ek : EvA) : Prop := PK X kws (tG (RVs X.K) X.K W ek)
def cCallW (n m N : Nat) (π : List Nat) (g : Fn) (ea ek : EvA) : EvE := fun σ h => (ea σ h).bind fun xs h1 => (ek σ h1).bind fun ys h2 => if xs.length = n ∧ ys.length = m ∧ (permF π (xs ++ ys)).length = N then g (permF π (xs ++ ys)) h2 else .stuck
section
variable {X : Cx} {W : Wsh} {e a : Expr} {es : List Expr} {ea : EvE} {er ek : EvA} {k n m N : Nat} {p pos kpos : Pos} {x : Str} {ps ks : List Str} {π : List Nat} {g : Fn} {kws : List Keyword} {nm : Option Str}
theorem pk_imp {t t' : TA} (h : PK X kws t) (j : ∀ σ H Q, t' σ H Q → t σ H Q) : PK X kws t' := ⟨fun pos pins s σ H Q I q => h.run pos pins s σ H Q I (j σ H Q q)⟩
theorem fk_nil : FK X W [] cNil := pk_imp pk_nil fun σ H Q ⟨ρ, σf, h, rs, rh, p⟩ => Post.ok_ (x := ([] : List FV)) p rh .nil
theorem fk_cons (ha : FE X W e ea) (hr : FK X W kws er) : FK X W (⟨nm, e, kpos⟩ :: kws) (cCons ea er) := by
  refine pk_imp (pk_cons ha hr) fun σ H Q ⟨ρ, σf, h, rs, rh, p⟩ => ?_
  refine core rs rh p fun ρ1 H1 h1 y v e1 rs1 rh1 r1 p1 => ?_
  refine core rs1 rh1 p1 fun ρ2 H2 h2 xs vs e2 rs2 rh2 r2 p2 => ?_
  exact Post.ok_ p2 rh2 (.cons (r1.ev e2) r2)
theorem run_kw (D : KnW X.prog X.w X.K X.mg X.base k x ps n ks π g) (hr : Room k X.A) (hgd : X.A.guards = some []) (tk : L2N.Takes X W.w) (hN : ps.length = N) {pins : List (Addr × Obj)} {σ : L2.St} {H : Hp} {s : Shared} {Q : VK} {xs ys : List FV} {vs zs : List V} {us ws : List Value} {ρ : List Addr} {h : FH} {f : Addr} {fd : FuncData}
    (F : FnF X.prog X.w X.K X.mg X.base k f fd ps g) (hb : ∀ (s : Shared) (us ws : List Value), X.K.In s.heap → us.length = n → ws.length = ks.length → BindsTo s fd ⟨us, ks.zip ws⟩ (ps.zip (permF π (us ++ ws)))) (I : Inv X pins σ H s) (r : Vals vs us) (rz : Vals zs ws) (rx : RVs X.K ρ H xs vs) (ry : RVs X.K ρ H ys zs) (rh : RH X.K ρ h H) (tb : LamX.Tabs (LamT.T X.K) H)
    (z : xs.length = n ∧ ys.length = ks.length ∧ (permF π (xs ++ ys)).length = N) (pp : Post X.K W (RV X.K) ρ H σ (g (permF π (xs ++ ys)) h) Q) : wpAny (model X.prog X.w) X.A (call (.ref f) us (ks.zip ws)) (EP X pins σ Q) X.xe s := by
  have b := hb s us ws I.kIn (by rw [← r.length, rx.len', z.1]) (by rw [← rz.length, ry.len', z.2.1])
  refine wpAny_call (codeAny_mono (run_fnF F hr hgd tk I b (vals_perm (r.append rz) π) (rvs_perm (rx.app ry) π) rh tb (by rw [z.2.2, hN]) pp) fun res s' hq => ?_)
  rcases res with ex | (u | _ | _ | _) <;> exact hq
theorem fe_clW (D : KnW X.prog X.w X.K X.mg X.base k x ps n ks π g) (hr : Room k X.A) (hgd : X.A.guards = some []) (tk : L2N.Takes X W.w) (ha : FA X W (e :: es) er) (hk : FK X W kws ek) (hall : (backToKw pos (keywordEach kws X.env)).all (·.1.isSome) = true := by rfl) (hks : (backToKw pos (keywordEach kws X.env)).filterMap (·.1) = ks := by rfl)
    (hm : ks.length = m := by rfl) (hN : ps.length = N := by rfl) (hg : Gl X x := by rfl) (hdb : (x == ("__debug__" : Str)) = false := by decide) (he : starEach (e :: es) X.env = (false, eval e X.env) :: starEach es X.env := by rfl)
    (hpl : ((backTo pos (starEach (e :: es) X.env)).any (·.1) || (backToKw pos (keywordEach kws X.env)).any (·.1.isNone)) = false := by rfl) : FE X W (.Call (.Name x p) (e :: es) kws pos) (cCallW n m N π g er ek) := by
  obtain ⟨f, fd, h1, h2, h3, h4⟩ := D.ex
  subst hm
  refine ⟨fun pins s σ H Q I ⟨ρ, σf, h, rs, rh, pp⟩ => ?_⟩
  refine wpAny_Call_Name_kw (ld_glob I hg h1 ?_ hdb)
  have hA : tG (RVs X.K) X.K W er σ H (fun vs H1 => ∃ ρ1 xs hh, RVs X.K ρ1 H1 xs vs ∧ RH X.K ρ1 hh H1 ∧ RS X.K W ρ1 H1 σf σ ∧ Post X.K W (RV X.K) ρ1 H1 σ ((ek σf hh).bind fun ys h2 => if xs.length = n ∧ ys.length = ks.length ∧ (permF π (xs ++ ys)).length = N then g (permF π (xs ++ ys)) h2 else .stuck) Q) :=
    core (R1 := RVs X.K) rs rh pp fun ρ1 H1 hh xs vs e1 rs1 rh1 r1 p1 => ⟨ρ1, xs, hh, r1, rh1, rs1, p1⟩
  refine PySem.W.callWith_KW (h₀ := X.base) I.ok.mod.kin h2 hall (thn (ha.run pos pins s σ H _ I hA) fun us s1 ⟨vs, H1, I1, r, ρ1, xs, hh, rx, rh1, rs1, p1⟩ => ?_) hpl he
  have hB : tG (RVs X.K) X.K W ek σ H1 (fun zs H2 => ∃ ρ2 xs2 ys h3, RVs X.K ρ2 H2 xs2 vs ∧ RVs X.K ρ2 H2 ys zs ∧ RH X.K ρ2 h3 H2 ∧ LamX.Tabs (LamT.T X.K) H2 ∧ (xs2.length = n ∧ ys.length = ks.length ∧ (permF π (xs2 ++ ys)).length = N) ∧ Post X.K W (RV X.K) ρ2 H2 σ (g (permF π (xs2 ++ ys)) h3) Q) := by
    refine core (R1 := RVs X.K) rs1 rh1 p1 fun ρ2 H2 h3 ys zs e2 rs2 rh2 r2 p2 => ?_
    by_cases z : xs.length = n ∧ ys.length = ks.length ∧ (permF π (xs ++ ys)).length = N
    · rw [if_pos z] at p2
      exact ⟨ρ2, xs, ys, h3, rx.ev e2, r2, rh2, rs2.tabs, z, p2⟩
    · rw [if_neg z] at p2
      exact p2.elim
  refine thn (hk.run pos pins s1 σ H1 _ I1 hB) fun ws s2 ⟨zs, H2, I2, rz, ρ2, xs2, ys, h3', rx2, ry, rh2, tb, z, p2⟩ => ⟨I2.kIn, ?_⟩
  rw [hks]
  exact run_kw D hr hgd tk hN h4 h3 I2 r rz rx2 ry rh2 tb z p2
theorem fe_clW0 (D : KnW X.prog X.w X.K X.mg X.base k x ps 0 ks π g) (hr : Room k X.A) (hgd : X.A.guards = some []) (tk : L2N.Takes X W.w) (hk : FK X W kws ek) (hall : (backToKw pos (keywordEach kws X.env)).all (·.1.isSome) = true := by rfl) (hks : (backToKw pos (keywordEach kws X.env)).filterMap (·.1) = ks := by rfl)
    (hm : ks.length = m := by rfl) (hN : ps.length = N := by rfl) (hg : Gl X x := by rfl) (hdb : (x == ("__debug__" : Str)) = false := by decide)
    (hpl : ((backTo pos (starEach [] X.env)).any (·.1) || (backToKw pos (keywordEach kws X.env)).any (·.1.isNone)) = false := by rfl) : FE X W (.Call (.Name x p) [] kws pos) (cCallW 0 m N π g cNil ek) := by
  obtain ⟨f, fd, h1, h2, h3, h4⟩ := D.ex
  subst hm
  refine ⟨fun pins s σ H Q I ⟨ρ, σf, h, rs, rh, pp⟩ => ?_⟩
  refine wpAny_Call_Name_kw (ld_glob I hg h1 ?_ hdb)
  have hB : tG (RVs X.K) X.K W ek σ H (fun zs H2 => ∃ ρ2 ys h3, RVs X.K ρ2 H2 ys zs ∧ RH X.K ρ2 h3 H2 ∧ LamX.Tabs (LamT.T X.K) H2 ∧ (([] : List FV).length = 0 ∧ ys.length = ks.length ∧ (permF π ([] ++ ys)).length = N) ∧ Post X.K W (RV X.K) ρ2 H2 σ (g (permF π ([] ++ ys)) h3) Q) := by
    refine core (R1 := RVs X.K) rs rh (show Post X.K W (RV X.K) ρ H σ ((ek σf h).bind fun ys h2 => if ([] : List FV).length = 0 ∧ ys.length = ks.length ∧ (permF π ([] ++ ys)).length = N then g (permF π ([] ++ ys)) h2 else .stuck) Q from pp) fun ρ2 H2 h3 ys zs e2 rs2 rh2 r2 p2 => ?_
    by_cases z : ([] : List FV).length = 0 ∧ ys.length = ks.length ∧ (permF π ([] ++ ys)).length = N
    · rw [if_pos z] at p2
      exact ⟨ρ2, ys, h3, r2, rh2, rs2.tabs, z, p2⟩
    · rw [if_neg z] at p2
      exact p2.elim
  refine PySem.W.callWith_KW0 (first := []) (h₀ := X.base) I.ok.mod.kin h2 hall (thn (hk.run pos pins s σ H _ I hB) fun ws s2 ⟨zs, H2, I2, rz, ρ2, ys, h3', ry, rh2, tb, z, p2⟩ => ⟨I2.kIn, ?_⟩) hpl
  rw [hks]
  exact run_kw (us := []) (vs := []) D hr hgd tk hN h4 h3 I2 .nil rz .nil ry rh2 tb z p2
end
end FX
set_option maxRecDepth 100000
set_option maxHeartbeats 4000000
namespace FX
open PySem PySem.Spec PySem.Calls PyProof.Rows L2
variable [LamT]
/-! ### own exception classes, told by the head -/
abbrev iniA (K : PySem.W.Frag) (x : Str) : Addr := He.fAd K (x, some ("__init__" : Str))
def xclB (x : Str) (c : Nat) (fl : List Str) (K : PySem.W.Frag) : Bool := (decide (PySem.W.findIn K (.ref (xA K c)) "__init__" = some (some (.ref (iniA K x)))) && decide (PySem.W.typeIn K (.ref (iniA K x)) = some (.type "function"))) && (oexB K (xA K c) && fl.all fun f => decide (PySem.W.findIn K (.ref (xA K c)) f = some none))
def veB (K : PySem.W.Frag) : Bool := match PySem.W.findCls K (.type "ValueError") (.type "type") "__init__" with
  | some (.val (.builtin n)) => decide (n = "ValueError.__init__")
  | _ => false
theorem veB_ok {K : PySem.W.Frag} (h : veB K = true) : PySem.W.findCls K (.type "ValueError") (.type "type") "__init__" = some (.val (.builtin "ValueError.__init__")) := by
  unfold veB at h
  split at h
  · rename_i n q
    rw [q, of_decide_eq_true h]
  · cases h
section
variable {P : Program} {w : World} {K : PySem.W.Frag} {mg : Str → Option Value} {base : Heap} {x : Str} {c : Nat} {fl ps : List Str} {fd : FuncData}
theorem xcl_oex (h : xclB x c fl K = true) : OexC K (xA K c) := oexB_ok (two_b (two_b h).2).1
theorem xcl_no (h : xclB x c fl K = true) {f : Str} (hf : f ∈ fl) : PySem.W.findIn K (.ref (xA K c)) f = some none := of_decide_eq_true (List.all_eq_true.mp (two_b (two_b h).2).2 f hf)
theorem xcl_of (h : xclB x c fl K = true) (g : mg x = some (.ref (xA K c))) (F : FnOk P w K mg base (L2.CX P w) 1 (iniA K x) fd ps (spX (xA K c) fl)) (b : Binds K fd ps []) (hl : ps.length = fl.length + 1) : XCl P w K mg base 1 x c fl :=
  ⟨g, xcl_oex h, ⟨_, fd, ps, hl, of_decide_eq_true (two_b (two_b h).1).1, of_decide_eq_true (two_b (two_b h).1).2, F, b⟩⟩
end
end FX
namespace FX
open PySem PySem.Spec PySem.Calls PyProof.Rows L2
variable [LamT]
theorem fe_ps {X : Cx} {W : Wsh} {k lv n m : Nat} {x y : Str} {ps : List Str} {g : FnC} {d : Cl} {fc : Addr} {py p pos : Pos} {es : List Expr} {er : EvA} (i : Nat) (D : KnH X.prog X.w X.K X.mg X.base k lv x ps g) (hcl : CloOk X.prog X.w X.K X.mg X.base lv fc X.outer X.s_0 X.H_0 W.ρ0 d) (hH : W.H0 = X.H_0) (hex : X.ex = []) (hn : W.ρ0[n]? = some fc)
    (hr : Room k X.A) (hgd : X.A.guards = some []) (tk : L2N.Takes X W.w) (ha : FA X W (.Name y py :: es) (cCons (cVar i) er)) (hm : ps.length = m := by rfl) (hg : Gl X x := by rfl) (hdb : (x == ("__debug__" : Str)) = false := by decide)
    (he0 : starEach (.Name y py :: es) X.env = (false, eval (.Name y py) X.env) :: starEach es X.env := by rfl) (hpl : (backTo pos (starEach es X.env)).any (·.1) = false := by rfl) : FE X W (.Call (.Name x p) (.Name y py :: es) [] pos) (cPass i n d m g er) := by
  subst hm
  obtain ⟨f, fd, h1, h2, h3, h4⟩ := D.ex
  exact fe_pass i h4 hcl hH hex hn hr hgd tk h1 h2 h3 ha hg hdb he0 hpl
end FX
namespace FX
open PySem PySem.Spec PySem.Calls PyProof.Rows L2
theorem takesN {X : Cx} : L2N.Takes X (fun _ _ _ _ => False) := fun u s' x => by
  obtain ⟨_, _, _, _, _, _, _, _, _, _, _, _, _, _, _, _, z⟩ := x
  exact z.elim
end FX
set_option maxRecDepth 100000
set_option maxHeartbeats 4000000
namespace FX
open PySem PySem.Spec PyProof.Rows L2
/-! ### what repr says of data -/
structure Sh (n : Nat) (d : PyData) : Prop where
  sh : d.showable = true
  len : d.shown.length ≤ n
  ok : PyData.strOk d.shown = true
theorem Sh.mono {n m : Nat} {d : PyData} (s : Sh n d) (h : n ≤ m) : Sh m d := ⟨s.sh, Nat.le_trans s.len h, s.ok⟩
theorem sh_non : Sh 4 .none := ⟨rfl, by decide +kernel, by decide +kernel⟩
theorem sh_bl (b : Bool) : Sh 5 (.bool b) := by cases b <;> exact ⟨rfl, by decide +kernel, by decide +kernel⟩
theorem sh_int {i : Int} (a : i.natAbs < 10 ^ 500) : Sh 501 (.int i) := by
  have e : (PyData.int i).shown = Str.ofString (toString i) := by simp only [PyData.shown]
  have lg : i.natAbs.log2 < 1920 := by
    by_cases z : i.natAbs = 0
    · rw [z]; decide
    · exact (Nat.log2_lt z).mpr (Nat.lt_of_lt_of_le a (by decide +kernel))
  refine ⟨by simp only [PyData.showable]; exact decide_eq_true lg, ?_, ?_⟩
  · rw [e, len_str]
    exact int_text_length_le10 (by decide) a
  · rw [e]
    exact strOk_str _
theorem shown_all {n : Nat} : ∀ {ds : List PyData}, (∀ d ∈ ds, Sh n d) → PyData.showableAll ds = true ∧ ((PyData.shownAll ds).map (·.length)).sum ≤ ds.length * n ∧ (PyData.shownAll ds).length = ds.length ∧ ∀ t ∈ PyData.shownAll ds, PyData.strOk t = true
  | [], _ => ⟨by simp only [PyData.showableAll], by simp [PyData.shownAll], by simp [PyData.shownAll], by simp [PyData.shownAll]⟩
  | d :: ds, h => by
    obtain ⟨a, b, c, e⟩ := shown_all fun x hx => h x (List.mem_cons_of_mem _ hx)
    have s := h d List.mem_cons_self
    refine ⟨by simp only [PyData.showableAll, s.sh, a]; rfl, ?_, by simp only [PyData.shownAll, List.length_cons, c], fun t ht => ?_⟩
    · simp only [PyData.shownAll, List.map_cons, List.sum_cons, List.length_cons, Nat.succ_mul]
      have := s.len
      omega
    · simp only [PyData.shownAll] at ht
      rcases List.mem_cons.mp ht with z | z
      · rw [z]; exact s.ok
      · exact e t z
theorem ok_join : ∀ {ts : List Str}, (∀ t ∈ ts, PyData.strOk t = true) → PyData.strOk (Str.join ", " ts) = true
  | [], _ => by decide +kernel
  | [x], h => h x List.mem_cons_self
  | x :: y :: r, h => by
    show PyData.strOk (x ++ ", " ++ Str.join ", " (y :: r)) = true
    exact strOk_app (strOk_app (h x List.mem_cons_self) (by decide +kernel)) (ok_join fun t ht => h t (List.mem_cons_of_mem _ ht))
theorem sh_tup {n m : Nat} {ds : List PyData} (h : ∀ d ∈ ds, Sh n d) (l : ds.length ≤ m) : Sh (m * (n + 2) + 3) (.tuple ds) := by
  obtain ⟨a, b, c, e⟩ := shown_all h
  have sz : ds.length * n + 2 * ds.length ≤ m * (n + 2) := by
    rw [Nat.mul_comm 2, ← Nat.mul_add]
    exact Nat.mul_le_mul_right _ l
  have q : (PyData.tuple ds).shown = tupleText (PyData.shownAll ds) := by simp only [PyData.shown]
  refine ⟨by simp only [PyData.showable]; exact a, ?_, ?_⟩
  · rw [q]
    have := tupleText_len_le (PyData.shownAll ds)
    rw [c] at this
    omega
  · rw [q]
    unfold tupleText
    exact strOk_app (strOk_app (by decide +kernel) (ok_join e)) (by split <;> decide +kernel)
theorem sh_lst {n m : Nat} {ds : List PyData} (h : ∀ d ∈ ds, Sh n d) (l : ds.length ≤ m) : Sh (m * (n + 2) + 3) (.list ds) := by
  obtain ⟨a, b, c, e⟩ := shown_all h
  have sz : ds.length * n + 2 * ds.length ≤ m * (n + 2) := by
    rw [Nat.mul_comm 2, ← Nat.mul_add]
    exact Nat.mul_le_mul_right _ l
  have q : (PyData.list ds).shown = listText (PyData.shownAll ds) := by simp only [PyData.shown]
  refine ⟨by simp only [PyData.showable]; exact a, ?_, ?_⟩
  · rw [q]
    have := listText_len_le (PyData.shownAll ds)
    rw [c] at this
    omega
  · rw [q, listText_eq_join]
    exact strOk_app (strOk_app (by decide +kernel) (ok_join e)) (by decide +kernel)
/-! ### values as data, whatever the depth that is looked at from k on -/
def Dt (h : FH) (k : Nat) (v : FV) (d : PyData) : Prop := ∀ n, k ≤ n → datF h n v = some d
section
variable {h h' : FH} {k : Nat} {v : FV} {d : PyData}
theorem Dt.mono {m : Nat} (a : Dt h k v d) (l : k ≤ m) : Dt h m v d := fun n q => a n (Nat.le_trans l q)
theorem dt_non : Dt h 1 .non .none := fun n q => by obtain ⟨m, rfl⟩ := Nat.exists_eq_add_of_le' q; rfl
theorem dt_bl (b : Bool) : Dt h 1 (.bl b) (.bool b) := fun n q => by obtain ⟨m, rfl⟩ := Nat.exists_eq_add_of_le' q; rfl
theorem dt_int (i : Int) : Dt h 1 (.int i) (.int i) := fun n q => by obtain ⟨m, rfl⟩ := Nat.exists_eq_add_of_le' q; rfl
theorem dt_str {x : Str} (ok : PyData.strOk x = true) : Dt h 1 (.str x) (.str x) := fun n q => by
  obtain ⟨m, rfl⟩ := Nat.exists_eq_add_of_le' q
  show (if PyData.strOk x = true then some (PyData.str x) else none) = _
  rw [if_pos ok]
inductive Dts (h : FH) (k : Nat) : List FV → List PyData → Prop
  | nil : Dts h k [] []
  | cons {x : FV} {d : PyData} {xs : List FV} {ds : List PyData} : Dt h k x d → Dts h k xs ds → Dts h k (x :: xs) (d :: ds)
theorem Dts.all {n : Nat} (q : k ≤ n) : ∀ {xs : List FV} {ds : List PyData}, Dts h k xs ds → xs.mapM (datF h n) = some ds
  | _, _, .nil => rfl
  | x :: xs, d :: ds, .cons a b => by
    rw [List.mapM_cons, a n q, b.all q]
    rfl
theorem Dts.len : ∀ {xs : List FV} {ds : List PyData}, Dts h k xs ds → ds.length = xs.length
  | _, _, .nil => rfl
  | _, _, .cons _ b => by rw [List.length_cons, List.length_cons, b.len]
theorem Dts.mono {m : Nat} (l : k ≤ m) : ∀ {xs : List FV} {ds : List PyData}, Dts h k xs ds → Dts h m xs ds
  | _, _, .nil => .nil
  | _, _, .cons a b => .cons (a.mono l) (b.mono l)
theorem Dts.app : ∀ {xs ys : List FV} {ds es : List PyData}, Dts h k xs ds → Dts h k ys es → Dts h k (xs ++ ys) (ds ++ es)
  | _, _, _, _, .nil, b => b
  | _, _, _, _, .cons a c, b => .cons a (c.app b)
theorem dt_tup {xs : List FV} {ds : List PyData} (a : Dts h k xs ds) : Dt h (k + 1) (.tup xs) (.tuple ds) := fun n q => by
  obtain ⟨m, rfl⟩ := Nat.exists_eq_add_of_le' (Nat.le_trans (Nat.succ_le_succ (Nat.zero_le k)) q)
  show (xs.mapM (datF h m)).map PyData.tuple = _
  rw [a.all (by omega)]
  rfl
theorem dt_lst {j : Nat} {xs : List FV} {ds : List PyData} (e : h[j]? = some (.lst xs)) (a : Dts h k xs ds) : Dt h (k + 1) (.ref j) (.list ds) := fun n q => by
  obtain ⟨m, rfl⟩ := Nat.exists_eq_add_of_le' (Nat.le_trans (Nat.succ_le_succ (Nat.zero_le k)) q)
  simp only [datF, e]
  rw [a.all (by omega)]
  rfl
theorem mcons {α β : Type} {f : α → Option β} {x : α} {xs : List α} {ds : List β} (e : (x :: xs).mapM f = some ds) : ∃ d r, ds = d :: r ∧ f x = some d ∧ xs.mapM f = some r := by
  rw [List.mapM_cons] at e
  cases q : f x with
  | none => rw [q] at e; cases e
  | some d =>
    rw [q] at e
    cases q2 : xs.mapM f with
    | none => rw [q2] at e; cases e
    | some r =>
      rw [q2] at e
      cases e
      exact ⟨d, r, rfl, rfl, rfl⟩
theorem datF_grw (g : Grw h h') : ∀ {n : Nat} {v : FV} {d : PyData}, datF h n v = some d → datF h' n v = some d := by
  intro n
  induction n with
  | zero => intro v d e; cases e
  | succ n ih =>
    have all : ∀ (xs : List FV) (ds : List PyData), xs.mapM (datF h n) = some ds → xs.mapM (datF h' n) = some ds := by
      intro xs
      induction xs with
      | nil => intro ds e; exact e
      | cons x xs ihx =>
        intro ds e
        obtain ⟨d, r, rfl, q1, q2⟩ := mcons e
        rw [List.mapM_cons, ih q1, ihx _ q2]
        rfl
    intro v d e
    cases v with
    | tup xs =>
      simp only [datF] at e ⊢
      obtain ⟨ds, q, rfl⟩ := Option.map_eq_some_iff.mp e
      rw [all _ _ q]
      rfl
    | ref m =>
      simp only [datF] at e ⊢
      split at e
      · rename_i xs z
        obtain ⟨ds, q, rfl⟩ := Option.map_eq_some_iff.mp e
        rw [g.at_ z]
        simp only
        rw [all _ _ q]
        rfl
      · rename_i xs z
        obtain ⟨ds, q, rfl⟩ := Option.map_eq_some_iff.mp e
        rw [g.at_ z]
        simp only
        rw [all _ _ q]
        rfl
      · cases e
    | _ => exact e
theorem Dt.grw (a : Dt h k v d) (g : Grw h h') : Dt h' k v d := fun n q => datF_grw g (a n q)
theorem Dts.grw (g : Grw h h') : ∀ {xs : List FV} {ds : List PyData}, Dts h k xs ds → Dts h' k xs ds
  | _, _, .nil => .nil
  | _, _, .cons a b => .cons (a.grw g) (b.grw g)
/-! ### a value that repr can show -/
def Vl (h : FH) (k n : Nat) (v : FV) : Prop := ∃ d, Dt h k v d ∧ Sh n d
theorem Vl.grw {n : Nat} (a : Vl h k n v) (g : Grw h h') : Vl h' k n v := let ⟨d, x, y⟩ := a; ⟨d, x.grw g, y⟩
theorem Vl.mono {n k' n' : Nat} (a : Vl h k n v) (l : k ≤ k') (m : n ≤ n') : Vl h k' n' v := let ⟨d, x, y⟩ := a; ⟨d, x.mono l, y.mono m⟩
theorem vls {n : Nat} : ∀ {xs : List FV}, (∀ x ∈ xs, Vl h k n x) → ∃ ds, Dts h k xs ds ∧ ∀ d ∈ ds, Sh n d
  | [], _ => ⟨[], .nil, fun d hd => by cases hd⟩
  | x :: xs, q => by
    obtain ⟨d, a, b⟩ := q x List.mem_cons_self
    obtain ⟨ds, c, e⟩ := vls fun y hy => q y (List.mem_cons_of_mem _ hy)
    exact ⟨d :: ds, .cons a c, fun z hz => by
      rcases List.mem_cons.mp hz with y | y
      · rw [y]; exact b
      · exact e z y⟩
theorem vl_non : Vl h 1 4 .non := ⟨_, dt_non, sh_non⟩
theorem vl_bl (b : Bool) : Vl h 1 5 (.bl b) := ⟨_, dt_bl b, sh_bl b⟩
theorem vl_int {i : Int} (a : i.natAbs < 10 ^ 500) : Vl h 1 501 (.int i) := ⟨_, dt_int i, sh_int a⟩
theorem vl_str {x : Str} {n : Nat} (a : PyData.strOk x = true) (b : Sh n (.str x)) : Vl h 1 n (.str x) := ⟨_, dt_str a, b⟩
theorem vl_tup {n m : Nat} {xs : List FV} (a : ∀ x ∈ xs, Vl h k n x) (l : xs.length ≤ m) : Vl h (k + 1) (m * (n + 2) + 3) (.tup xs) := by
  obtain ⟨ds, c, e⟩ := vls a
  exact ⟨_, dt_tup c, sh_tup e (by rw [c.len]; exact l)⟩
theorem vl_lst {n m j : Nat} {xs : List FV} (q : h[j]? = some (.lst xs)) (a : ∀ x ∈ xs, Vl h k n x) (l : xs.length ≤ m) : Vl h (k + 1) (m * (n + 2) + 3) (.ref j) := by
  obtain ⟨ds, c, e⟩ := vls a
  exact ⟨_, dt_lst q c, sh_lst e (by rw [c.len]; exact l)⟩
theorem repr_vl {n : Nat} (a : Vl h k n v) (hk : k ≤ 60) (hn : n ≤ 16777216) : ∃ S : Str, PyData.strOk S = true ∧ (∀ h', Grw h h' → reprF [v] h' = some (.str S, h')) := by
  obtain ⟨d, x, s⟩ := a
  have z : sizeLine = 16777216 := by decide +kernel
  refine ⟨d.shown, s.ok, fun h' g => ?_⟩
  have e : datF h' DEEP v = some d := (x.grw g) DEEP hk
  unfold reprF
  simp only [e]
  rw [if_pos ⟨s.sh, by rw [z]; exact Nat.le_trans s.len hn⟩]
theorem eq_same {S : Str} (a : PyData.strOk S = true) (h : FH) : eqF (.str S) (.str S) h = some (.bl true, h) := by
  have e : datF h DEEP (.str S) = some (.str S) := (if_pos a : (if PyData.strOk S = true then some (PyData.str S) else none) = some (.str S))
  unfold eqF
  rw [e]
  show some (FV.bl (PyData.eqv (.str S) (.str S)), h) = _
  simp [PyData.eqv]
end
/-- two lists of the same values are shown alike -/
theorem repr_two {h : FH} {k n m a b : Nat} {xs : List FV} (ea : h[a]? = some (.lst xs)) (eb : h[b]? = some (.lst xs)) (v : ∀ x ∈ xs, Vl h k n x) (l : xs.length ≤ m) (hk : k + 1 ≤ 60) (hn : m * (n + 2) + 3 ≤ 16777216) :
    ∃ S : Str, PyData.strOk S = true ∧ ∀ h', Grw h h' → reprF [.ref a] h' = some (.str S, h') ∧ reprF [.ref b] h' = some (.str S, h') := by
  obtain ⟨ds, c, e⟩ := vls v
  have z : sizeLine = 16777216 := by decide +kernel
  have s := sh_lst e (m := m) (by rw [c.len]; exact l)
  refine ⟨_, s.ok, fun h' g => ⟨?_, ?_⟩⟩
  · have q : datF h' DEEP (.ref a) = some (.list ds) := ((dt_lst ea c).grw g) DEEP hk
    unfold reprF
    simp only [q]
    rw [if_pos ⟨s.sh, by rw [z]; exact Nat.le_trans s.len hn⟩]
  · have q : datF h' DEEP (.ref b) = some (.list ds) := ((dt_lst eb c).grw g) DEEP hk
    unfold reprF
    simp only [q]
    rw [if_pos ⟨s.sh, by rw [z]; exact Nat.le_trans s.len hn⟩]
end FX
set_option maxRecDepth 100000
set_option maxHeartbeats 4000000
namespace FX
open PySem PySem.Spec PyProof.Rows L2
/-! ### while, comprehensions -/
theorem whL_loop {tc : EvT} {b : EvS} {P : Nat → FSt → FH → Prop} {Q : FSt → FH → Prop}
    (step : ∀ k σ h, P k σ h → (∃ h1, tc σ h = .ok false h1 ∧ Q σ h1) ∨ (∃ (h1 : FH) (σ2 : FSt) (h2 : FH) (k' : Nat), tc σ h = .ok true h1 ∧ b σ h1 = .nx σ2 h2 ∧ k = k' + 1 ∧ P k' σ2 h2)) :
    ∀ (k f : Nat) (σ : FSt) (h : FH), k < f → P k σ h → ∃ (σ' : FSt) (h' : FH), whL tc b f σ h = .nx σ' h' ∧ Q σ' h'
  | k, 0, _, _, l, _ => by omega
  | k, f + 1, σ, h, l, p => by
    unfold whL
    rcases step k σ h p with ⟨h1, e, q⟩ | ⟨h1, σ2, h2, k', e1, e2, rfl, p'⟩
    · rw [e]
      exact ⟨σ, h1, rfl, q⟩
    · rw [e1]
      simp only [r_toS_ok, if_true]
      rw [e2]
      exact whL_loop step k' f σ2 h2 (by omega) p'
theorem sWhile_loop {tc : EvT} {b : EvS} (P : Nat → FSt → FH → Prop) (Q : FSt → FH → Prop) (k : Nat) (hk : k < 1000000) {σ : FSt} {h : FH} (p : P k σ h)
    (step : ∀ k σ h, P k σ h → (∃ h1, tc σ h = .ok false h1 ∧ Q σ h1) ∨ (∃ (h1 : FH) (σ2 : FSt) (h2 : FH) (k' : Nat), tc σ h = .ok true h1 ∧ b σ h1 = .nx σ2 h2 ∧ k = k' + 1 ∧ P k' σ2 h2)) : ∃ (σ' : FSt) (h' : FH), sWhile tc b σ h = .nx σ' h' ∧ Q σ' h' :=
  whL_loop step k FUEL σ h (Nat.lt_trans hk (by decide +kernel)) p
theorem lcG_loop {D : Nat} {s : Src} {t : Tg} {tt : EvT} {te : EvE} {σw : FSt} {P : Nat → List FV → FH → Prop} {n : Nat} (at_ : ∀ i acc h, P i acc h → h[D]? = some (.lst acc)) (done : ∀ acc h, P n acc h → nextI s n h = some none)
    (step : ∀ i acc h, i < n → P i acc h → ∃ (x : FV) (σ1 : FSt) (b : Bool) (h1 : FH), nextI s i h = some (some x) ∧ setT h t x σw = some σ1 ∧ tt σ1 h = .ok b h1 ∧ ((b = false ∧ P (i + 1) acc h1) ∨ (b = true ∧ ∃ (y : FV) (h2 : FH), te σ1 h1 = .ok y h2 ∧ h2[D]? = some (.lst acc) ∧ acc.length < 1000 ∧ P (i + 1) (acc ++ [y]) (h2.set D (.lst (acc ++ [y])))))) :
    ∀ (m i f : Nat) (acc : List FV) (h : FH), i + m = n → m < f → P i acc h → ∃ (acc' : List FV) (h' : FH), lcG D s t tt te σw f i h = .ok (.ref D) h' ∧ P n acc' h'
  | 0, i, f + 1, acc, h, e, _, p => by
    have e' : i = n := by omega
    subst e'
    exact ⟨acc, h, by unfold lcG; rw [done acc h p], p⟩
  | m + 1, i, f + 1, acc, h, e, l, p => by
    obtain ⟨x, σ1, b, h1, e1, e2, e3, q⟩ := step i acc h (by omega) p
    unfold lcG
    rw [e1]
    simp only [e2]
    rw [e3]
    rcases q with ⟨rfl, p2⟩ | ⟨rfl, y, h2, q1, q2, q3, p2⟩
    · exact lcG_loop at_ done step m (i + 1) f acc h1 (by omega) (by omega) p2
    · simp only [q1, q2]
      rw [if_pos (small_ok (by omega))]
      exact lcG_loop at_ done step m (i + 1) f (acc ++ [y]) _ (by omega) (by omega) p2
theorem cLc_loop {ei : EvI} {s : Src} {t : Tg} {vs : List Nat} {tt : EvT} {te : EvE} {σ : FSt} {h h1 : FH} (P : Nat → List FV → FH → Prop) (n : Nat) (e : ei σ h = .ok s h1) (el : lenI s h1 = n) (p0 : P 0 [] (h1 ++ [.lst []])) (at_ : ∀ i acc h, P i acc h → h[h1.length]? = some (.lst acc))
    (done : ∀ acc h, P n acc h → nextI s n h = some none)
    (step : ∀ i acc h, i < n → P i acc h → ∃ (x : FV) (σ1 : FSt) (b : Bool) (h2 : FH), nextI s i h = some (some x) ∧ setT h t x (wipeF σ vs) = some σ1 ∧ tt σ1 h = .ok b h2 ∧ ((b = false ∧ P (i + 1) acc h2) ∨ (b = true ∧ ∃ (y : FV) (h3 : FH), te σ1 h2 = .ok y h3 ∧ h3[h1.length]? = some (.lst acc) ∧ acc.length < 1000 ∧ P (i + 1) (acc ++ [y]) (h3.set h1.length (.lst (acc ++ [y])))))) :
    ∃ (acc : List FV) (h' : FH), cLc ei t vs tt te σ h = .ok (.ref h1.length) h' ∧ P n acc h' := by
  unfold cLc
  rw [e, r_bind_ok, el]
  exact lcG_loop at_ done step n 0 (n + 1) [] _ (by omega) (by omega) p0
/-- over a fixed row of values, by functions that leave the heap as it is -/
theorem cLc_pure {ei : EvI} {s : Src} {t : Tg} {vs : List Nat} {tt : EvT} {te : EvE} {σ : FSt} {h h1 : FH} {xs : List FV} (f : FV → Option FV) (e : ei σ h = .ok s h1) (el : lenI s h1 = xs.length) (lx : xs.length < 1000) (nx : ∀ (i : Nat) (h2 : FH), Grw h1 h2 → nextI s i h2 = some xs[i]?)
    (step : ∀ x ∈ xs, ∀ h2 : FH, Grw h1 h2 → ∃ (σ1 : FSt) (b : Bool), setT h2 t x (wipeF σ vs) = some σ1 ∧ tt σ1 h2 = .ok b h2 ∧ ((b = false ∧ f x = none) ∨ (b = true ∧ ∃ y, te σ1 h2 = .ok y h2 ∧ f x = some y))) :
    cLc ei t vs tt te σ h = .ok (.ref h1.length) (h1 ++ [.lst (xs.filterMap f)]) := by
  obtain ⟨acc, h', q1, i0, q2, q3⟩ := cLc_loop (t := t) (vs := vs) (tt := tt) (te := te) (fun i acc h2 => i ≤ xs.length ∧ acc = (xs.take i).filterMap f ∧ h2 = h1 ++ [.lst acc]) xs.length e el ⟨Nat.zero_le _, rfl, rfl⟩ (fun i acc h2 ⟨_, _, q⟩ => by rw [q]; simp) (fun acc h2 ⟨_, _, q⟩ => by rw [nx _ _ (by rw [q]; exact .app)]; simp) (fun i acc h2 hi ⟨_, q1, q2⟩ => by
    have hx : xs[i]? = some xs[i] := List.getElem?_eq_getElem hi
    obtain ⟨σ1, b, a1, a2, a3⟩ := step xs[i] (List.getElem_mem hi) h2 (by rw [q2]; exact .app)
    refine ⟨xs[i], σ1, b, h2, by rw [nx _ _ (by rw [q2]; exact .app), hx], a1, a2, ?_⟩
    have tk : (xs.take (i + 1)).filterMap f = (xs.take i).filterMap f ++ (match f xs[i] with | some y => [y] | none => []) := by
      rw [List.take_succ, hx, List.filterMap_append]
      congr 1
      simp only [Option.toList, List.filterMap_cons, List.filterMap_nil]
      cases f xs[i] <;> rfl
    have la : acc.length ≤ i := by
      rw [q1]
      exact Nat.le_trans (List.length_filterMap_le _ _) (by rw [List.length_take]; omega)
    rcases a3 with ⟨b0, fx⟩ | ⟨b1, y, ey, fx⟩
    · refine .inl ⟨b0, hi, ?_, q2⟩
      rw [tk, fx, q1]; simp
    · refine .inr ⟨b1, y, h2, ey, by rw [q2]; simp, by omega, hi, ?_, ?_⟩
      · rw [tk, fx, q1]
      · rw [q2]; simp)
  rw [q1, q3, q2, List.take_length]
theorem own_next {n : Nat} {h1 h2 : FH} {xs : List FV} (e : h1[n]? = some (.lst xs)) (g : Grw h1 h2) (i : Nat) : nextI (.own n) i h2 = some xs[i]? := by
  have q := g.at_ e
  simp only [nextI, lstF, q]
  rfl
theorem seq_next {h2 : FH} {xs : List FV} (i : Nat) : nextI (.seq xs) i h2 = some xs[i]? := rfl
theorem lst_at {n : Nat} {h : FH} {xs : List FV} (e : h[n]? = some (.lst xs)) : lstF n h = some xs := by unfold lstF; rw [e]
theorem len_own {n : Nat} {h : FH} {xs : List FV} (e : h[n]? = some (.lst xs)) : lenI (.own n) h = xs.length := by simp only [lenI, lst_at e]
end FX
set_option maxRecDepth 100000
set_option maxHeartbeats 4000000
namespace FX
open PySem PySem.Spec PyProof.Rows L2
theorem atI_head {x : FV} {r : List FV} : atI (x :: r) 0 = some x := atI_nat (xs := x :: r) (i := 0) rfl
/-! ### what is heard of a call -/
/-- some = [(A, is it k1?), (B, is it k2?)]; some.append((C, is it k3?)); return ([name for name, is_one in some if is_one] + [D])[0], odd.f -/
def hSuite (A B C D f : Str) (k1 k2 k3 : Nat) (n1 c1 : Nat) : EvS := (sSeq (sAsg 2 (cLst (cCons (cTup (cCons (cC (.str A)) (cCons (cIsx n1 c1 k1 (cVar 1)) cNil))) (cCons (cTup (cCons (cC (.str B)) (cCons (cIsx n1 c1 k2 (cVar 1)) cNil))) cNil))))
    (sSeq (sExpr (cLM appendF (cVar 2) (cCons (cTup (cCons (cC (.str C)) (cCons (cIsx n1 c1 k3 (cVar 1)) cNil))) cNil)))
    (sRet (cTup (cCons (cBin ixF (cBin addF (cLc (cItL (cVar 2)) (.tt [(.nm 3), (.nm 4)]) [3, 4] (cTru (cVar 4)) (cVar 3)) (cLst (cCons (cC (.str D)) cNil))) (cC (.int 0))) (cCons (cXf n1 f (cVar 1)) cNil))))))
@[simp] theorem a_cIsx {n c k : Nat} {ea : EvE} {σ : FSt} {h : FH} : cIsx n c k ea σ h = (ea σ h).bind fun x h1 => match x with
  | .ref m => if m = n then .ok (.bl (decide (c = k))) h1 else .stuck
  | _ => .stuck := rfl
theorem isLst_app {h : FH} {xs : List FV} {l : FH} : isLst (.ref h.length) (h ++ (.lst xs :: l)) = true := by unfold isLst; simp
theorem append_app {h : FH} {xs : List FV} {y : FV} (l : xs.length < 1000) : appendF (.ref h.length) [y] (h ++ [.lst xs]) = some (.non, h ++ [.lst (xs ++ [y])]) := by
  have z : sizeLine = 16777216 := by decide +kernel
  unfold appendF
  simp only [List.getElem?_append_right (Nat.le_refl _), Nat.sub_self, List.getElem?_cons_zero]
  rw [if_pos (by omega)]
  simp
theorem pick_one {A B C D : Str} {b1 b2 b3 : Bool} : ∃ r : List FV, ([FV.tup [.str A, .bl b1], .tup [.str B, .bl b2], .tup [.str C, .bl b3]].filterMap fun x => match x with | .tup [y, .bl true] => some y | _ => none) ++ [FV.str D] = FV.str (if b1 then A else if b2 then B else if b3 then C else D) :: r ∧ r.length ≤ 3 := by
  cases b1 <;> cases b2 <;> cases b3 <;> exact ⟨_, rfl, Nat.le_of_ble_eq_true rfl⟩
theorem hSuite_ok {A B C D f : Str} {k1 k2 k3 c1 n : Nat} {h : FH} {fs : List (Str × FV)} {v : FV} (fv : fs.lookup f = some v) : ∃ h' : FH, hSuite A B C D f k1 k2 k3 h.length c1 [some (.ref n), some (.ref h.length), none, none, none] (h ++ [.opq, .xdo fs]) =
    .rt (.tup [.str (if c1 = k1 then A else if c1 = k2 then B else if c1 = k3 then C else D), v]) h' ∧ Grw h h' := by
  obtain ⟨H0, eH⟩ : ∃ H0 : FH, H0 = h ++ [.opq, .xdo fs] := ⟨_, rfl⟩
  have at1 : H0[h.length + 1]? = some (.xdo fs) := by rw [eH, List.getElem?_append_right (by omega)]; simp
  obtain ⟨T, eT⟩ : ∃ T : List FV, T = [FV.tup [.str A, .bl (decide (c1 = k1))], .tup [.str B, .bl (decide (c1 = k2))], .tup [.str C, .bl (decide (c1 = k3))]] := ⟨_, rfl⟩
  obtain ⟨r, pk, rl⟩ := @pick_one A B C D (decide (c1 = k1)) (decide (c1 = k2)) (decide (c1 = k3))
  have nm : FV.str (if decide (c1 = k1) = true then A else if decide (c1 = k2) = true then B else if decide (c1 = k3) = true then C else D) = .str (if c1 = k1 then A else if c1 = k2 then B else if c1 = k3 then C else D) := by simp only [decide_eq_true_eq]
  rw [nm] at pk
  rw [← eH]
  have lc := cLc_pure (ei := cItL (cVar 2)) (s := .own H0.length) (t := .tt [(.nm 3), (.nm 4)]) (vs := [3, 4]) (tt := cTru (cVar 4)) (te := cVar 3) (σ := [some (.ref n), some (.ref h.length), some (.ref H0.length), none, none]) (h := H0 ++ [FO.lst T]) (h1 := H0 ++ [FO.lst T]) (xs := T)
    (fun x => match x with | .tup [y, .bl true] => some y | _ => none) (by simp [cItL, lst_at]) (len_own (by simp)) (by rw [eT]; exact Nat.le_of_ble_eq_true rfl) (fun i h2 g => own_next (by simp) g i) (fun x hx h2 g => by
      rw [eT] at hx
      have one : ∀ (y : FV) (b : Bool), ∃ (σ1 : FSt) (b' : Bool), setT h2 (.tt [.nm 3, .nm 4]) (.tup [y, .bl b]) (wipeF [some (.ref n), some (.ref h.length), some (.ref H0.length), none, none] [3, 4]) = some σ1 ∧ cTru (cVar 4) σ1 h2 = .ok b' h2 ∧ ((b' = false ∧ (match FV.tup [y, .bl b] with | .tup [y, .bl true] => some y | _ => none) = none) ∨ (b' = true ∧ ∃ z, cVar 3 σ1 h2 = .ok z h2 ∧ (match FV.tup [y, .bl b] with | .tup [y, .bl true] => some y | _ => none) = some z)) := fun y b => by
        refine ⟨_, b, rfl, rfl, ?_⟩
        cases b with
        | false => exact .inl ⟨rfl, rfl⟩
        | true => exact .inr ⟨rfl, y, rfl, rfl⟩
      simp only [List.mem_cons, List.not_mem_nil, or_false] at hx
      rcases hx with rfl | rfl | rfl
      · exact one _ _
      · exact one _ _
      · exact one _ _)
  have pk2 : (T.filterMap fun x => match x with | .tup [y, .bl true] => some y | _ => none) ++ [FV.str D] = FV.str (if c1 = k1 then A else if c1 = k2 then B else if c1 = k3 then C else D) :: r := by rw [eT]; exact pk
  obtain ⟨F, eF⟩ : ∃ F, F = (T.filterMap fun x => match x with | .tup [y, .bl true] => some y | _ => none) := ⟨_, rfl⟩
  rw [← eF] at lc pk2
  have lF : F.length ≤ 4 := by
    have z := congrArg List.length pk2
    simp at z
    omega
  have z : sizeLine = 16777216 := by decide +kernel
  have ap := append_app (h := H0) (xs := [FV.tup [.str A, .bl (decide (c1 = k1))], .tup [.str B, .bl (decide (c1 = k2))]]) (y := .tup [.str C, .bl (decide (c1 = k3))]) (Nat.le_of_ble_eq_true rfl)
  obtain ⟨H1, eH1⟩ : ∃ H1, H1 = H0 ++ [FO.lst T] := ⟨_, rfl⟩
  rw [← eH1] at lc
  have ap1 : appendF (.ref H0.length) [.tup [.str C, .bl (decide (c1 = k3))]] (H0 ++ [FO.lst [FV.tup [.str A, .bl (decide (c1 = k1))], .tup [.str B, .bl (decide (c1 = k2))]]]) = some (.non, H1) := by rw [ap, eH1, eT]; rfl
  have add : addF (.ref H1.length) (.ref (H1 ++ [FO.lst F]).length) ((H1 ++ [FO.lst F]) ++ [FO.lst [.str D]]) = some (.ref ((H1 ++ [FO.lst F]) ++ [FO.lst [.str D]]).length, ((H1 ++ [FO.lst F]) ++ [FO.lst [.str D]]) ++ [FO.lst (FV.str (if c1 = k1 then A else if c1 = k2 then B else if c1 = k3 then C else D) :: r)]) := by
    have a1 : ((H1 ++ [FO.lst F]) ++ [FO.lst [.str D]])[H1.length]? = some (FO.lst F) := by simp
    have a2 : ((H1 ++ [FO.lst F]) ++ [FO.lst [.str D]])[(H1 ++ [FO.lst F]).length]? = some (FO.lst [.str D]) := by simp
    unfold addF
    simp only [a1, a2]
    rw [if_pos (by simp; omega), pk2]
  have at2 : (((H1 ++ [FO.lst F]) ++ [FO.lst [.str D]]) ++ [FO.lst (FV.str (if c1 = k1 then A else if c1 = k2 then B else if c1 = k3 then C else D) :: r)])[h.length + 1]? = some (.xdo fs) := by
    have l0 : h.length + 1 < H0.length := by rw [eH]; simp
    rw [eH1, List.append_assoc, List.append_assoc, List.append_assoc, List.getElem?_append_left l0]
    exact at1
  have ix := ix_lst (h := ((H1 ++ [FO.lst F]) ++ [FO.lst [.str D]]) ++ [FO.lst (FV.str (if c1 = k1 then A else if c1 = k2 then B else if c1 = k3 then C else D) :: r)]) (j := ((H1 ++ [FO.lst F]) ++ [FO.lst [.str D]]).length) (xs := FV.str (if c1 = k1 then A else if c1 = k2 then B else if c1 = k3 then C else D) :: r) (i := 0) (v := FV.str (if c1 = k1 then A else if c1 = k2 then B else if c1 = k3 then C else D)) (by simp) atI_head
  refine ⟨((H1 ++ [FO.lst F]) ++ [FO.lst [.str D]]) ++ [FO.lst (FV.str (if c1 = k1 then A else if c1 = k2 then B else if c1 = k3 then C else D) :: r)], ?_, ?_⟩
  · unfold hSuite
    simp only [a_sSeq, a_sAsg, a_sExpr, a_sRet, a_cLst, a_cCons, a_cNil, a_cTup, a_cC, a_cIsx, a_cVar, a_cLM, a_cBin, r_bind_ok, r_toS_ok, then_nx, List.getElem?_cons_succ, List.getElem?_cons_zero, List.set_cons_succ, List.set_cons_zero, List.length_cons, List.length_nil, small_ok (show 2 ≤ 1000 by decide), small_ok (show 1 ≤ 1000 by decide), if_true, isLst_app, ap1, r_of_some, lc, add, ix, Nat.reduceAdd]
    simp only [cXf, a_cVar, r_bind_ok, List.getElem?_cons_succ, List.getElem?_cons_zero, if_true, at2, fv, small_ok (show 2 ≤ 1000 by decide), List.length_cons, List.length_nil, Nat.reduceAdd, r_toS_ok]
  · rw [eH1, eH]
    simp only [List.append_assoc]
    exact .app
/-- the def that hears: try: return ("told", call()), and the clauses -/
def hHeardE (L : List Nat) (n : Nat) (d : Cl) : EvS := (sTry L (sRet (cTup (cCons (cC (.str "told")) (cCons (cClo 0 n d) cNil))))
    [⟨[6], (some 1), fun n1 c1 => (sRet (cTup (cCons (cC (.str "InvalidRow")) (cCons (cTup (cCons (cXf n1 "mode" (cVar 1)) (cCons (cXf n1 "number" (cVar 1)) cNil))) cNil))))⟩,
    ⟨[4, 5, 21], (some 1), fun n1 c1 => (sSeq (sAsg 2 (cLst (cCons (cTup (cCons (cC (.str "InvalidRegisters")) (cCons (cIsx n1 c1 4 (cVar 1)) cNil))) cNil)))
    (sSeq (sExpr (cLM appendF (cVar 2) (cCons (cTup (cCons (cC (.str "InvalidModes")) (cCons (cIsx n1 c1 5 (cVar 1)) cNil))) cNil)))
    (sRet (cTup (cCons (cBin ixF (cBin addF (cLc (cItL (cVar 2)) (.tt [(.nm 3), (.nm 4)]) [3, 4] (cTru (cVar 4)) (cVar 3)) (cLst (cCons (cC (.str "Endless")) cNil))) (cC (.int 0))) (cCons (cXf n1 "number" (cVar 1)) cNil))))))⟩,
    ⟨[12], (some 1), fun n1 c1 => (sRet (cTup (cCons (cC (.str "InvalidText")) (cCons (cXf n1 "line" (cVar 1)) cNil))))⟩,
    ⟨[22], none, fun n1 c1 => (sRet (cTup (cCons (cC (.str "DivisionByZero")) (cCons (cC .non) cNil))))⟩,
    ⟨[0, 1, 2, 18], (some 1), hSuite "InvalidRule" "InvalidNumber" "InvalidBase" "InvalidSign" "value" 0 1 2⟩,
    ⟨[7, 8, 10, 20], (some 1), hSuite "InvalidEnds" "InvalidResult" "InvalidFigures" "UnknownName" "value" 7 8 10⟩,
    ⟨[3, 9, 11, 30], none, fun n1 c1 => (sRet (cTup (cCons (cC (.str "another")) (cCons (cC .non) cNil))))⟩])
def hHeard (L : List Nat) : FnC := fun n d => cDef 5 (hHeardE L n d)
theorem heard_ok {L : List Nat} {n : Nat} {d : Cl} {h h' : FH} {v : FV} (e : d h = .ok v h') : hHeard L n d [.ref n] h = .ok (.tup [.str "told", v]) h' := by
  have b : (sRet (cTup (cCons (cC (.str "told")) (cCons (cClo 0 n d) cNil)))) [some (.ref n), none, none, none, none] h = .rt (.tup [.str "told", v]) h' := by
    simp [cClo, e]
  show (match sTry L _ _ [some (.ref n), none, none, none, none] h with
    | .nx _ h' => Res.ok FV.non h'
    | .rt v h' => .ok v h'
    | .ex c fs _ h' => .exc c fs h'
    | _ => .stuck) = _
  unfold sTry
  rw [b]
theorem heard_exc {L : List Nat} {n c : Nat} {d : Cl} {h h' : FH} {v : FV} {nm : Str} (e : d h = .exc c [("value", v)] h') (hL : L.contains c = true) (hc : (c = 0 ∧ nm = "InvalidRule") ∨ (c = 1 ∧ nm = "InvalidNumber") ∨ (c = 2 ∧ nm = "InvalidBase") ∨ (c = 18 ∧ nm = "InvalidSign") ∨ (c = 7 ∧ nm = "InvalidEnds") ∨ (c = 8 ∧ nm = "InvalidResult") ∨ (c = 10 ∧ nm = "InvalidFigures") ∨ (c = 20 ∧ nm = "UnknownName")) :
    ∃ h2 : FH, hHeard L n d [.ref n] h = .ok (.tup [.str nm, v]) h2 ∧ Grw h' h2 := by
  have b : (sRet (cTup (cCons (cC (.str "told")) (cCons (cClo 0 n d) cNil)))) [some (.ref n), none, none, none, none] h = .ex c [("value", v)] [some (.ref n), none, none, none, none] h' := by
    simp [cClo, e, Res.bind, Res.toS]
  have fv : ([(("value" : Str), v)] : List (Str × FV)).lookup ("value" : Str) = some v := rfl
  have go : ∀ (A B C D : Str) (k1 k2 k3 : Nat), ∃ h2 : FH, SR.unset (some 1) (hSuite A B C D "value" k1 k2 k3 h'.length c [some (.ref n), some (.ref h'.length), none, none, none] (h' ++ [.opq, .xdo [("value", v)]])) = .rt (.tup [.str (if c = k1 then A else if c = k2 then B else if c = k3 then C else D), v]) h2 ∧ Grw h' h2 := fun A B C D k1 k2 k3 => by
    obtain ⟨h2, q1, q2⟩ := @hSuite_ok A B C D "value" k1 k2 k3 c n h' [("value", v)] v fv
    exact ⟨h2, by rw [q1]; rfl, q2⟩
  have fin : ∀ h2 : FH, sTry L (sRet (cTup (cCons (cC (.str "told")) (cCons (cClo 0 n d) cNil)))) _ [some (.ref n), none, none, none, none] h = .rt (.tup [.str nm, v]) h2 → hHeard L n d [.ref n] h = .ok (.tup [.str nm, v]) h2 := fun h2 q => cDef_rt (ev := hHeardE L n d) q
  have run : ∀ hs : List Hd, sTry L (sRet (cTup (cCons (cC (.str "told")) (cCons (cClo 0 n d) cNil)))) hs [some (.ref n), none, none, none, none] h = runH hs c [("value", v)] [some (.ref n), none, none, none, none] h' := fun hs => by
    unfold sTry
    rw [b]
    exact if_pos hL
  rcases hc with ⟨rfl, rfl⟩ | ⟨rfl, rfl⟩ | ⟨rfl, rfl⟩ | ⟨rfl, rfl⟩ | ⟨rfl, rfl⟩ | ⟨rfl, rfl⟩ | ⟨rfl, rfl⟩ | ⟨rfl, rfl⟩
  · obtain ⟨h2, q1, q2⟩ := go "InvalidRule" "InvalidNumber" "InvalidBase" "InvalidSign" 0 1 2
    exact ⟨h2, fin h2 ((run _).trans q1), q2⟩
  · obtain ⟨h2, q1, q2⟩ := go "InvalidRule" "InvalidNumber" "InvalidBase" "InvalidSign" 0 1 2
    exact ⟨h2, fin h2 ((run _).trans q1), q2⟩
  · obtain ⟨h2, q1, q2⟩ := go "InvalidRule" "InvalidNumber" "InvalidBase" "InvalidSign" 0 1 2
    exact ⟨h2, fin h2 ((run _).trans q1), q2⟩
  · obtain ⟨h2, q1, q2⟩ := go "InvalidRule" "InvalidNumber" "InvalidBase" "InvalidSign" 0 1 2
    exact ⟨h2, fin h2 ((run _).trans q1), q2⟩
  · obtain ⟨h2, q1, q2⟩ := go "InvalidEnds" "InvalidResult" "InvalidFigures" "UnknownName" 7 8 10
    exact ⟨h2, fin h2 ((run _).trans q1), q2⟩
  · obtain ⟨h2, q1, q2⟩ := go "InvalidEnds" "InvalidResult" "InvalidFigures" "UnknownName" 7 8 10
    exact ⟨h2, fin h2 ((run _).trans q1), q2⟩
  · obtain ⟨h2, q1, q2⟩ := go "InvalidEnds" "InvalidResult" "InvalidFigures" "UnknownName" 7 8 10
    exact ⟨h2, fin h2 ((run _).trans q1), q2⟩
  · obtain ⟨h2, q1, q2⟩ := go "InvalidEnds" "InvalidResult" "InvalidFigures" "UnknownName" 7 8 10
    exact ⟨h2, fin h2 ((run _).trans q1), q2⟩
/-- f(lambda: call) -/
theorem lam_ok {m : Nat} {g : FnC} {el : EvE} {σ : FSt} {h : FH} {r : Res FV} (hm : m = 1) (q : g h.length (fun h2 => el σ h2) [.ref h.length] (h ++ [.opq]) = r) : cLam m g el cNil σ h = r := by
  subst hm
  exact q
end FX
set_option maxRecDepth 100000
set_option maxHeartbeats 4000000
namespace FX
open PySem PySem.Spec PyProof.Rows L2
/-! ### figures of a number -/
def dgs (s n : Nat) : List Nat := if h : n = 0 ∨ s < 2 then [] else n % s :: dgs s (n / s)
termination_by n
decreasing_by exact Nat.div_lt_self (by omega) (by omega)
theorem dgs_zero (s : Nat) : dgs s 0 = [] := by rw [dgs]; simp
theorem dgs_succ {s n : Nat} (hs : 2 ≤ s) (hn : n ≠ 0) : dgs s n = n % s :: dgs s (n / s) := by
  rw [dgs, dif_neg (by omega)]
def evs (s : Nat) : List Nat → Nat
  | [] => 0
  | d :: ds => d + s * evs s ds
theorem evs_dgs {s : Nat} (hs : 2 ≤ s) (n : Nat) : evs s (dgs s n) = n := by
  induction n using Nat.strongRecOn with
  | _ n ih =>
    by_cases z : n = 0
    · subst z; rw [dgs_zero]; rfl
    · rw [dgs_succ hs z]
      show n % s + s * evs s (dgs s (n / s)) = n
      rw [ih (n / s) (Nat.div_lt_self (by omega) (by omega)), Nat.mod_add_div]
theorem dgs_lt {s : Nat} (hs : 2 ≤ s) (n : Nat) : ∀ d ∈ dgs s n, d < s := by
  induction n using Nat.strongRecOn with
  | _ n ih =>
    by_cases z : n = 0
    · subst z; rw [dgs_zero]; intro d hd; cases hd
    · rw [dgs_succ hs z]
      intro d hd
      rcases List.mem_cons.mp hd with y | y
      · rw [y]; exact Nat.mod_lt _ (by omega)
      · exact ih (n / s) (Nat.div_lt_self (by omega) (by omega)) d y
theorem dgs_len {s : Nat} (hs : 2 ≤ s) : ∀ (k n : Nat), n < 2 ^ k → (dgs s n).length ≤ k
  | 0, n, h => by
    have z : n = 0 := by simpa using h
    rw [z, dgs_zero]; exact Nat.le_refl _
  | k + 1, n, h => by
    by_cases z : n = 0
    · rw [z, dgs_zero]; exact Nat.zero_le _
    · rw [dgs_succ hs z, List.length_cons]
      refine Nat.succ_le_succ (dgs_len hs k (n / s) ?_)
      rw [Nat.pow_succ] at h
      exact Nat.lt_of_le_of_lt (Nat.div_le_div_left hs (by decide)) (by omega)
theorem dgs_last {s : Nat} (hs : 2 ≤ s) (n : Nat) : dgs s n = [] ∨ ∃ d, (dgs s n).getLast? = some d ∧ 0 < d := by
  induction n using Nat.strongRecOn with
  | _ n ih =>
    by_cases z : n = 0
    · subst z; rw [dgs_zero]; exact .inl rfl
    · rw [dgs_succ hs z]
      rcases ih (n / s) (Nat.div_lt_self (by omega) (by omega)) with q | ⟨d, q, l⟩
      · refine .inr ⟨n % s, by rw [q]; rfl, ?_⟩
        by_cases y : n / s = 0
        · have : n < s := by
            rcases Nat.div_eq_zero_iff.mp y with a | a <;> omega
          rw [Nat.mod_eq_of_lt this]; omega
        · rw [dgs_succ hs y] at q; cases q
      · refine .inr ⟨d, ?_, l⟩
        rw [List.getLast?_cons, q]; rfl
/-- figures make a number whose figures they are -/
theorem dgs_evs {s : Nat} (hs : 2 ≤ s) : ∀ {ds : List Nat}, (∀ d ∈ ds, d < s) → (ds = [] ∨ ∃ d, ds.getLast? = some d ∧ 0 < d) → dgs s (evs s ds) = ds
  | [], _, _ => dgs_zero s
  | d :: ds, h, l => by
    have hd := h d List.mem_cons_self
    have ht : ds = [] ∨ ∃ e, ds.getLast? = some e ∧ 0 < e := by
      cases ds with
      | nil => exact .inl rfl
      | cons e r =>
        rcases l with z | ⟨x, q, p⟩
        · cases z
        · exact .inr ⟨x, by rw [List.getLast?_cons_cons] at q; exact q, p⟩
    have ih := dgs_evs hs (fun x hx => h x (List.mem_cons_of_mem _ hx)) ht
    have pos : d + s * evs s ds ≠ 0 := by
      intro z
      have z1 : d = 0 := by omega
      have z2 : s * evs s ds = 0 := by omega
      have z3 : evs s ds = 0 := by
        rcases Nat.mul_eq_zero.mp z2 with a | a <;> omega
      rw [z3, dgs_zero] at ih
      rcases l with y | ⟨x, q, p⟩
      · cases y
      · rw [← ih] at q
        have : d = x := Option.some.inj q
        omega
    show dgs s (d + s * evs s ds) = d :: ds
    rw [dgs_succ hs pos, Nat.add_mul_mod_self_left, Nat.mod_eq_of_lt hd, Nat.add_mul_div_left _ _ (by omega), Nat.div_eq_of_lt hd, Nat.zero_add, ih]
theorem evs_lt {s : Nat} (hs : 0 < s) : ∀ {ds : List Nat}, (∀ d ∈ ds, d < s) → evs s ds < s ^ ds.length
  | [], _ => by show 0 < s ^ 0; simp
  | d :: ds, h => by
    have ih := evs_lt hs fun x hx => h x (List.mem_cons_of_mem _ hx)
    have hd := h d List.mem_cons_self
    show d + s * evs s ds < s ^ (ds.length + 1)
    rw [Nat.pow_succ, Nat.mul_comm (s ^ ds.length)]
    have : s * (evs s ds + 1) ≤ s * s ^ ds.length := Nat.mul_le_mul_left _ ih
    rw [Nat.mul_add] at this
    omega
abbrev figL (ds : List Nat) : List FV := ds.map fun (d : Nat) => FV.int (d : Int)
/-! ### kinds -/
def Kd (h : FH) (v : FV) : Prop := ∃ t, kindF v h = some t
theorem Kd.grw {h h' : FH} {v : FV} (a : Kd h v) (g : Grw h h') : Kd h' v := by
  obtain ⟨t, q⟩ := a
  refine ⟨t, ?_⟩
  cases v with
  | ref n =>
    simp only [kindF] at q ⊢
    split at q
    · rename_i z; rw [g.at_ z]; exact q
    · rename_i z; rw [g.at_ z]; exact q
    · rename_i z; rw [g.at_ z]; exact q
    · cases q
  | _ => exact q
theorem kd_non {h : FH} : Kd h .non := ⟨_, rfl⟩
theorem kd_bl {h : FH} {b : Bool} : Kd h (.bl b) := ⟨_, rfl⟩
theorem kd_int {h : FH} {i : Int} : Kd h (.int i) := ⟨_, rfl⟩
theorem kd_str {h : FH} {x : Str} : Kd h (.str x) := ⟨_, rfl⟩
theorem kd_tup {h : FH} {xs : List FV} : Kd h (.tup xs) := ⟨_, rfl⟩
theorem kd_lst {h : FH} {n : Nat} {xs : List FV} (e : h[n]? = some (.lst xs)) : Kd h (.ref n) := ⟨.lst, by simp only [kindF, e]⟩
/-- an integer, other than True and False -/
def wh : FV → Bool
  | .int _ => true
  | _ => false
def bw (a b : Int) : FV → Bool
  | .int i => decide (a ≤ i) && decide (i ≤ b)
  | _ => false
def sg : FV → Bool
  | .int i => decide (i = -1) || decide (i = 1)
  | _ => false
def isTup : FV → Bool
  | .tup _ => true
  | _ => false
section
variable {h : FH} {v : FV}
theorem isi_ok {t u : BT} {n : String} (q : kindF v h = some t) (b : btOf n = some u) : isiF [v, .ty n] h = some (.bl (subB t u), h) := by
  simp only [isiF, q, b]
theorem wh_kind {t : BT} (q : kindF v h = some t) : wh v = (subB t .int && !subB t .bl) := by
  cases v with
  | ref n =>
    simp only [kindF] at q
    split at q <;> first | (cases q; rfl) | cases q
  | cls c => cases q
  | ty n => cases q
  | _ => cases q; rfl
theorem tup_kind {t : BT} (q : kindF v h = some t) : isTup v = subB t .tup := by
  cases v with
  | ref n =>
    simp only [kindF] at q
    split at q <;> first | (cases q; rfl) | cases q
  | cls c => cases q
  | ty n => cases q
  | _ => cases q; rfl
/-- isinstance(value, int) and not isinstance(value, bool) -/
def jIntE : EvS := (sRet (cAnd (cCB isiF (cCons (cVar 0) (cCons (cC (.ty "int")) cNil))) (cNot (cCB isiF (cCons (cVar 0) (cCons (cC (.ty "bool")) cNil))))))
def jInt : Fn := cDef 1 jIntE
theorem jInt_ok (k : Kd h v) : jInt [v] h = .ok (.bl (wh v)) h := by
  obtain ⟨t, q⟩ := k
  rw [wh_kind q]
  refine cDef_rt (ev := jIntE) ?_
  simp only [jIntE, List.map_cons, List.map_nil, List.length_cons, List.length_nil, a_sRet, a_cAnd, a_cCB, a_cCons, a_cVar, a_cC, a_cNil, a_cNot, r_bind_ok, List.cons_append, List.getElem?_cons_zero, isi_ok q (show btOf "int" = some .int from rfl), isi_ok q (show btOf "bool" = some .bl from rfl), r_of_some]
  cases subB t .int <;> rfl
/-- is_integer(value) and least <= value <= greatest -/
def jBetE (g : Fn) : EvS := (sRet (cAnd (cCall 1 g (cCons (cVar 0) cNil)) (cChain leF leF (cVar 1) (cVar 0) (cVar 2))))
def jBet : Fn := cDef 3 (jBetE jInt)
theorem jBet_ok {a b : Int} (k : Kd h v) : jBet [v, .int a, .int b] h = .ok (.bl (bw a b v)) h := by
  refine cDef_rt (ev := jBetE jInt) ?_
  simp only [jBetE, List.map_cons, List.map_nil, List.length_cons, List.length_nil, a_sRet, a_cAnd, a_cCall, a_cCons, a_cVar, a_cNil, r_bind_ok, List.cons_append, List.getElem?_cons_zero, List.getElem?_cons_succ, jInt_ok k, if_true]
  cases v with
  | int i =>
    simp only [wh, if_true, a_cChain, a_cVar, List.getElem?_cons_zero, List.getElem?_cons_succ, r_bind_ok, le_int, r_of_some, bw]
    by_cases z : a ≤ i <;> simp [z]
  | _ => rfl
/-- is_integer(value) and value in (-1, 1) -/
def jSgnE (g : Fn) : EvS := (sRet (cAnd (cCall 1 g (cCons (cVar 0) cNil)) (cBin inF (cVar 0) (cTup (cCons (cNeg (cC (.int 1))) (cCons (cC (.int 1)) cNil))))))
def jSgn : Fn := cDef 1 (jSgnE jInt)
theorem jSgn_ok (k : Kd h v) : jSgn [v] h = .ok (.bl (sg v)) h := by
  refine cDef_rt (ev := jSgnE jInt) ?_
  simp only [jSgnE, List.map_cons, List.map_nil, List.length_cons, List.length_nil, a_sRet, a_cAnd, a_cCall, a_cCons, a_cVar, a_cNil, r_bind_ok, List.cons_append, List.getElem?_cons_zero, List.getElem?_cons_succ, jInt_ok k, if_true]
  cases v with
  | int i =>
    simp only [wh, if_true, a_cBin, a_cVar, a_cTup, a_cCons, a_cNeg, a_cC, a_cNil, List.getElem?_cons_zero, r_bind_ok, List.length_cons, List.length_nil, small_ok (show 2 ≤ 1000 by decide), Nat.reduceAdd, in_int2, r_of_some, sg, r_toS_ok]
  | _ => rfl
/-- whole and 2 <= thing <= 10 -/
def jSizE (g : Fn) : EvS := (sRet (cAnd (cCall 1 g (cCons (cVar 0) cNil)) (cChain leF leF (cC (.int 2)) (cVar 0) (cC (.int 10)))))
def jSiz : Fn := cDef 1 (jSizE jInt)
theorem jSiz_ok (k : Kd h v) : jSiz [v] h = .ok (.bl (bw 2 10 v)) h := by
  refine cDef_rt (ev := jSizE jInt) ?_
  simp only [jSizE, List.map_cons, List.map_nil, List.length_cons, List.length_nil, a_sRet, a_cAnd, a_cCall, a_cCons, a_cVar, a_cNil, r_bind_ok, List.cons_append, List.getElem?_cons_zero, List.getElem?_cons_succ, jInt_ok k, if_true]
  cases v with
  | int i =>
    simp only [wh, if_true, a_cChain, a_cC, a_cVar, List.getElem?_cons_zero, List.getElem?_cons_succ, r_bind_ok, le_int, r_of_some, bw]
    by_cases z : 2 ≤ i <;> simp [z]
  | _ => rfl
end
end FX
set_option maxRecDepth 100000
set_option maxHeartbeats 4000000
namespace RU
open PySem PySem.Spec PyProof.Rows L2 FX
def v_RULES : FV := (.tup [(.str "down"), (.str "up"), (.str "zero"), (.str "positive"), (.str "near")])
def e_is_greater : EvS := (sMatch (cVar 0) (mVal (cC (.str "down")) (sRet (cBin ltF (cBin mulF (cVar 1) (cVar 2)) (cC (.int 0)))) (mVal (cC (.str "up")) (sRet (cBin gtF (cBin mulF (cVar 1) (cVar 2)) (cC (.int 0)))) (mVal (cC (.str "positive")) (sRet (cBin ltF (cVar 1) (cC (.int 0)))) (mVal (cC (.str "near")) (sRet (cOr (cBin gtF (cBin mulF (cC (.int 2)) (cVar 3)) (cVar 4)) (cAnd (cBin eqF (cBin mulF (cC (.int 2)) (cVar 3)) (cVar 4)) (cBin ltF (cVar 1) (cC (.int 0)))))) (mWild (sRet (cC (.bl false)))))))))
def g_is_greater : Fn := cDef 5 e_is_greater
def e_sign_of : EvS := (sRet (cBin subF (cCB intF (cCons (cBin gtF (cVar 0) (cC (.int 0))) cNil)) (cCB intF (cCons (cBin ltF (cVar 0) (cC (.int 0))) cNil))))
def g_sign_of : Fn := cDef 1 e_sign_of
def e_carried : EvS := (sSeq (sAsg 4 (cCB absF (cCons (cVar 2) cNil)))
    (sSeq (sIf (cTb (cBin eqF (cVar 3) (cVar 4))) (sRet (cTup (cCons (cC (.int 1)) (cCons (cC (.int 0)) cNil)))) sSkip)
    (sSeq (sIf (cAndT (cTb (cBin gtF (cVar 3) (cC (.int 0)))) (cTru (cCall 5 g_is_greater (cCons (cVar 0) (cCons (cVar 1) (cCons (cCall 1 g_sign_of (cCons (cVar 2) cNil)) (cCons (cVar 3) (cCons (cVar 4) cNil)))))))) (sRet (cTup (cCons (cC (.int 1)) (cCons (cBin mulF (cVar 1) (cBin subF (cVar 3) (cVar 4))) cNil)))) sSkip)
    (sRet (cTup (cCons (cC (.int 0)) (cCons (cBin mulF (cVar 1) (cVar 3)) cNil)))))))
def g_carried : Fn := cDef 5 e_carried
def e_is_integer : EvS := (sRet (cAnd (cCB isiF (cCons (cVar 0) (cCons (cC (.ty "int")) cNil))) (cNot (cCB isiF (cCons (cVar 0) (cCons (cC (.ty "bool")) cNil))))))
def g_is_integer : Fn := cDef 1 e_is_integer
def e_is_base : EvS := (sRet (cAnd (cCall 1 g_is_integer (cCons (cVar 0) cNil)) (cChain leF leF (cC (.int 2)) (cCB absF (cCons (cVar 0) cNil)) (cC (.int 10)))))
def g_is_base : Fn := cDef 1 e_is_base
def e_is_between : EvS := (sRet (cAnd (cCall 1 g_is_integer (cCons (cVar 0) cNil)) (cChain leF leF (cVar 1) (cVar 0) (cVar 2))))
def g_is_between : Fn := cDef 3 e_is_between
def e_is_sign : EvS := (sRet (cAnd (cCall 1 g_is_integer (cCons (cVar 0) cNil)) (cBin inF (cVar 0) (cTup (cCons (cNeg (cC (.int 1))) (cCons (cC (.int 1)) cNil))))))
def g_is_sign : Fn := cDef 1 e_is_sign
def e_is_rule : EvS := (sRet (cAnd (cCB isiF (cCons (cVar 0) (cCons (cC (.ty "str")) cNil))) (cBin inF (cVar 0) (cC v_RULES))))
def g_is_rule : Fn := cDef 1 e_is_rule
def e_require_rule : EvS := (sIf (cNotT (cTru (cCall 1 g_is_rule (cCons (cVar 0) cNil)))) (sRaise 0 ["value"] (cCons (cVar 0) cNil)) sSkip)
def g_require_rule : Fn := cDef 1 e_require_rule
def e_carry : EvS := (sSeq (sExpr (cCall 1 g_require_rule (cCons (cVar 0) cNil)))
    (sSeq (sIf (cNotT (cTru (cCall 1 g_is_sign (cCons (cVar 1) cNil)))) (sRaise 18 ["value"] (cCons (cVar 1) cNil)) sSkip)
    (sSeq (sIf (cNotT (cTru (cCall 1 g_is_base (cCons (cVar 2) cNil)))) (sRaise 2 ["value"] (cCons (cVar 2) cNil)) sSkip)
    (sSeq (sIf (cNotT (cTru (cCall 3 g_is_between (cCons (cVar 3) (cCons (cC (.int 0)) (cCons (cCB absF (cCons (cVar 2) cNil)) cNil)))))) (sRaise 1 ["value"] (cCons (cVar 3) cNil)) sSkip)
    (sRet (cCall 4 g_carried (cCons (cVar 0) (cCons (cVar 1) (cCons (cVar 2) (cCons (cVar 3) cNil))))))))))
def g_carry : Fn := cDef 4 e_carry
def e__law_kd_divide : EvS := (sSeq (sAsg 3 (cCB absF (cCons (cVar 2) cNil)))
    (sSeq (sIf (cTb (cBin eqF (cVar 0) (cC (.str "zero")))) (sAsg 0 (cIf (cTb (cBin eqF (cBin geF (cVar 1) (cC (.int 0))) (cBin gtF (cVar 2) (cC (.int 0))))) (cC (.str "down")) (cC (.str "up")))) sSkip)
    (sSeq (sIf (cTb (cBin eqF (cVar 0) (cC (.str "down")))) (sAsg 4 (cBin divF (cVar 1) (cVar 2))) (sIf (cTb (cBin eqF (cVar 0) (cC (.str "up")))) (sAsg 4 (cNeg (cBin divF (cNeg (cVar 1)) (cVar 2)))) (sSeq (sAsg 5 (cBin modF (cVar 1) (cVar 3)))
    (sSeq (sAsg 5 (cIf (cAndT (cTb (cBin eqF (cVar 0) (cC (.str "near")))) (cTb (cBin gtF (cBin mulF (cC (.int 2)) (cVar 5)) (cVar 3)))) (cBin subF (cVar 5) (cVar 3)) (cVar 5)))
    (sAsg 4 (cBin divF (cBin subF (cVar 1) (cVar 5)) (cVar 2)))))))
    (sRet (cTup (cCons (cVar 4) (cCons (cBin subF (cVar 1) (cBin mulF (cVar 4) (cVar 2))) cNil)))))))
def g__law_kd_divide : Fn := cDef 6 e__law_kd_divide
def e__law_kd_carry : EvS := (sSeq (sAsgT (.tp [(.nm 4), (.nm 5)]) (cCall 3 g__law_kd_divide (cCons (cVar 0) (cCons (cBin mulF (cVar 1) (cBin addF (cBin mulF (cC (.int 5)) (cCB absF (cCons (cVar 2) cNil))) (cVar 3))) (cCons (cVar 2) cNil)))))
    (sRet (cTup (cCons (cBin subF (cBin mulF (cIf (cTb (cBin gtF (cVar 2) (cC (.int 0)))) (cVar 4) (cNeg (cVar 4))) (cVar 1)) (cC (.int 5))) (cCons (cVar 5) cNil)))))
def g__law_kd_carry : Fn := cDef 6 e__law_kd_carry
def e__law_kd_is_whole : EvS := (sRet (cAnd (cCB isiF (cCons (cVar 0) (cCons (cC (.ty "int")) cNil))) (cNot (cCB isiF (cCons (cVar 0) (cCons (cC (.ty "bool")) cNil))))))
def g__law_kd_is_whole : Fn := cDef 1 e__law_kd_is_whole
def e__law_kd_is_base : EvS := (sRet (cAnd (cCall 1 g__law_kd_is_whole (cCons (cVar 0) cNil)) (cChain leF leF (cC (.int 2)) (cCB absF (cCons (cVar 0) cNil)) (cC (.int 10)))))
def g__law_kd_is_base : Fn := cDef 1 e__law_kd_is_base
def e__law_kd_rules : EvS := (sRet (cLst (cCons (cC (.str "down")) (cCons (cC (.str "up")) (cCons (cC (.str "zero")) (cCons (cC (.str "positive")) (cCons (cC (.str "near")) cNil)))))))
def g__law_kd_rules : Fn := cDef 0 e__law_kd_rules
def e__law_kd_is_rule : EvS := (sRet (cAnd (cCB isiF (cCons (cVar 0) (cCons (cC (.ty "str")) cNil))) (cBin inF (cVar 0) (cCall 0 g__law_kd_rules cNil))))
def g__law_kd_is_rule : Fn := cDef 1 e__law_kd_is_rule
def e__law_carry_due : EvS := (sSeq (sIf (cNotT (cTru (cCall 1 g__law_kd_is_rule (cCons (cVar 0) cNil)))) (sRet (cTup (cCons (cC (.str "InvalidRule")) (cCons (cVar 0) cNil)))) sSkip)
    (sSeq (sIf (cOrT (cNotT (cTru (cCall 1 g__law_kd_is_whole (cCons (cVar 1) cNil)))) (cTb (cBin neF (cCB absF (cCons (cVar 1) cNil)) (cC (.int 1))))) (sRet (cTup (cCons (cC (.str "InvalidSign")) (cCons (cVar 1) cNil)))) sSkip)
    (sSeq (sIf (cNotT (cTru (cCall 1 g__law_kd_is_base (cCons (cVar 2) cNil)))) (sRet (cTup (cCons (cC (.str "InvalidBase")) (cCons (cVar 2) cNil)))) sSkip)
    (sSeq (sIf (cOrT (cNotT (cTru (cCall 1 g__law_kd_is_whole (cCons (cVar 3) cNil)))) (cNotT (cTb (cChain leF leF (cC (.int 0)) (cVar 3) (cCB absF (cCons (cVar 2) cNil)))))) (sRet (cTup (cCons (cC (.str "InvalidNumber")) (cCons (cVar 3) cNil)))) sSkip)
    (sRet (cTup (cCons (cC (.str "told")) (cCons (cCall 4 g__law_kd_carry (cCons (cVar 0) (cCons (cVar 1) (cCons (cVar 2) (cCons (cVar 3) cNil))))) cNil))))))))
def g__law_carry_due : Fn := cDef 4 e__law_carry_due
def e_divided : EvS := (sSeq (sPar 3 4 (cCons (cCB absF (cCons (cVar 2) cNil)) (cCons (cCall 1 g_sign_of (cCons (cVar 1) cNil)) cNil)))
    (sSeq (sAsgT (.tp [(.nm 5), (.nm 6)]) (cCB divmodF (cCons (cCB absF (cCons (cVar 1) cNil)) (cCons (cVar 3) cNil))))
    (sSeq (sIf (cAndT (cTb (cBin gtF (cVar 6) (cC (.int 0)))) (cTru (cCall 5 g_is_greater (cCons (cVar 0) (cCons (cVar 4) (cCons (cCall 1 g_sign_of (cCons (cVar 2) cNil)) (cCons (cVar 6) (cCons (cVar 3) cNil)))))))) (sPar 5 6 (cCons (cBin addF (cVar 5) (cC (.int 1))) (cCons (cBin subF (cVar 6) (cVar 3)) cNil))) sSkip)
    (sRet (cTup (cCons (cBin mulF (cBin mulF (cVar 4) (cCall 1 g_sign_of (cCons (cVar 2) cNil))) (cVar 5)) (cCons (cBin mulF (cVar 4) (cVar 6)) cNil)))))))
def g_divided : Fn := cDef 7 e_divided
def e_divide : EvS := (sSeq (sExpr (cCall 1 g_require_rule (cCons (cVar 0) cNil)))
    (sSeq (sIf (cNotT (cTru (cCall 1 g_is_integer (cCons (cVar 1) cNil)))) (sRaise 1 ["value"] (cCons (cVar 1) cNil)) sSkip)
    (sSeq (sIf (cOrT (cNotT (cTru (cCall 1 g_is_integer (cCons (cVar 2) cNil)))) (cTb (cBin eqF (cVar 2) (cC (.int 0))))) (sRaise 2 ["value"] (cCons (cVar 2) cNil)) sSkip)
    (sRet (cCall 3 g_divided (cCons (cVar 0) (cCons (cVar 1) (cCons (cVar 2) cNil))))))))
def g_divide : Fn := cDef 3 e_divide
def e__law_divide_due : EvS := (sSeq (sIf (cNotT (cTru (cCall 1 g__law_kd_is_rule (cCons (cVar 0) cNil)))) (sRet (cTup (cCons (cC (.str "InvalidRule")) (cCons (cVar 0) cNil)))) sSkip)
    (sSeq (sIf (cNotT (cTru (cCall 1 g__law_kd_is_whole (cCons (cVar 1) cNil)))) (sRet (cTup (cCons (cC (.str "InvalidNumber")) (cCons (cVar 1) cNil)))) sSkip)
    (sSeq (sIf (cOrT (cNotT (cTru (cCall 1 g__law_kd_is_whole (cCons (cVar 2) cNil)))) (cTb (cBin eqF (cVar 2) (cC (.int 0))))) (sRet (cTup (cCons (cC (.str "InvalidBase")) (cCons (cVar 2) cNil)))) sSkip)
    (sRet (cTup (cCons (cC (.str "told")) (cCons (cCall 3 g__law_kd_divide (cCons (cVar 0) (cCons (cVar 1) (cCons (cVar 2) cNil)))) cNil)))))))
def g__law_divide_due : Fn := cDef 3 e__law_divide_due
inductive Ru where | down | up | zero | positive | near
  deriving DecidableEq
def Ru.s : Ru → Str
  | .down => "down"
  | .up => "up"
  | .zero => "zero"
  | .positive => "positive"
  | .near => "near"
theorem s_is_integer (v : Int) (h : FH) : g_is_integer [.int v] h = .ok (.bl true) h := rfl
theorem s_is_whole (v : Int) (h : FH) : g__law_kd_is_whole [.int v] h = .ok (.bl true) h := rfl
theorem s_sign_of (n : Int) (h : FH) : g_sign_of [.int n] h = .ok (.int n.sign) h := by
  have e : g_sign_of [.int n] h = .ok (.int ((if decide (0 < n) = true then 1 else 0) - (if decide (n < 0) = true then 1 else 0))) h := rfl
  rw [e]
  rcases Int.lt_trichotomy n 0 with q | q | q
  · rw [Int.sign_eq_neg_one_of_neg q]; simp [q, Int.le_of_lt q, Int.not_lt.mpr (Int.le_of_lt q)]
  · subst q; rfl
  · rw [Int.sign_eq_one_of_pos q]; simp [q, Int.not_lt.mpr (Int.le_of_lt q)]
theorem s_is_rule (r : Ru) (h : FH) : g_is_rule [.str r.s] h = .ok (.bl true) h := by cases r <;> kernel_rfl
theorem s_require_rule (r : Ru) (h : FH) : g_require_rule [.str r.s] h = .ok .non h := by cases r <;> kernel_rfl
theorem eq_down (r : Ru) (h : FH) : eqF (.str r.s) (.str "down") h = some (.bl (decide (r = .down)), h) := by cases r <;> kernel_rfl
theorem eq_up (r : Ru) (h : FH) : eqF (.str r.s) (.str "up") h = some (.bl (decide (r = .up)), h) := by cases r <;> kernel_rfl
theorem eq_zero (r : Ru) (h : FH) : eqF (.str r.s) (.str "zero") h = some (.bl (decide (r = .zero)), h) := by cases r <;> kernel_rfl
theorem eq_positive (r : Ru) (h : FH) : eqF (.str r.s) (.str "positive") h = some (.bl (decide (r = .positive)), h) := by cases r <;> kernel_rfl
theorem eq_near (r : Ru) (h : FH) : eqF (.str r.s) (.str "near") h = some (.bl (decide (r = .near)), h) := by cases r <;> kernel_rfl
def gr (r : Ru) (sign ds part size : Int) : Bool := match r with
  | .down => decide (sign * ds < 0)
  | .up => decide (0 < sign * ds)
  | .positive => decide (sign < 0)
  | .near => decide (size < 2 * part) || (decide (2 * part = size) && decide (sign < 0))
  | .zero => false
theorem s_is_greater (r : Ru) {sign ds part size : Int} (h : FH) (a : sm sign = true) (b : sm ds = true) (c : sm part = true) : g_is_greater [.str r.s, .int sign, .int ds, .int part, .int size] h = .ok (.bl (gr r sign ds part size)) h := by
  have c2 : sm 2 = true := by decide +kernel
  cases r <;> simp [g_is_greater, e_is_greater, cDef, gr, sMatch, mVal, mWild, eq_down, eq_up, eq_positive, eq_near, x_mul, a, b, c, c2]
  by_cases q : size < 2 * part
  · simp [q]
  · by_cases q2 : 2 * part = size <;> simp [q, q2]
def dvd (r : Ru) (x d : Int) : Int × Int :=
  let size : Int := d.natAbs
  let whole : Int := (x.natAbs : Int) / size
  let part : Int := (x.natAbs : Int) % size
  if 0 < part ∧ gr r x.sign d.sign part size = true then (x.sign * d.sign * (whole + 1), x.sign * (part - size)) else (x.sign * d.sign * whole, x.sign * part)
theorem sm_sign (x : Int) : sm x.sign = true := by
  rcases Int.lt_trichotomy x 0 with q | q | q
  · rw [Int.sign_eq_neg_one_of_neg q]; decide +kernel
  · subst q; decide +kernel
  · rw [Int.sign_eq_one_of_pos q]; decide +kernel
theorem sign_le (x : Int) : x.sign.natAbs ≤ 1 := by
  rcases Int.lt_trichotomy x 0 with q | q | q
  · rw [Int.sign_eq_neg_one_of_neg q]; decide
  · subst q; decide
  · rw [Int.sign_eq_one_of_pos q]; decide
theorem sm_sign2 (x d : Int) : sm (x.sign * d.sign) = true := sm_of (n := 1) (by rw [Int.natAbs_mul]; exact Nat.mul_le_mul (sign_le x) (sign_le d)) (Nat.one_le_pow _ _ (by decide))
theorem pow_slack : (10 : Nat) ^ 600 + 1 ≤ 10 ^ 2000 := by decide +kernel
theorem s_divided (r : Ru) {x d : Int} (h : FH) (hx : lm x) (hd : lm d) (d0 : d ≠ 0) : g_divided [.str r.s, .int x, .int d] h = .ok (.tup [.int (dvd r x d).1, .int (dvd r x d).2]) h := by
  have d1 : (0 : Int) < d.natAbs := by omega
  have hs : sm (d.natAbs : Int) = true := lm.sm (by unfold lm at *; exact hd)
  have p1 : 0 ≤ (x.natAbs : Int) % d.natAbs := Int.emod_nonneg _ (by omega)
  have p2 : (x.natAbs : Int) % d.natAbs < d.natAbs := Int.emod_lt_of_pos _ d1
  have w0 : 0 ≤ (x.natAbs : Int) / d.natAbs := Int.ediv_nonneg (by omega) (by omega)
  have w1 : (x.natAbs : Int) / d.natAbs ≤ x.natAbs := Int.ediv_le_self _ (by omega)
  unfold lm at hx hd
  have sp : sm ((x.natAbs : Int) % d.natAbs) = true := sm_of (n := 10 ^ 600) (by omega) (Nat.le_trans (Nat.le_succ _) pow_slack)
  have sp2 : sm ((x.natAbs : Int) % d.natAbs - d.natAbs) = true := sm_of (n := 10 ^ 600) (by omega) (Nat.le_trans (Nat.le_succ _) pow_slack)
  have sw : sm ((x.natAbs : Int) / d.natAbs) = true := sm_of (n := 10 ^ 600) (by omega) (Nat.le_trans (Nat.le_succ _) pow_slack)
  have sw2 : sm ((x.natAbs : Int) / d.natAbs + 1) = true := sm_of (n := 10 ^ 600 + 1) (by omega) pow_slack
  have g0 := s_is_greater r (sign := x.sign) (ds := d.sign) (part := (x.natAbs : Int) % d.natAbs) (size := d.natAbs) h (sm_sign x) (sm_sign d) sp
  by_cases q : 0 < (x.natAbs : Int) % d.natAbs
  · cases q2 : gr r x.sign d.sign ((x.natAbs : Int) % d.natAbs) d.natAbs
    · simp [g_divided, e_divided, cDef, s_sign_of, g0, x_divmod, x_mul, dvd, q, q2, d0, d1, hs, sp, sw, sm_sign, sm_sign2]
    · simp [g_divided, e_divided, cDef, s_sign_of, g0, x_divmod, x_mul, dvd, q, q2, d0, d1, hs, sp2, sw2, sm_sign, sm_sign2]
  · simp [g_divided, e_divided, cDef, s_sign_of, g0, x_divmod, x_mul, dvd, q, d0, d1, hs, sp, sw, sm_sign, sm_sign2]
theorem s_divide (r : Ru) {x d : Int} (h : FH) (hx : lm x) (hd : lm d) (d0 : d ≠ 0) : g_divide [.str r.s, .int x, .int d] h = .ok (.tup [.int (dvd r x d).1, .int (dvd r x d).2]) h := by
  simp [g_divide, e_divide, cDef, s_require_rule, s_is_integer, d0, s_divided r h hx hd d0]
def cry (r : Ru) (s b f : Int) : Int × Int :=
  let size : Int := b.natAbs
  if f = size then (1, 0) else if 0 < f ∧ gr r s b.sign f size = true then (1, s * (f - size)) else (0, s * f)
theorem s_carried (r : Ru) {s b f : Int} (h : FH) (hs : sm s = true) (hf : sm f = true) (hf2 : sm (f - b.natAbs) = true) : g_carried [.str r.s, .int s, .int b, .int f] h = .ok (.tup [.int (cry r s b f).1, .int (cry r s b f).2]) h := by
  have g0 := s_is_greater r (sign := s) (ds := b.sign) (part := f) (size := b.natAbs) h hs (sm_sign b) hf
  by_cases q : f = b.natAbs
  · simp [g_carried, e_carried, cDef, cry, q]
  · by_cases q1 : 0 < f
    · cases q2 : gr r s b.sign f b.natAbs <;> simp [g_carried, e_carried, cDef, cry, s_sign_of, g0, x_mul, q, q1, q2, hs, hf, hf2]
    · simp [g_carried, e_carried, cDef, cry, s_sign_of, g0, x_mul, q, q1, hs, hf, hf2]
theorem s_carry (r : Ru) {s b f : Int} (h : FH) (h1 : s = 1 ∨ s = -1) (h2 : 2 ≤ b.natAbs) (h3 : b.natAbs ≤ 10) (h4 : 0 ≤ f) (h5 : f ≤ b.natAbs) : g_carry [.str r.s, .int s, .int b, .int f] h = .ok (.tup [.int (cry r s b f).1, .int (cry r s b f).2]) h := by
  have hs : sm s = true := by rcases h1 with rfl | rfl <;> decide +kernel
  have hf : sm f = true := sm_of (n := 10) (by omega) (by decide +kernel)
  have hf2 : sm (f - b.natAbs) = true := sm_of (n := 10) (by omega) (by decide +kernel)
  have a1 : g_is_sign [.int s] h = .ok (.bl true) h := by
    rcases h1 with rfl | rfl <;> simp [g_is_sign, e_is_sign, cDef, s_is_integer]
  have a2 : g_is_base [.int b] h = .ok (.bl true) h := by
    have z1 : (2 : Int) ≤ b.natAbs := by omega
    have z2 : (b.natAbs : Int) ≤ 10 := by omega
    simp [g_is_base, e_is_base, cDef, s_is_integer, z1, z2]
  have a3 : g_is_between [.int f, .int 0, .int b.natAbs] h = .ok (.bl true) h := by
    simp [g_is_between, e_is_between, cDef, s_is_integer, h4, h5]
  simp [g_carry, e_carry, cDef, s_require_rule, a1, a2, a3, s_carried r h hs hf hf2]
/-- a number by its sign, its parts by the divisor's size -/
theorem parts (x d : Int) (d0 : d ≠ 0) : ∃ s t w p D : Int, x.sign = s ∧ d.sign = t ∧ (x.natAbs : Int) / (d.natAbs : Int) = w ∧ (x.natAbs : Int) % (d.natAbs : Int) = p ∧ (d.natAbs : Int) = D ∧ 0 < D ∧ 0 ≤ p ∧ p < D ∧ 0 ≤ w ∧
    ((t = 1 ∧ d = D) ∨ (t = -1 ∧ d = -D)) ∧ ((s = 1 ∧ x = w * D + p) ∨ (s = -1 ∧ x = -(w * D + p)) ∨ (s = 0 ∧ x = 0 ∧ w = 0 ∧ p = 0)) := by
  have d1 : (0 : Int) < d.natAbs := by omega
  have e := Int.mul_ediv_add_emod (x.natAbs : Int) (d.natAbs : Int)
  rw [Int.mul_comm] at e
  refine ⟨_, _, _, _, _, rfl, rfl, rfl, rfl, rfl, d1, Int.emod_nonneg _ (by omega), Int.emod_lt_of_pos _ d1, Int.ediv_nonneg (by omega) (by omega), ?_, ?_⟩
  · rcases Int.lt_trichotomy d 0 with q | q | q
    · exact .inr ⟨Int.sign_eq_neg_one_of_neg q, by omega⟩
    · exact absurd q d0
    · exact .inl ⟨Int.sign_eq_one_of_pos q, by omega⟩
  · rcases Int.lt_trichotomy x 0 with q | q | q
    · exact .inr (.inl ⟨Int.sign_eq_neg_one_of_neg q, by omega⟩)
    · subst q
      exact .inr (.inr ⟨rfl, rfl, by simp, by simp⟩)
    · exact .inl ⟨Int.sign_eq_one_of_pos q, by omega⟩
/-- the quotient and the remainder of the five rules, told by the parts -/
def dvp (r : Ru) (s t w p D : Int) : Int × Int := if 0 < p ∧ gr r s t p D = true then (s * t * (w + 1), s * (p - D)) else (s * t * w, s * p)
theorem dvd_parts {r : Ru} {x d s t w p D : Int} (h1 : x.sign = s) (h2 : d.sign = t) (h3 : (x.natAbs : Int) / (d.natAbs : Int) = w) (h4 : (x.natAbs : Int) % (d.natAbs : Int) = p) (h5 : (d.natAbs : Int) = D) : dvd r x d = dvp r s t w p D := by
  subst h1 h2 h3 h4 h5
  rfl
structure Hang (x d : Int) : Prop where
  back : ∀ r, (dvd r x d).1 * d + (dvd r x d).2 = x
  less : ∀ r, (dvd r x d).2.natAbs < d.natAbs
  upDown : (dvd .up x d).1 - (dvd .down x d).1 = if x.fmod d = 0 then 0 else 1
  z1 : (dvd .zero x d).1.natAbs ≤ (dvd .down x d).1.natAbs
  z2 : (dvd .zero x d).1.natAbs ≤ (dvd .up x d).1.natAbs
  z3 : (dvd .zero x d).1 = (dvd .down x d).1 ∨ (dvd .zero x d).1 = (dvd .up x d).1
  p1 : (dvd .positive x d).1 = if 0 < d then (dvd .down x d).1 else (dvd .up x d).1
  p2 : 0 ≤ (dvd .positive x d).2
  n1 : 2 * (dvd .near x d).2.natAbs ≤ d.natAbs
  n2 : 2 * (dvd .near x d).2 ≠ -(d.natAbs : Int)
  n3 : (dvd .near x d).1 = (dvd .down x d).1 ∨ (dvd .near x d).1 = (dvd .up x d).1
  t1 : (dvd .up (-x) d).1 = -(dvd .down x d).1
  t2 : (dvd .down (-x) d).1 = -(dvd .up x d).1
  t3 : (dvd .zero (-x) d).1 = -(dvd .zero x d).1
  o1 : (dvd .zero x (-d)).1 = -(dvd .zero x d).1
  o2 : (dvd .down x (-d)).1 = -(dvd .up x d).1
  o3 : (dvd .positive x (-d)).2 = (dvd .positive x d).2
theorem hang (x d : Int) (d0 : d ≠ 0) : Hang x d := by
  obtain ⟨s, t, w, p, D, h1, h2, h3, h4, h5, D0, p0, pD, w0, ht, hs⟩ := parts x d d0
  have e := fun r => dvd_parts (r := r) h1 h2 h3 h4 h5
  have e1 := fun r => dvd_parts (r := r) (x := -x) (d := d) (s := -s) (by rw [Int.sign_neg, h1]) h2 (by rw [Int.natAbs_neg, h3]) (by rw [Int.natAbs_neg, h4]) h5
  have e2 := fun r => dvd_parts (r := r) (x := x) (d := -d) (t := -t) h1 (by rw [Int.sign_neg, h2]) (by rw [Int.natAbs_neg, h3]) (by rw [Int.natAbs_neg, h4]) (by rw [Int.natAbs_neg, h5])
  have fm : x.fmod d = 0 ↔ p = 0 := by
    rw [← Int.dvd_iff_fmod_eq_zero, ← Int.natAbs_dvd_natAbs, ← h4]
    rw [← Int.natCast_dvd_natCast]
    exact ⟨Int.emod_eq_zero_of_dvd, Int.dvd_of_emod_eq_zero⟩
  by_cases pz : p = 0
  · subst pz
    have n : ∀ r s t, dvp r s t w 0 D = (s * t * w, 0) := fun r s t => by unfold dvp; simp
    refine ⟨fun r => ?_, fun r => ?_, ?_, ?_, ?_, ?_, ?_, ?_, ?_, ?_, ?_, ?_, ?_, ?_, ?_, ?_, ?_⟩ <;> simp only [e, e1, e2, n, fm] <;> rcases ht with ⟨rfl, hd⟩ | ⟨rfl, hd⟩ <;> rcases hs with ⟨rfl, hx⟩ | ⟨rfl, hx⟩ | ⟨rfl, hx, hw, _⟩ <;> simp at * <;> (try subst hd) <;> (try subst hx) <;> (try simp [Int.neg_mul, Int.mul_neg]) <;> (try omega)
  · have pp : 0 < p := by omega
    have n : ∀ r s t, dvp r s t w p D = if gr r s t p D = true then (s * t * (w + 1), s * (p - D)) else (s * t * w, s * p) := fun r s t => by unfold dvp; simp [pp]
    have m1 : (w + 1) * D = w * D + D := by rw [Int.add_mul, Int.one_mul]
    refine ⟨fun r => ?_, fun r => ?_, ?_, ?_, ?_, ?_, ?_, ?_, ?_, ?_, ?_, ?_, ?_, ?_, ?_, ?_, ?_⟩ <;> simp only [e, e1, e2, n, fm, pz] <;> clear e e1 e2 n fm <;> rcases ht with ⟨rfl, hd⟩ | ⟨rfl, hd⟩ <;> rcases hs with ⟨rfl, hx⟩ | ⟨rfl, hx⟩ | ⟨rfl, hx, hw, hp⟩ <;> (try (exact absurd hp pz)) <;> clear h1 h2 h3 h4 <;> simp [gr, Int.neg_mul, Int.mul_neg] <;> (try split) <;> (try split) <;> (try simp [Int.neg_mul, Int.mul_neg, hd, hx, m1]) <;> (try omega)
theorem quo_le (r : Ru) {x d : Int} (d0 : d ≠ 0) : (dvd r x d).1.natAbs ≤ x.natAbs + 1 := by
  obtain ⟨s, t, w, p, D, h1, h2, h3, h4, h5, D0, p0, pD, w0, ht, hs⟩ := parts x d d0
  rw [dvd_parts h1 h2 h3 h4 h5]
  have wx : w ≤ x.natAbs := by rw [← h3]; exact Int.ediv_le_self _ (by omega)
  unfold dvp
  split <;> rcases ht with ⟨rfl, hd⟩ | ⟨rfl, hd⟩ <;> rcases hs with ⟨rfl, hx⟩ | ⟨rfl, hx⟩ | ⟨rfl, hx, hw, hp⟩ <;> simp <;> omega
theorem fdiv_pos {x d q R : Int} (h : 0 < d) (e : x = q * d + R) (r0 : 0 ≤ R) (r1 : R < d) : x.fdiv d = q := by
  rw [Int.fdiv_eq_ediv_of_nonneg _ (Int.le_of_lt h), e, Int.add_comm, Int.add_mul_ediv_right _ _ (by omega), Int.ediv_eq_zero_of_lt r0 r1, Int.zero_add]
theorem fdiv_neg' {x d q R : Int} (h : d < 0) (e : x = q * d + R) (r0 : R ≤ 0) (r1 : d < R) : x.fdiv d = q := by
  have : x.fdiv d = (-x).fdiv (-d) := by rw [Int.neg_fdiv_neg]
  rw [this]
  exact fdiv_pos (R := -R) (by omega) (by rw [e, Int.mul_neg, Int.neg_add]) (by omega) (by omega)
theorem fmod_pos {x d q R : Int} (h : 0 < d) (e : x = q * d + R) (r0 : 0 ≤ R) (r1 : R < d) : x.fmod d = R := by
  rw [Int.fmod_eq_emod_of_nonneg _ (Int.le_of_lt h), e, Int.add_comm, Int.add_mul_emod_self_right, Int.emod_eq_of_lt r0 r1]
def kq (r : Ru) (x b : Int) : Int := match r with
  | .down => x.fdiv b
  | .up => -((-x).fdiv b)
  | .zero => if decide (0 ≤ x) = decide (0 < b) then x.fdiv b else -((-x).fdiv b)
  | .positive => (x - x.fmod b.natAbs).fdiv b
  | .near => (x - (if (b.natAbs : Int) < 2 * x.fmod b.natAbs then x.fmod b.natAbs - b.natAbs else x.fmod b.natAbs)).fdiv b
theorem kq_eq (r : Ru) (x d : Int) (d0 : d ≠ 0) : kq r x d = (dvd r x d).1 := by
  have H := hang x d d0
  have bk := H.back
  obtain ⟨s, t, w, p, D, h1, h2, h3, h4, h5, D0, p0, pD, w0, ht, hs⟩ := parts x d d0
  have e := fun r => dvd_parts (r := r) h1 h2 h3 h4 h5
  have dn : x.fdiv d = (dvd .down x d).1 := by
    have b := bk .down
    have c : (t = 1 → 0 ≤ (dvd .down x d).2 ∧ (dvd .down x d).2 < D) ∧ (t = -1 → (dvd .down x d).2 ≤ 0 ∧ -D < (dvd .down x d).2) := by
      rw [e]
      unfold dvp
      rcases ht with ⟨rfl, hd⟩ | ⟨rfl, hd⟩ <;> rcases hs with ⟨rfl, hx⟩ | ⟨rfl, hx⟩ | ⟨rfl, hx, hw, hp⟩ <;> simp [gr] <;> (try split) <;> (try simp) <;> (try omega)
    rcases ht with ⟨ht, hd⟩ | ⟨ht, hd⟩
    · exact fdiv_pos (by omega) b.symm (c.1 ht).1 (by have := (c.1 ht).2; omega)
    · exact fdiv_neg' (by omega) b.symm (c.2 ht).1 (by have := (c.2 ht).2; omega)
  have up : -((-x).fdiv d) = (dvd .up x d).1 := by
    have b := bk .up
    have b' : -x = (-(dvd .up x d).1) * d + -(dvd .up x d).2 := by rw [Int.neg_mul]; omega
    have c : (t = 1 → (dvd .up x d).2 ≤ 0 ∧ -D < (dvd .up x d).2) ∧ (t = -1 → 0 ≤ (dvd .up x d).2 ∧ (dvd .up x d).2 < D) := by
      rw [e]
      unfold dvp
      rcases ht with ⟨rfl, hd⟩ | ⟨rfl, hd⟩ <;> rcases hs with ⟨rfl, hx⟩ | ⟨rfl, hx⟩ | ⟨rfl, hx, hw, hp⟩ <;> simp [gr] <;> (try split) <;> (try simp) <;> (try omega)
    have z : (-x).fdiv d = -(dvd .up x d).1 := by
      rcases ht with ⟨ht, hd⟩ | ⟨ht, hd⟩
      · exact fdiv_pos (by omega) b' (by have := (c.1 ht).1; omega) (by have := (c.1 ht).2; omega)
      · exact fdiv_neg' (by omega) b' (by have := (c.2 ht).1; omega) (by have := (c.2 ht).2; omega)
    rw [z, Int.neg_neg]
  have ps : x.fmod d.natAbs = (dvd .positive x d).2 := by
    have b := bk .positive
    have c : 0 ≤ (dvd .positive x d).2 ∧ (dvd .positive x d).2 < D := by
      rw [e]
      unfold dvp
      rcases ht with ⟨rfl, hd⟩ | ⟨rfl, hd⟩ <;> rcases hs with ⟨rfl, hx⟩ | ⟨rfl, hx⟩ | ⟨rfl, hx, hw, hp⟩ <;> simp [gr] <;> (try split) <;> (try simp) <;> (try omega)
    rcases ht with ⟨ht, hd⟩ | ⟨ht, hd⟩
    · exact fmod_pos (q := (dvd .positive x d).1) (by omega) (by rw [h5, ← hd]; exact b.symm) c.1 (by rw [h5]; exact c.2)
    · exact fmod_pos (q := -(dvd .positive x d).1) (by omega) (by rw [h5, show D = -d by omega, Int.neg_mul_neg]; exact b.symm) c.1 (by rw [h5]; exact c.2)
  cases r
  case down => exact dn
  case up => exact up
  case zero =>
    show (if decide (0 ≤ x) = decide (0 < d) then x.fdiv d else -((-x).fdiv d)) = _
    have wD : 0 ≤ w * D := Int.mul_nonneg w0 (Int.le_of_lt D0)
    have xz : s = -1 → x ≠ 0 := fun z y => by rw [y] at h1; rw [z] at h1; cases h1
    have dx : decide (0 ≤ x) = decide (s ≠ -1) := by
      rcases hs with ⟨rfl, hx⟩ | ⟨rfl, hx⟩ | ⟨rfl, hx, hw, hp⟩
      · rw [decide_eq_true (show 0 ≤ x by omega)]; rfl
      · rw [decide_eq_false (show ¬ 0 ≤ x by have := xz rfl; omega)]; rfl
      · rw [decide_eq_true (show 0 ≤ x by omega)]; rfl
    have dt : decide (0 < d) = decide (t = 1) := by
      rcases ht with ⟨rfl, hd⟩ | ⟨rfl, hd⟩
      · rw [decide_eq_true (show 0 < d by omega)]; rfl
      · rw [decide_eq_false (show ¬ 0 < d by omega)]; rfl
    rw [dn, up, e, e, e, dx, dt]
    unfold dvp
    rcases ht with ⟨rfl, hd⟩ | ⟨rfl, hd⟩ <;> rcases hs with ⟨rfl, hx⟩ | ⟨rfl, hx⟩ | ⟨rfl, hx, hw, hp⟩ <;> simp [gr]
  case positive =>
    show (x - x.fmod d.natAbs).fdiv d = _
    rw [ps, show x - (dvd .positive x d).2 = (dvd .positive x d).1 * d by have := bk .positive; omega, Int.mul_fdiv_cancel _ d0]
  case near =>
    show (x - (if (d.natAbs : Int) < 2 * x.fmod d.natAbs then x.fmod d.natAbs - d.natAbs else x.fmod d.natAbs)).fdiv d = _
    have z : (if (d.natAbs : Int) < 2 * x.fmod d.natAbs then x.fmod d.natAbs - d.natAbs else x.fmod d.natAbs) = (dvd .near x d).2 := by
      rw [ps, h5, e, e]
      unfold dvp
      by_cases pz : 0 < p
      · by_cases q1 : D < 2 * p
        · rcases ht with ⟨rfl, hd⟩ | ⟨rfl, hd⟩ <;> rcases hs with ⟨rfl, hx⟩ | ⟨rfl, hx⟩ | ⟨rfl, hx, hw, hp⟩ <;> simp [gr, pz, q1] <;> omega
        · by_cases q2 : 2 * p = D
          · rcases ht with ⟨rfl, hd⟩ | ⟨rfl, hd⟩ <;> rcases hs with ⟨rfl, hx⟩ | ⟨rfl, hx⟩ | ⟨rfl, hx, hw, hp⟩ <;> simp [gr, pz, q1, q2] <;> omega
          · rcases ht with ⟨rfl, hd⟩ | ⟨rfl, hd⟩ <;> rcases hs with ⟨rfl, hx⟩ | ⟨rfl, hx⟩ | ⟨rfl, hx, hw, hp⟩ <;> simp [gr, pz, q1, q2] <;> omega
      · have : p = 0 := by omega
        subst this
        simp
        omega
    rw [z, show x - (dvd .near x d).2 = (dvd .near x d).1 * d by have := bk .near; omega, Int.mul_fdiv_cancel _ d0]
theorem eq_bl (a b : Bool) (h : FH) : eqF (.bl a) (.bl b) h = some (.bl (decide (a = b)), h) := by cases a <;> cases b <;> rfl
theorem eq_dd (h : FH) : eqF (.str "down") (.str "down") h = some (.bl true, h) := by kernel_rfl
theorem eq_ud (h : FH) : eqF (.str "up") (.str "down") h = some (.bl false, h) := by kernel_rfl
theorem eq_uu (h : FH) : eqF (.str "up") (.str "up") h = some (.bl true, h) := by kernel_rfl
theorem s_kd_divide (r : Ru) {x d : Int} (h : FH) (hx : x.natAbs ≤ 10 ^ 100) (hd : d.natAbs ≤ 10 ^ 100) (d0 : d ≠ 0) : g__law_kd_divide [.str r.s, .int x, .int d] h = .ok (.tup [.int (dvd r x d).1, .int (dvd r x d).2]) h := by
  have k := kq_eq r x d d0
  have b := (hang x d d0).back r
  have sd : sm d = true := (lm_le hd (Nat.pow_le_pow_right (by decide) (by decide)) : lm d).sm
  have sq : sm (dvd r x d).1 = true := sm_of (n := 10 ^ 100 + 1) (by
    obtain ⟨s, t, w, p, D, h1, h2, h3, h4, h5, D0, p0, pD, w0, ht, hs⟩ := parts x d d0
    rw [dvd_parts h1 h2 h3 h4 h5]
    have wx : w ≤ x.natAbs := by rw [← h3]; exact Int.ediv_le_self _ (by omega)
    unfold dvp
    split <;> rcases ht with ⟨rfl, hd⟩ | ⟨rfl, hd⟩ <;> rcases hs with ⟨rfl, hx⟩ | ⟨rfl, hx⟩ | ⟨rfl, hx, hw, hp⟩ <;> simp <;> omega) (by decide +kernel)
  have b2 : x - (dvd r x d).1 * d = (dvd r x d).2 := by omega
  rw [← k] at sq b2 ⊢
  rw [← b2]
  have eu : (d.natAbs : Int) ≠ 0 := by omega
  have s2 : sm 2 = true := by decide +kernel
  have sf : sm (x.fmod d.natAbs) = true := sm_of (n := 10 ^ 100) (by
    have f0 := Int.fmod_nonneg_of_pos x (show (0 : Int) < d.natAbs by omega)
    have f1 := Int.fmod_lt_of_pos x (show (0 : Int) < d.natAbs by omega)
    omega) (by decide +kernel)
  cases r
  case down => simp [g__law_kd_divide, e__law_kd_divide, cDef, eq_zero, eq_down, x_div, x_mul, d0, sd, kq] at sq ⊢; simp [x_mul, sq, sd]
  case up => simp [g__law_kd_divide, e__law_kd_divide, cDef, eq_zero, eq_down, eq_up, x_div, x_mul, d0, sd, kq] at sq ⊢; simp [x_mul, sq, sd]
  case zero =>
    by_cases q : decide (0 ≤ x) = decide (0 < d)
    · have e : kq .zero x d = x.fdiv d := if_pos q
      rw [e] at sq ⊢
      simp [g__law_kd_divide, e__law_kd_divide, cDef, eq_zero, eq_bl, q, eq_dd, x_div, x_mul, d0, sd, sq]
    · have e : kq .zero x d = -((-x).fdiv d) := if_neg q
      rw [e] at sq ⊢
      simp [g__law_kd_divide, e__law_kd_divide, cDef, eq_zero, eq_bl, q, eq_ud, eq_uu, x_div, x_mul, d0, sd, sq]
  case positive =>
    have e : kq .positive x d = (x - x.fmod d.natAbs).fdiv d := rfl
    rw [e] at sq ⊢
    simp [g__law_kd_divide, e__law_kd_divide, cDef, eq_zero, eq_down, eq_up, eq_near, x_div, x_mod, x_mul, d0, eu, sd, sq]
  case near =>
    by_cases q : (d.natAbs : Int) < 2 * x.fmod d.natAbs
    · have e : kq .near x d = (x - (x.fmod d.natAbs - d.natAbs)).fdiv d := by unfold kq; simp only [if_pos q]
      rw [e] at sq ⊢
      simp [g__law_kd_divide, e__law_kd_divide, cDef, eq_zero, eq_down, eq_up, eq_near, x_div, x_mod, x_mul, d0, eu, sd, sq, q, s2, sf]
    · have e : kq .near x d = (x - x.fmod d.natAbs).fdiv d := by unfold kq; simp only [if_neg q]
      rw [e] at sq ⊢
      simp [g__law_kd_divide, e__law_kd_divide, cDef, eq_zero, eq_down, eq_up, eq_near, x_div, x_mod, x_mul, d0, eu, sd, sq, q, s2, sf]
/-- one figure further: what is left and the carry -/
theorem row_step (r : Ru) {s t W m D b x : Int} (hs : s = 1 ∨ s = -1) (hb : (t = 1 ∧ b = D) ∨ (t = -1 ∧ b = -D)) (hD : 2 ≤ D) (hW : 0 ≤ W) (hm : m = 0 ∨ m = 1) (hx : x = s * (W + m)) :
    (dvd r x b).1 = (s * t) * (W / D + (cry r s b (W % D + m)).1) ∧ (cry r s b (W % D + m)).2 = (dvd r x b).2 ∧ ((cry r s b (W % D + m)).1 = 0 ∨ (cry r s b (W % D + m)).1 = 1) := by
  have e := Int.mul_ediv_add_emod W D
  have f0 := Int.emod_nonneg W (show D ≠ 0 by omega)
  have f1 := Int.emod_lt_of_pos W (show 0 < D by omega)
  have w0 : 0 ≤ W / D := Int.ediv_nonneg hW (by omega)
  have bn : (b.natAbs : Int) = D := by rcases hb with ⟨_, rfl⟩ | ⟨_, rfl⟩ <;> omega
  have bs : b.sign = t := by
    rcases hb with ⟨rfl, rfl⟩ | ⟨rfl, rfl⟩
    · exact Int.sign_eq_one_of_pos (by omega)
    · exact Int.sign_eq_neg_one_of_neg (by omega)
  have xn : (x.natAbs : Int) = W + m := by rcases hs with rfl | rfl <;> omega
  generalize W / D = V at *
  generalize W % D = f at *
  have W_ : W + m = V * D + (f + m) := by rw [Int.mul_comm V D]; omega
  have vd : 0 ≤ V * D := Int.mul_nonneg w0 (by omega)
  have sx : x.sign = s ∨ (x.sign = 0 ∧ V = 0 ∧ f + m = 0) := by
    by_cases z : W + m = 0
    · right
      have : x = 0 := by rw [hx, z, Int.mul_zero]
      refine ⟨by rw [this]; rfl, ?_, by omega⟩
      by_cases v : V = 0
      · exact v
      · have : 1 * D ≤ V * D := Int.mul_le_mul_of_nonneg_right (by omega) (by omega)
        omega
    · left
      rcases hs with rfl | rfl
      · exact Int.sign_eq_one_of_pos (by omega)
      · exact Int.sign_eq_neg_one_of_neg (by omega)
  by_cases top : f + m = D
  · -- the carry runs over
    have q1 : (x.natAbs : Int) / (b.natAbs : Int) = V + 1 := by
      rw [xn, bn, W_, top, show V * D + D = (V + 1) * D by rw [Int.add_mul, Int.one_mul], Int.mul_ediv_cancel _ (by omega)]
    have q2 : (x.natAbs : Int) % (b.natAbs : Int) = 0 := by
      rw [xn, bn, W_, top, show V * D + D = (V + 1) * D by rw [Int.add_mul, Int.one_mul], Int.mul_emod_left]
    rw [dvd_parts rfl bs q1 q2 bn]
    have sx2 : x.sign = s := by
      rcases sx with z | ⟨_, _, z⟩
      · exact z
      · omega
    rw [sx2]
    unfold dvp cry
    simp [bn, top]
  · have q1 : (x.natAbs : Int) / (b.natAbs : Int) = V := by
      rw [xn, bn, W_, Int.add_comm, Int.add_mul_ediv_right _ _ (by omega), Int.ediv_eq_zero_of_lt (by omega) (by omega), Int.zero_add]
    have q2 : (x.natAbs : Int) % (b.natAbs : Int) = f + m := by
      rw [xn, bn, W_, Int.add_comm, Int.add_mul_emod_self_right, Int.emod_eq_of_lt (by omega) (by omega)]
    rw [dvd_parts rfl bs q1 q2 bn]
    unfold dvp cry
    rcases sx with z | ⟨z, v, g⟩
    · rw [z, bs, bn]
      simp only [if_neg top]
      by_cases c : 0 < f + m ∧ gr r s t (f + m) D = true
      · simp only [if_pos c]
        simp
      · simp only [if_neg c]
        simp
    · rw [z, v, g, bs, bn]
      have : ¬ (0 : Int) = D := by omega
      simp [this]
end RU
set_option maxRecDepth 100000
set_option maxHeartbeats 4000000
namespace FX
open PySem PySem.Spec PyProof.Rows L2
/-! ### values that may be handed in -/
def lim : FV → Prop
  | .int i => i.natAbs ≤ 10 ^ 100
  | _ => True
structure Okv (h : FH) (v : FV) : Prop where
  kd : Kd h v
  vl : Vl h 3 5000 v
  lim : lim v
theorem Okv.grw {h h' : FH} {v : FV} (o : Okv h v) (g : Grw h h') : Okv h' v := ⟨o.kd.grw g, o.vl.grw g, o.lim⟩
section
variable {h : FH} {v : FV}
theorem vl_word {x : Str} (a : PyData.strOk x = true) (b : (PyData.str x).shown.length ≤ 200) (c : PyData.strOk (PyData.str x).shown = true) (d : (PyData.str x).showable = true) : Vl h 1 200 (.str x) := vl_str a ⟨d, b, c⟩
theorem ok_int {i : Int} (l : i.natAbs ≤ 10 ^ 100) : Okv h (.int i) := ⟨kd_int, (vl_int (Nat.lt_of_le_of_lt l (by decide +kernel))).mono (by decide) (by decide), l⟩
theorem ok_bl {b : Bool} : Okv h (.bl b) := ⟨kd_bl, (vl_bl b).mono (by decide) (by decide), True.intro⟩
theorem ok_non : Okv h .non := ⟨kd_non, vl_non.mono (by decide) (by decide), True.intro⟩
theorem ok_str {x : Str} (a : PyData.strOk x = true := by decide +kernel) (b : (PyData.str x).shown.length ≤ 200 := by decide +kernel) (c : PyData.strOk (PyData.str x).shown = true := by decide +kernel) (d : (PyData.str x).showable = true := by decide +kernel) : Okv h (.str x) := ⟨kd_str, (vl_word a b c d).mono (by decide) (by decide), True.intro⟩
theorem ok_tup {xs : List FV} (l : xs.length ≤ 6) (a : ∀ x ∈ xs, Vl h 2 600 x) : Okv h (.tup xs) := ⟨kd_tup, (vl_tup (n := 600) (m := 6) (k := 2) a l).mono (by decide) (by decide), True.intro⟩
theorem ok_lst {xs : List FV} {t : Nat} (q : h[t]? = some (.lst xs)) (l : xs.length ≤ 6) (a : ∀ x ∈ xs, Vl h 2 600 x) : Okv h (.ref t) := ⟨kd_lst q, (vl_lst q (n := 600) (m := 6) (k := 2) a l).mono (by decide) (by decide), True.intro⟩
theorem vl_two {x : Str} {k m : Nat} (a : Vl h k m v) (k1 : 1 ≤ k) (m1 : 200 ≤ m) (w1 : PyData.strOk x = true := by decide +kernel) (w2 : (PyData.str x).shown.length ≤ 200 := by decide +kernel) (w3 : PyData.strOk (PyData.str x).shown = true := by decide +kernel) (w4 : (PyData.str x).showable = true := by decide +kernel) : Vl h (k + 1) (2 * (m + 2) + 3) (.tup [.str x, v]) := vl_tup (n := m) (m := 2) (k := k) (fun y hy => by
    simp only [List.mem_cons, List.not_mem_nil, or_false] at hy
    rcases hy with rfl | rfl
    · exact (vl_word w1 w2 w3 w4).mono k1 m1
    · exact a) (by simp)
theorem vl_pair {i j : Int} (a : i.natAbs < 10 ^ 500) (b : j.natAbs < 10 ^ 500) : Vl h 2 2000 (.tup [.int i, .int j]) := (vl_tup (n := 501) (m := 2) (k := 1) (fun y hy => by
    simp only [List.mem_cons, List.not_mem_nil, or_false] at hy
    rcases hy with rfl | rfl
    · exact vl_int a
    · exact vl_int b) (by simp)).mono (by decide) (by decide)
theorem str_ok {k n : Nat} {x : Str} (a : Vl h k n (.str x)) (k1 : 1 ≤ k) : PyData.strOk x = true := by
  obtain ⟨d, q, _⟩ := a
  have e := q k (Nat.le_refl _)
  obtain ⟨m, rfl⟩ := Nat.exists_eq_add_of_le' k1
  cases z : PyData.strOk x with
  | true => rfl
  | false =>
    have : datF h (m + 1) (.str x) = none := (if_neg (by rw [z]; exact Bool.false_ne_true) : (if PyData.strOk x = true then some (PyData.str x) else none) = none)
    rw [this] at e
    cases e
def isStr : FV → Bool
  | .str _ => true
  | _ => false
theorem str_kind {t : BT} (q : kindF v h = some t) : isStr v = subB t .str := by
  cases v with
  | ref n =>
    simp only [kindF] at q
    split at q <;> first | (cases q; rfl) | cases q
  | cls c => cases q
  | ty n => cases q
  | _ => cases q; rfl
end
end FX
namespace RU
open PySem FX
def ruD : List PyData := [.str "down", .str "up", .str "zero", .str "positive", .str "near"]
/-- a rule's name -/
def ruB : FV → Bool
  | .str x => ruD.any fun e => PyData.eqv e (.str x)
  | _ => false
def ruL : List FV := [.str "down", .str "up", .str "zero", .str "positive", .str "near"]
/-- a base -/
def bsB : FV → Bool
  | .int d => decide ((2 : Int) ≤ d.natAbs) && decide ((d.natAbs : Int) ≤ 10)
  | _ => false
/-- a divisor -/
def nzB : FV → Bool
  | .int d => !decide (d = 0)
  | _ => false
section
variable {h : FH} {r x b s f : FV}
theorem ru_of (w : ruB r = true) : ∃ R : Ru, r = .str R.s := by
  cases r with
  | str y =>
    simp only [ruB, ruD, List.any_cons, List.any_nil, Bool.or_false, Bool.or_eq_true, PyData.eqv] at w
    have e : ∀ a : Str, (a == y) = true → y = a := fun a q => (eq_of_beq q).symm
    rcases w with q | q | q | q | q
    · exact ⟨.down, by rw [e _ q]; rfl⟩
    · exact ⟨.up, by rw [e _ q]; rfl⟩
    · exact ⟨.zero, by rw [e _ q]; rfl⟩
    · exact ⟨.positive, by rw [e _ q]; rfl⟩
    · exact ⟨.near, by rw [e _ q]; rfl⟩
  | _ => cases w
theorem ru_s (R : Ru) : ruB (.str R.s) = true := by cases R <;> decide +kernel
theorem rule_ok (o : Okv h r) : g_is_rule [r] h = .ok (.bl (ruB r)) h := by
  obtain ⟨t, q⟩ := o.kd
  have i1 := isi_ok (n := "str") q (show btOf "str" = some .str from rfl)
  rw [← str_kind q] at i1
  refine cDef_rt (ev := e_is_rule) ?_
  simp only [e_is_rule, List.map_cons, List.map_nil, List.length_cons, List.length_nil, List.cons_append, List.nil_append, Nat.reduceAdd, Nat.reduceSub, List.replicate, a_sRet, a_cAnd, a_cCB, a_cCons, a_cVar, a_cC, a_cNil, r_bind_ok, List.getElem?_cons_zero, i1, r_of_some]
  cases r with
  | str y =>
    have ok := str_ok o.vl (by decide)
    have e1 : datF h DEEP (.str y) = some (.str y) := (if_pos ok : (if PyData.strOk y = true then some (PyData.str y) else none) = some (.str y))
    have e2 : datF h DEEP v_RULES = some (.tuple ruD) := by kernel_rfl
    have e3 : inF (.str y) v_RULES h = some (.bl (ruB (.str y)), h) := by
      unfold inF
      rw [e1, e2]
      rfl
    simp only [isStr, if_true, a_cBin, a_cVar, a_cC, List.getElem?_cons_zero, r_bind_ok, e3, r_of_some, r_toS_ok]
  | _ => rfl
theorem lrule_ok (o : Okv h r) : ∃ h' : FH, g__law_kd_is_rule [r] h = .ok (.bl (ruB r)) h' ∧ Grw h h' := by
  obtain ⟨t, q⟩ := o.kd
  have i1 := isi_ok (n := "str") q (show btOf "str" = some .str from rfl)
  rw [← str_kind q] at i1
  cases z : isStr r with
  | false =>
    rw [z] at i1
    have w : ruB r = false := by cases r <;> first | rfl | cases z
    refine ⟨h, cDef_rt (ev := e__law_kd_is_rule) ?_, .refl⟩
    rw [w]
    simp only [e__law_kd_is_rule, List.map_cons, List.map_nil, List.length_cons, List.length_nil, List.cons_append, List.nil_append, Nat.reduceAdd, Nat.reduceSub, List.replicate, a_sRet, a_cAnd, a_cCB, a_cCons, a_cVar, a_cC, a_cNil, r_bind_ok, List.getElem?_cons_zero, i1, r_of_some, Bool.false_eq_true, if_false, r_toS_ok]
  | true =>
    rw [z] at i1
    cases r with
    | str y =>
      have ok := str_ok o.vl (by decide)
      obtain ⟨H, eH⟩ : ∃ H, H = h ++ [FO.lst ruL] := ⟨_, rfl⟩
      have e0 : g__law_kd_rules [] h = .ok (.ref h.length) H := by rw [eH]; rfl
      have at_ : H[h.length]? = some (.lst ruL) := by rw [eH]; simp
      have e1 : datF H DEEP (.str y) = some (.str y) := (if_pos ok : (if PyData.strOk y = true then some (PyData.str y) else none) = some (.str y))
      have e4 : ruL.mapM (datF H 59) = some ruD := by kernel_rfl
      have e2 : datF H DEEP (.ref h.length) = some (.list ruD) := by
        show (match H[h.length]? with
          | some (.lst xs) => (xs.mapM (datF H 59)).map PyData.list
          | some (.ro xs) => (xs.mapM (datF H 59)).map PyData.list
          | _ => none) = _
        rw [at_]
        simp only [e4]
        rfl
      have e3 : inF (.str y) (.ref h.length) H = some (.bl (ruB (.str y)), H) := by
        unfold inF
        rw [e1, e2]
        rfl
      refine ⟨H, cDef_rt (ev := e__law_kd_is_rule) ?_, by rw [eH]; exact .app⟩
      simp only [e__law_kd_is_rule, List.map_cons, List.map_nil, List.length_cons, List.length_nil, List.cons_append, List.nil_append, Nat.reduceAdd, Nat.reduceSub, List.replicate, a_sRet, a_cAnd, a_cCB, a_cCons, a_cVar, a_cC, a_cNil, r_bind_ok, List.getElem?_cons_zero, i1, r_of_some, if_true, a_cBin, a_cCall, e0, e3, r_toS_ok]
    | _ => cases z
theorem base_ok (k : Kd h b) : g_is_base [b] h = .ok (.bl (bsB b)) h := by
  have b1 : g_is_integer [b] h = .ok (.bl (wh b)) h := jInt_ok k
  refine cDef_rt (ev := e_is_base) ?_
  simp only [e_is_base, List.map_cons, List.map_nil, List.length_cons, List.length_nil, List.cons_append, List.nil_append, Nat.reduceAdd, Nat.reduceSub, List.replicate, a_sRet, a_cAnd, a_cCall, a_cCons, a_cVar, a_cNil, r_bind_ok, List.getElem?_cons_zero, if_true, b1]
  cases b with
  | int d =>
    simp only [wh, if_true, a_cChain, a_cC, a_cCB, a_cCons, a_cVar, a_cNil, List.getElem?_cons_zero, r_bind_ok, abs_int, r_of_some, le_int, bsB]
    by_cases z : (2 : Int) ≤ d.natAbs <;> simp [z]
  | _ => rfl
theorem lbase_ok (k : Kd h b) : g__law_kd_is_base [b] h = .ok (.bl (bsB b)) h := by
  have b1 : g__law_kd_is_whole [b] h = .ok (.bl (wh b)) h := jInt_ok k
  refine cDef_rt (ev := e__law_kd_is_base) ?_
  simp only [e__law_kd_is_base, List.map_cons, List.map_nil, List.length_cons, List.length_nil, List.cons_append, List.nil_append, Nat.reduceAdd, Nat.reduceSub, List.replicate, a_sRet, a_cAnd, a_cCall, a_cCons, a_cVar, a_cNil, r_bind_ok, List.getElem?_cons_zero, if_true, b1]
  cases b with
  | int d =>
    simp only [wh, if_true, a_cChain, a_cC, a_cCB, a_cCons, a_cVar, a_cNil, List.getElem?_cons_zero, r_bind_ok, abs_int, r_of_some, le_int, bsB]
    by_cases z : (2 : Int) ≤ d.natAbs <;> simp [z]
  | _ => rfl
theorem require_ok (o : Okv h r) : g_require_rule [r] h = if ruB r = true then .ok .non h else .exc 0 [("value", r)] h := by
  have q := rule_ok o
  cases w : ruB r with
  | true =>
    rw [w] at q
    simp only [g_require_rule, cDef, e_require_rule, List.map_cons, List.map_nil, List.length_cons, List.length_nil, List.cons_append, List.nil_append, Nat.reduceAdd, Nat.reduceSub, List.replicate, a_sIf, a_cNotT, a_cTru, a_cCall, a_cCons, a_cVar, a_cNil, List.getElem?_cons_zero, r_bind_ok, if_true, q, truF_bl, r_toS_ok, Bool.not_true, Bool.false_eq_true, if_false, a_sSkip]
  | false =>
    rw [w] at q
    simp only [g_require_rule, cDef, e_require_rule, List.map_cons, List.map_nil, List.length_cons, List.length_nil, List.cons_append, List.nil_append, Nat.reduceAdd, Nat.reduceSub, List.replicate, a_sIf, a_cNotT, a_cTru, a_cCall, a_cCons, a_cVar, a_cNil, List.getElem?_cons_zero, r_bind_ok, if_true, q, truF_bl, r_toS_ok, Bool.not_false, Bool.false_eq_true, if_false, sRaise]
    rfl
/-- divide, whatever is handed in -/
theorem div_cases (o1 : Okv h r) (o2 : Okv h x) (o3 : Okv h b) : (ruB r = false ∧ g_divide [r, x, b] h = .exc 0 [("value", r)] h) ∨ (ruB r = true ∧ wh x = false ∧ g_divide [r, x, b] h = .exc 1 [("value", x)] h) ∨ (ruB r = true ∧ wh x = true ∧ nzB b = false ∧ g_divide [r, x, b] h = .exc 2 [("value", b)] h) ∨
    (∃ (R : Ru) (i d : Int), r = .str R.s ∧ x = .int i ∧ b = .int d ∧ d ≠ 0 ∧ i.natAbs ≤ 10 ^ 100 ∧ d.natAbs ≤ 10 ^ 100 ∧ g_divide [r, x, b] h = .ok (.tup [.int (dvd R i d).1, .int (dvd R i d).2]) h) := by
  have q1 := require_ok o1
  have q2 : g_is_integer [x] h = .ok (.bl (wh x)) h := jInt_ok o2.kd
  have q3 : g_is_integer [b] h = .ok (.bl (wh b)) h := jInt_ok o3.kd
  have q4 : cOrT (cNotT (cTru (cCall 1 g_is_integer (cCons (cVar 2) cNil)))) (cTb (cBin eqF (cVar 2) (cC (.int 0)))) [some r, some x, some b] h = .ok (!nzB b) h := by
    simp only [a_cOrT, a_cNotT, a_cTru, a_cCall, a_cCons, a_cVar, a_cNil, List.getElem?_cons_zero, List.getElem?_cons_succ, r_bind_ok, List.length_cons, List.length_nil, Nat.reduceAdd, if_true, q3, truF_bl]
    cases b with
    | int d => simp only [wh, Bool.not_true, Bool.false_eq_true, if_false, a_cTb, a_cBin, a_cVar, a_cC, List.getElem?_cons_zero, List.getElem?_cons_succ, r_bind_ok, eq_int, r_of_some, nzB, Bool.not_not]
    | _ => rfl
  cases w : ruB r with
  | false =>
    rw [w, if_neg Bool.false_ne_true] at q1
    refine .inl ⟨rfl, ?_⟩
    simp only [g_divide, cDef, e_divide, List.map_cons, List.map_nil, List.length_cons, List.length_nil, List.cons_append, List.nil_append, Nat.reduceAdd, Nat.reduceSub, List.replicate, a_sSeq, a_sExpr, a_cCall, a_cCons, a_cVar, a_cNil, List.getElem?_cons_zero, r_bind_ok, if_true, q1]
    rfl
  | true =>
    rw [w, if_pos rfl] at q1
    refine .inr ?_
    cases w2 : wh x with
    | false =>
      rw [w2] at q2
      refine .inl ⟨rfl, rfl, ?_⟩
      simp only [g_divide, cDef, e_divide, List.map_cons, List.map_nil, List.length_cons, List.length_nil, List.cons_append, List.nil_append, Nat.reduceAdd, Nat.reduceSub, List.replicate, a_sSeq, a_sExpr, a_sIf, a_cNotT, a_cTru, a_cCall, a_cCons, a_cVar, a_cNil, List.getElem?_cons_zero, List.getElem?_cons_succ, r_bind_ok, if_true, q1, r_toS_ok, then_nx, q2, truF_bl, Bool.not_false, sRaise]
      rfl
    | true =>
      rw [w2] at q2
      refine .inr ?_
      cases w3 : nzB b with
      | false =>
        rw [w3] at q4
        refine .inl ⟨rfl, rfl, rfl, ?_⟩
        simp only [g_divide, cDef, e_divide, List.map_cons, List.map_nil, List.length_cons, List.length_nil, List.cons_append, List.nil_append, Nat.reduceAdd, Nat.reduceSub, List.replicate, a_sSeq, a_sExpr, a_sIf, q4, a_cNotT, a_cTru, a_cCall, a_cCons, a_cVar, a_cNil, List.getElem?_cons_zero, List.getElem?_cons_succ, r_bind_ok, if_true, q1, r_toS_ok, then_nx, q2, truF_bl, Bool.not_true, Bool.not_false, Bool.false_eq_true, if_false, a_sSkip, sRaise]
        rfl
      | true =>
        obtain ⟨R, rfl⟩ := ru_of w
        cases x with
        | int i =>
          cases b with
          | int d =>
            have d0 : d ≠ 0 := by simpa [nzB] using w3
            have li : i.natAbs ≤ 10 ^ 100 := o2.lim
            have ld : d.natAbs ≤ 10 ^ 100 := o3.lim
            exact .inr ⟨R, i, d, rfl, rfl, rfl, d0, li, ld, s_divide R h (lm_le li (Nat.pow_le_pow_right (by decide) (by decide))) (lm_le ld (Nat.pow_le_pow_right (by decide) (by decide))) d0⟩
          | _ => cases w3
        | _ => cases w2
end
end RU
set_option maxRecDepth 100000
set_option maxHeartbeats 4000000
namespace RU
open PySem FX
def rr : FV → Ru
  | .str y => if y = Ru.s .down then .down else if y = Ru.s .up then .up else if y = Ru.s .zero then .zero else if y = Ru.s .positive then .positive else .near
  | _ => .near
def iv : FV → Int
  | .int i => i
  | _ => 0
theorem rr_s (R : Ru) : rr (.str R.s) = R := by cases R <;> decide +kernel
theorem rr_ok {r : FV} (w : ruB r = true) : r = .str (rr r).s := by
  obtain ⟨R, rfl⟩ := ru_of w
  rw [rr_s]
/-- what is told of divide -/
def divA (r x b : FV) : FV := if ruB r = true then (if wh x = true then (if nzB b = true then .tup [.str "told", .tup [.int (dvd (rr r) (iv x) (iv b)).1, .int (dvd (rr r) (iv x) (iv b)).2]] else .tup [.str "InvalidBase", b]) else .tup [.str "InvalidNumber", x]) else .tup [.str "InvalidRule", r]
section
variable {h : FH} {r x b s f : FV}
theorem divA_r (w : ruB r = false) : divA r x b = .tup [.str "InvalidRule", r] := by unfold divA; rw [w]; rfl
theorem divA_x (w : ruB r = true) (w2 : wh x = false) : divA r x b = .tup [.str "InvalidNumber", x] := by unfold divA; rw [w, w2]; rfl
theorem divA_b (w : ruB r = true) (w2 : wh x = true) (w3 : nzB b = false) : divA r x b = .tup [.str "InvalidBase", b] := by unfold divA; rw [w, w2, w3]; rfl
theorem divA_told (R : Ru) (i : Int) {d : Int} (d0 : d ≠ 0) : divA (.str R.s) (.int i) (.int d) = .tup [.str "told", .tup [.int (dvd R i d).1, .int (dvd R i d).2]] := by
  have n : nzB (.int d) = true := by simp [nzB, d0]
  unfold divA
  rw [if_pos (ru_s R), if_pos (show wh (.int i) = true from rfl), if_pos n, rr_s]
  rfl
theorem hear_div {L : List Nat} (l0 : L.contains 0 = true) (l1 : L.contains 1 = true) (l2 : L.contains 2 = true) {n : Nat} {d : Cl} (o1 : Okv h r) (o2 : Okv h x) (o3 : Okv h b) (e : d h = g_divide [r, x, b] h) : ∃ h' : FH, hHeard L n d [.ref n] h = .ok (divA r x b) h' ∧ Grw h h' := by
  rcases div_cases o1 o2 o3 with ⟨w, q⟩ | ⟨w, w2, q⟩ | ⟨w, w2, w3, q⟩ | ⟨R, i, c, rfl, rfl, rfl, d0, _, _, q⟩ <;> rw [← e] at q
  · obtain ⟨h2, q1, q2⟩ := heard_exc (L := L) (n := n) (nm := "InvalidRule") q l0 (by simp)
    exact ⟨h2, by rw [q1, divA_r w], q2⟩
  · obtain ⟨h2, q1, q2⟩ := heard_exc (L := L) (n := n) (nm := "InvalidNumber") q l1 (by simp)
    exact ⟨h2, by rw [q1, divA_x w w2], q2⟩
  · obtain ⟨h2, q1, q2⟩ := heard_exc (L := L) (n := n) (nm := "InvalidBase") q l2 (by simp)
    exact ⟨h2, by rw [q1, divA_b w w2 w3], q2⟩
  · exact ⟨h, by rw [heard_ok q, divA_told R i d0], .refl⟩
theorem kd_le {R : Ru} {i d : Int} (d0 : d ≠ 0) (li : i.natAbs ≤ 10 ^ 100) (ld : d.natAbs ≤ 10 ^ 100) : (dvd R i d).1.natAbs < 10 ^ 500 ∧ (dvd R i d).2.natAbs < 10 ^ 500 := by
  have a := quo_le R (x := i) d0
  have c := (hang i d d0).less R
  have z : (10 : Nat) ^ 100 + 2 < 10 ^ 500 := by decide +kernel
  exact ⟨by omega, by omega⟩
theorem divA_vl (o1 : Okv h r) (o2 : Okv h x) (o3 : Okv h b) : Vl h 4 12000 (divA r x b) := by
  rcases div_cases o1 o2 o3 with ⟨w, _⟩ | ⟨w, w2, _⟩ | ⟨w, w2, w3, _⟩ | ⟨R, i, c, rfl, rfl, rfl, d0, li, ld, _⟩
  · rw [divA_r w]; exact (vl_two o1.vl (by decide) (by decide)).mono (by decide) (by decide)
  · rw [divA_x w w2]; exact (vl_two o2.vl (by decide) (by decide)).mono (by decide) (by decide)
  · rw [divA_b w w2 w3]; exact (vl_two o3.vl (by decide) (by decide)).mono (by decide) (by decide)
  · rw [divA_told R i d0]
    have z := kd_le (R := R) d0 li ld
    exact (vl_two (vl_pair z.1 z.2) (by decide) (by decide)).mono (by decide) (by decide)
theorem div_due (o1 : Okv h r) (o2 : Okv h x) (o3 : Okv h b) : ∃ h' : FH, g__law_divide_due [r, x, b] h = .ok (divA r x b) h' ∧ Grw h h' := by
  obtain ⟨h', q1, g⟩ := lrule_ok o1
  have q2 : g__law_kd_is_whole [x] h' = .ok (.bl (wh x)) h' := jInt_ok (o2.kd.grw g)
  have q3 : g__law_kd_is_whole [b] h' = .ok (.bl (wh b)) h' := jInt_ok (o3.kd.grw g)
  have q4 : cOrT (cNotT (cTru (cCall 1 g__law_kd_is_whole (cCons (cVar 2) cNil)))) (cTb (cBin eqF (cVar 2) (cC (.int 0)))) [some r, some x, some b] h' = .ok (!nzB b) h' := by
    simp only [a_cOrT, a_cNotT, a_cTru, a_cCall, a_cCons, a_cVar, a_cNil, List.getElem?_cons_zero, List.getElem?_cons_succ, r_bind_ok, List.length_cons, List.length_nil, Nat.reduceAdd, if_true, q3, truF_bl]
    cases b with
    | int d => simp only [wh, Bool.not_true, Bool.false_eq_true, if_false, a_cTb, a_cBin, a_cVar, a_cC, List.getElem?_cons_zero, List.getElem?_cons_succ, r_bind_ok, eq_int, r_of_some, nzB, Bool.not_not]
    | _ => rfl
  refine ⟨h', cDef_rt (ev := e__law_divide_due) ?_, g⟩
  rcases div_cases o1 o2 o3 with ⟨w, _⟩ | ⟨w, w2, _⟩ | ⟨w, w2, w3, _⟩ | ⟨R, i, c, rfl, rfl, rfl, d0, li, ld, _⟩
  · rw [divA_r w]
    rw [w] at q1
    simp only [e__law_divide_due, List.map_cons, List.map_nil, List.length_cons, List.length_nil, List.cons_append, List.nil_append, Nat.reduceAdd, Nat.reduceSub, List.replicate, a_sSeq, a_sIf, a_cNotT, a_cTru, a_cCall, a_cCons, a_cVar, a_cC, a_cNil, a_cTup, List.getElem?_cons_zero, r_bind_ok, if_true, q1, truF_bl, r_toS_ok, Bool.not_false, a_sRet, small_ok (show 2 ≤ 1000 by decide), then_rt]
  · rw [divA_x w w2]
    rw [w] at q1
    rw [w2] at q2
    simp only [e__law_divide_due, List.map_cons, List.map_nil, List.length_cons, List.length_nil, List.cons_append, List.nil_append, Nat.reduceAdd, Nat.reduceSub, List.replicate, a_sSeq, a_sIf, a_cNotT, a_cTru, a_cCall, a_cCons, a_cVar, a_cC, a_cNil, a_cTup, List.getElem?_cons_zero, List.getElem?_cons_succ, r_bind_ok, if_true, q1, q2, truF_bl, r_toS_ok, Bool.not_false, Bool.not_true, Bool.false_eq_true, if_false, a_sSkip, then_nx, a_sRet, small_ok (show 2 ≤ 1000 by decide), then_rt]
  · rw [divA_b w w2 w3]
    rw [w] at q1
    rw [w2] at q2
    rw [w3] at q4
    simp only [e__law_divide_due, List.map_cons, List.map_nil, List.length_cons, List.length_nil, List.cons_append, List.nil_append, Nat.reduceAdd, Nat.reduceSub, List.replicate, a_sSeq, a_sIf, q4, a_cNotT, a_cTru, a_cCall, a_cCons, a_cVar, a_cC, a_cNil, a_cTup, List.getElem?_cons_zero, List.getElem?_cons_succ, r_bind_ok, if_true, q1, q2, truF_bl, r_toS_ok, Bool.not_false, Bool.not_true, Bool.false_eq_true, if_false, a_sSkip, then_nx, a_sRet, small_ok (show 2 ≤ 1000 by decide), then_rt]
  · rw [divA_told R i d0]
    rw [ru_s] at q1
    have n : nzB (.int c) = true := by simp [nzB, d0]
    rw [n] at q4
    have k := s_kd_divide R h' li ld d0
    have q5 : g__law_kd_is_whole [.int i] h' = .ok (.bl true) h' := q2
    simp only [e__law_divide_due, List.map_cons, List.map_nil, List.length_cons, List.length_nil, List.cons_append, List.nil_append, Nat.reduceAdd, Nat.reduceSub, List.replicate, a_sSeq, a_sIf, q4, a_cNotT, a_cTru, a_cCall, a_cCons, a_cVar, a_cC, a_cNil, a_cTup, List.getElem?_cons_zero, List.getElem?_cons_succ, r_bind_ok, if_true, q1, q5, k, truF_bl, r_toS_ok, Bool.not_true, Bool.false_eq_true, if_false, a_sSkip, then_nx, a_sRet, small_ok (show 2 ≤ 1000 by decide)]
/-! ### carry -/
theorem bs_of (w : bsB b = true) : ∃ d : Int, b = .int d ∧ 2 ≤ d.natAbs ∧ d.natAbs ≤ 10 := by
  cases b with
  | int d =>
    simp only [bsB, Bool.and_eq_true, decide_eq_true_eq] at w
    exact ⟨d, rfl, by omega, by omega⟩
  | _ => cases w
theorem sg_of (w : sg s = true) : ∃ i : Int, s = .int i ∧ (i = 1 ∨ i = -1) := by
  cases s with
  | int i =>
    refine ⟨i, rfl, ?_⟩
    have : i = -1 ∨ i = 1 := by simpa [sg] using w
    omega
  | _ => cases w
theorem bw_of {a c : Int} (w : bw a c f = true) : ∃ i : Int, f = .int i ∧ a ≤ i ∧ i ≤ c := by
  cases f with
  | int i =>
    simp only [bw, Bool.and_eq_true, decide_eq_true_eq] at w
    exact ⟨i, rfl, w.1, w.2⟩
  | _ => cases w
def carA (r s b f : FV) : FV := if ruB r = true then (if sg s = true then (if bsB b = true then (if bw 0 (iv b).natAbs f = true then .tup [.str "told", .tup [.int (cry (rr r) (iv s) (iv b) (iv f)).1, .int (cry (rr r) (iv s) (iv b) (iv f)).2]] else .tup [.str "InvalidNumber", f]) else .tup [.str "InvalidBase", b]) else .tup [.str "InvalidSign", s]) else .tup [.str "InvalidRule", r]
theorem carA_r (w : ruB r = false) : carA r s b f = .tup [.str "InvalidRule", r] := by unfold carA; rw [w]; rfl
theorem carA_s (w : ruB r = true) (w2 : sg s = false) : carA r s b f = .tup [.str "InvalidSign", s] := by unfold carA; rw [w, w2]; rfl
theorem carA_b (w : ruB r = true) (w2 : sg s = true) (w3 : bsB b = false) : carA r s b f = .tup [.str "InvalidBase", b] := by unfold carA; rw [w, w2, w3]; rfl
theorem carA_f (w : ruB r = true) (w2 : sg s = true) (w3 : bsB b = true) (w4 : bw 0 (iv b).natAbs f = false) : carA r s b f = .tup [.str "InvalidNumber", f] := by unfold carA; rw [w, w2, w3, w4]; rfl
theorem sg_1 {i : Int} (a : i = 1 ∨ i = -1) : sg (.int i) = true := by rcases a with rfl | rfl <;> rfl
theorem bs_1 {d : Int} (a : 2 ≤ d.natAbs) (c : d.natAbs ≤ 10) : bsB (.int d) = true := by simp only [bsB, Bool.and_eq_true, decide_eq_true_eq]; omega
theorem bw_1 {a c i : Int} (x : a ≤ i) (y : i ≤ c) : bw a c (.int i) = true := by simp only [bw, Bool.and_eq_true, decide_eq_true_eq]; exact ⟨x, y⟩
theorem carA_told (R : Ru) {i d g : Int} (a : i = 1 ∨ i = -1) (d2 : 2 ≤ d.natAbs) (d10 : d.natAbs ≤ 10) (g0 : 0 ≤ g) (g1 : g ≤ d.natAbs) : carA (.str R.s) (.int i) (.int d) (.int g) = .tup [.str "told", .tup [.int (cry R i d g).1, .int (cry R i d g).2]] := by
  unfold carA
  rw [if_pos (ru_s R), if_pos (sg_1 a), if_pos (bs_1 d2 d10), if_pos (show bw 0 (iv (.int d)).natAbs (.int g) = true from bw_1 g0 g1), rr_s]
  rfl
theorem car_cases (r s b f : FV) : ruB r = false ∨ (ruB r = true ∧ sg s = false) ∨ (ruB r = true ∧ sg s = true ∧ bsB b = false) ∨ (ruB r = true ∧ sg s = true ∧ bsB b = true ∧ bw 0 (iv b).natAbs f = false) ∨ (∃ (R : Ru) (i d g : Int), r = .str R.s ∧ s = .int i ∧ (i = 1 ∨ i = -1) ∧ b = .int d ∧ 2 ≤ d.natAbs ∧ d.natAbs ≤ 10 ∧ f = .int g ∧ 0 ≤ g ∧ g ≤ d.natAbs) := by
  cases w : ruB r with
  | false => exact .inl rfl
  | true =>
    cases w2 : sg s with
    | false => exact .inr (.inl ⟨rfl, rfl⟩)
    | true =>
      cases w3 : bsB b with
      | false => exact .inr (.inr (.inl ⟨rfl, rfl, rfl⟩))
      | true =>
        cases w4 : bw 0 (iv b).natAbs f with
        | false => exact .inr (.inr (.inr (.inl ⟨rfl, rfl, rfl, rfl⟩)))
        | true =>
          obtain ⟨i, e2, i1⟩ := sg_of w2
          obtain ⟨d, e3, d2, d10⟩ := bs_of w3
          rw [e3] at w4
          obtain ⟨g, e4, g0, g1⟩ := bw_of w4
          exact .inr (.inr (.inr (.inr ⟨rr r, i, d, g, rr_ok w, e2, i1, e3, d2, d10, e4, g0, g1⟩)))
theorem hear_car {L : List Nat} (l0 : L.contains 0 = true) (l1 : L.contains 1 = true) (l2 : L.contains 2 = true) (l3 : L.contains 18 = true) {n : Nat} {d : Cl} (o1 : Okv h r) (o2 : Okv h s) (o3 : Okv h b) (o4 : Okv h f) (e : d h = g_carry [r, s, b, f] h) : ∃ h' : FH, hHeard L n d [.ref n] h = .ok (carA r s b f) h' ∧ Grw h h' := by
  have q1 := require_ok o1
  have q2 : g_is_sign [s] h = .ok (.bl (sg s)) h := jSgn_ok o2.kd
  have q3 := base_ok o3.kd
  rcases car_cases r s b f with w | ⟨w, w2⟩ | ⟨w, w2, w3⟩ | ⟨w, w2, w3, w4⟩ | ⟨R, i, c, g, rfl, rfl, i1, rfl, d2, d10, rfl, g0, g1⟩
  · rw [w, if_neg Bool.false_ne_true] at q1
    have q : d h = .exc 0 [("value", r)] h := by
      rw [e]
      simp only [g_carry, cDef, e_carry, List.map_cons, List.map_nil, List.length_cons, List.length_nil, List.cons_append, List.nil_append, Nat.reduceAdd, Nat.reduceSub, List.replicate, a_sSeq, a_sExpr, a_cCall, a_cCons, a_cVar, a_cNil, List.getElem?_cons_zero, r_bind_ok, if_true, q1]
      rfl
    obtain ⟨h2, q1, q2⟩ := heard_exc (L := L) (n := n) (nm := "InvalidRule") q l0 (by simp)
    exact ⟨h2, by rw [q1, carA_r w], q2⟩
  · rw [w, if_pos rfl] at q1
    rw [w2] at q2
    have q : d h = .exc 18 [("value", s)] h := by
      rw [e]
      simp only [g_carry, cDef, e_carry, List.map_cons, List.map_nil, List.length_cons, List.length_nil, List.cons_append, List.nil_append, Nat.reduceAdd, Nat.reduceSub, List.replicate, a_sSeq, a_sExpr, a_sIf, a_cNotT, a_cTru, a_cCall, a_cCons, a_cVar, a_cNil, List.getElem?_cons_zero, List.getElem?_cons_succ, r_bind_ok, if_true, q1, r_toS_ok, then_nx, q2, truF_bl, Bool.not_false, sRaise]
      rfl
    obtain ⟨h2, q1, q2⟩ := heard_exc (L := L) (n := n) (nm := "InvalidSign") q l3 (by simp)
    exact ⟨h2, by rw [q1, carA_s w w2], q2⟩
  · rw [w, if_pos rfl] at q1
    rw [w2] at q2
    rw [w3] at q3
    have q : d h = .exc 2 [("value", b)] h := by
      rw [e]
      simp only [g_carry, cDef, e_carry, List.map_cons, List.map_nil, List.length_cons, List.length_nil, List.cons_append, List.nil_append, Nat.reduceAdd, Nat.reduceSub, List.replicate, a_sSeq, a_sExpr, a_sIf, a_cNotT, a_cTru, a_cCall, a_cCons, a_cVar, a_cNil, List.getElem?_cons_zero, List.getElem?_cons_succ, r_bind_ok, if_true, q1, r_toS_ok, then_nx, q2, q3, truF_bl, Bool.not_false, Bool.not_true, Bool.false_eq_true, if_false, a_sSkip, sRaise]
      rfl
    obtain ⟨h2, q1, q2⟩ := heard_exc (L := L) (n := n) (nm := "InvalidBase") q l2 (by simp)
    exact ⟨h2, by rw [q1, carA_b w w2 w3], q2⟩
  · obtain ⟨c, rfl, d2, d10⟩ := bs_of w3
    have q4 : g_is_between [f, .int 0, .int c.natAbs] h = .ok (.bl (bw 0 c.natAbs f)) h := jBet_ok o4.kd
    rw [w, if_pos rfl] at q1
    rw [w2] at q2
    rw [w3] at q3
    rw [show bw 0 c.natAbs f = false from w4] at q4
    have q : d h = .exc 1 [("value", f)] h := by
      rw [e]
      simp only [g_carry, cDef, e_carry, List.map_cons, List.map_nil, List.length_cons, List.length_nil, List.cons_append, List.nil_append, Nat.reduceAdd, Nat.reduceSub, List.replicate, a_sSeq, a_sExpr, a_sIf, a_cNotT, a_cTru, a_cCall, a_cCB, a_cC, abs_int, a_cCons, a_cVar, a_cNil, List.getElem?_cons_zero, List.getElem?_cons_succ, r_bind_ok, r_of_some, if_true, q1, r_toS_ok, then_nx, q2, q3, q4, truF_bl, Bool.not_false, Bool.not_true, Bool.false_eq_true, if_false, a_sSkip, sRaise]
      rfl
    obtain ⟨h2, q1, q2⟩ := heard_exc (L := L) (n := n) (nm := "InvalidNumber") q l1 (by simp)
    exact ⟨h2, by rw [q1, carA_f w w2 w3 w4], q2⟩
  · have q := s_carry R h i1 d2 d10 g0 g1
    rw [← e] at q
    exact ⟨h, by rw [heard_ok q, carA_told R i1 d2 d10 g0 g1], .refl⟩
theorem cry_small (R : Ru) {i d g : Int} (a : i = 1 ∨ i = -1) (d10 : d.natAbs ≤ 10) (g0 : 0 ≤ g) (g1 : g ≤ d.natAbs) : ((cry R i d g).1 = 0 ∨ (cry R i d g).1 = 1) ∧ (cry R i d g).2.natAbs ≤ 10 := by
  unfold cry
  simp only
  split
  · exact ⟨.inr rfl, by decide⟩
  · split
    · refine ⟨.inr rfl, ?_⟩
      rcases a with rfl | rfl <;> omega
    · refine ⟨.inl rfl, ?_⟩
      rcases a with rfl | rfl <;> omega
theorem carA_vl (o1 : Okv h r) (o2 : Okv h s) (o3 : Okv h b) (o4 : Okv h f) : Vl h 4 12000 (carA r s b f) := by
  rcases car_cases r s b f with w | ⟨w, w2⟩ | ⟨w, w2, w3⟩ | ⟨w, w2, w3, w4⟩ | ⟨R, i, c, g, rfl, rfl, i1, rfl, d2, d10, rfl, g0, g1⟩
  · rw [carA_r w]; exact (vl_two o1.vl (by decide) (by decide)).mono (by decide) (by decide)
  · rw [carA_s w w2]; exact (vl_two o2.vl (by decide) (by decide)).mono (by decide) (by decide)
  · rw [carA_b w w2 w3]; exact (vl_two o3.vl (by decide) (by decide)).mono (by decide) (by decide)
  · rw [carA_f w w2 w3 w4]; exact (vl_two o4.vl (by decide) (by decide)).mono (by decide) (by decide)
  · rw [carA_told R i1 d2 d10 g0 g1]
    obtain ⟨z1, z2⟩ := cry_small R i1 d10 g0 g1
    have z : (10 : Nat) < 10 ^ 500 := by decide +kernel
    exact (vl_two (vl_pair (by omega) (by omega)) (by decide) (by decide)).mono (by decide) (by decide)
/-- the carry beside any number that stands above -/
theorem cry_row (R : Ru) {i d g A : Int} (a : i = 1 ∨ i = -1) (d2 : 2 ≤ d.natAbs) (g0 : 0 ≤ g) (g1 : g ≤ d.natAbs) (A0 : 0 ≤ A) : dvd R (i * (A * d.natAbs + g)) d = ((i * d.sign) * (A + (cry R i d g).1), (cry R i d g).2) := by
  obtain ⟨D, eD⟩ : ∃ D : Int, D = d.natAbs := ⟨_, rfl⟩
  have hb : (d.sign = 1 ∧ d = D) ∨ (d.sign = -1 ∧ d = -D) := by
    rcases Int.lt_trichotomy d 0 with q | q | q
    · exact .inr ⟨Int.sign_eq_neg_one_of_neg q, by omega⟩
    · omega
    · exact .inl ⟨Int.sign_eq_one_of_pos q, by omega⟩
  rw [← eD] at g1 ⊢
  have AD : 0 ≤ A * D := Int.mul_nonneg A0 (by omega)
  by_cases q : g = D
  · have e1 : (A * D + (D - 1)) / D = A := by
      rw [Int.add_comm, Int.add_mul_ediv_right _ _ (by omega), Int.ediv_eq_zero_of_lt (by omega) (by omega), Int.zero_add]
    have e2 : (A * D + (D - 1)) % D = D - 1 := by
      rw [Int.add_comm, Int.add_mul_emod_self_right, Int.emod_eq_of_lt (by omega) (by omega)]
    obtain ⟨p1, p2, _⟩ := row_step R (s := i) (t := d.sign) (W := A * D + (D - 1)) (m := 1) (D := D) (b := d) (x := i * (A * D + g)) a hb (by omega) (by omega) (.inr rfl) (by rw [q]; congr 1; omega)
    rw [e1, e2, show D - 1 + 1 = g by omega] at p1
    rw [e2, show D - 1 + 1 = g by omega] at p2
    exact Prod.ext p1 p2.symm
  · have e1 : (A * D + g) / D = A := by
      rw [Int.add_comm, Int.add_mul_ediv_right _ _ (by omega), Int.ediv_eq_zero_of_lt (by omega) (by omega), Int.zero_add]
    have e2 : (A * D + g) % D = g := by
      rw [Int.add_comm, Int.add_mul_emod_self_right, Int.emod_eq_of_lt (by omega) (by omega)]
    obtain ⟨p1, p2, _⟩ := row_step R (s := i) (t := d.sign) (W := A * D + g) (m := 0) (D := D) (b := d) (x := i * (A * D + g)) a hb (by omega) (by omega) (.inl rfl) (by rw [Int.add_zero])
    rw [e1, e2, Int.add_zero] at p1
    rw [e2, Int.add_zero] at p2
    exact Prod.ext p1 p2.symm
theorem kd_carry_ok (R : Ru) {i d g : Int} (a : i = 1 ∨ i = -1) (d2 : 2 ≤ d.natAbs) (d10 : d.natAbs ≤ 10) (g0 : 0 ≤ g) (g1 : g ≤ d.natAbs) : g__law_kd_carry [.str R.s, .int i, .int d, .int g] h = .ok (.tup [.int (cry R i d g).1, .int (cry R i d g).2]) h := by
  have e := cry_row R a d2 g0 g1 (A := 5) (by decide)
  have xl : (i * (5 * (d.natAbs : Int) + g)).natAbs ≤ 10 ^ 100 := by
    refine Nat.le_trans (m := 100) ?_ (by decide +kernel)
    rcases a with rfl | rfl <;> omega
  have k := s_kd_divide R h xl (show d.natAbs ≤ 10 ^ 100 from Nat.le_trans d10 (by decide +kernel)) (show d ≠ 0 by intro z; rw [z] at d2; cases d2)
  rw [e] at k
  obtain ⟨z1, z2⟩ := cry_small R a d10 g0 g1
  obtain ⟨c, ec⟩ : ∃ c, c = (cry R i d g).1 := ⟨_, rfl⟩
  obtain ⟨l, el⟩ : ∃ l, l = (cry R i d g).2 := ⟨_, rfl⟩
  rw [← ec, ← el] at k ⊢
  rw [← ec] at z1
  have m1 : mulF (.int 5) (.int (d.natAbs : Int)) h = some (.int (5 * (d.natAbs : Int)), h) := x_mul (by decide +kernel) (sm_of (n := 10) (by omega) (by decide +kernel))
  have m2 : mulF (.int i) (.int (5 * (d.natAbs : Int) + g)) h = some (.int (i * (5 * (d.natAbs : Int) + g)), h) := x_mul (sm_of (n := 1) (by omega) (by decide +kernel)) (sm_of (n := 100) (by omega) (by decide +kernel))
  have sg' : d.sign = if 0 < d then 1 else -1 := by
    by_cases y : 0 < d
    · rw [if_pos y, Int.sign_eq_one_of_pos y]
    · rw [if_neg y, Int.sign_eq_neg_one_of_neg (by omega)]
  refine cDef_rt (ev := e__law_kd_carry) ?_
  simp only [e__law_kd_carry, List.map_cons, List.map_nil, List.length_cons, List.length_nil, List.cons_append, List.nil_append, Nat.reduceAdd, Nat.reduceSub, List.replicate, a_sSeq, a_sAsgT, a_cCall, a_cCons, a_cVar, a_cC, a_cNil, a_cBin, a_cCB, List.getElem?_cons_zero, List.getElem?_cons_succ, r_bind_ok, abs_int, r_of_some, m1, add_int, m2, if_true, k, r_toS_ok, setT_tp, setTs_cons, setT_nm, setTs_nil, List.set_cons_succ, List.set_cons_zero, then_nx, a_sRet, a_cTup, a_cIf, a_cTb, gt_int]
  rw [sg']
  by_cases y : 0 < d
  · have m3 : mulF (.int (i * 1 * (5 + c))) (.int i) h = some (.int (i * 1 * (5 + c) * i), h) := x_mul (sm_of (n := 100) (by rcases a with rfl | rfl <;> omega) (by decide +kernel)) (sm_of (n := 1) (by omega) (by decide +kernel))
    simp only [if_pos y, decide_eq_true y, if_true, a_cVar, List.getElem?_cons_zero, List.getElem?_cons_succ, r_bind_ok, m3, r_of_some, sub_int, List.length_cons, List.length_nil, Nat.reduceAdd, small_ok (show 2 ≤ 1000 by decide), r_toS_ok]
    have : i * 1 * (5 + c) * i - 5 = c := by rcases a with rfl | rfl <;> omega
    rw [this]
  · have m3 : mulF (.int (-(i * -1 * (5 + c)))) (.int i) h = some (.int (-(i * -1 * (5 + c)) * i), h) := x_mul (sm_of (n := 100) (by rcases a with rfl | rfl <;> omega) (by decide +kernel)) (sm_of (n := 1) (by omega) (by decide +kernel))
    simp only [if_neg y, decide_eq_false y, Bool.false_eq_true, if_false, if_true, a_cNeg, a_cVar, List.getElem?_cons_zero, List.getElem?_cons_succ, r_bind_ok, m3, r_of_some, sub_int, List.length_cons, List.length_nil, Nat.reduceAdd, small_ok (show 2 ≤ 1000 by decide), r_toS_ok]
    have : -(i * -1 * (5 + c)) * i - 5 = c := by rcases a with rfl | rfl <;> omega
    rw [this]
theorem car_due (o1 : Okv h r) (o2 : Okv h s) (o3 : Okv h b) (o4 : Okv h f) : ∃ h' : FH, g__law_carry_due [r, s, b, f] h = .ok (carA r s b f) h' ∧ Grw h h' := by
  obtain ⟨h', q1, g⟩ := lrule_ok o1
  have b1 : g__law_kd_is_whole [s] h' = .ok (.bl (wh s)) h' := jInt_ok (o2.kd.grw g)
  have q3 := lbase_ok (o3.kd.grw g)
  have b4 : g__law_kd_is_whole [f] h' = .ok (.bl (wh f)) h' := jInt_ok (o4.kd.grw g)
  have q2 : cOrT (cNotT (cTru (cCall 1 g__law_kd_is_whole (cCons (cVar 1) cNil)))) (cTb (cBin neF (cCB absF (cCons (cVar 1) cNil)) (cC (.int 1)))) [some r, some s, some b, some f] h' = .ok (!sg s) h' := by
    simp only [a_cOrT, a_cNotT, a_cTru, a_cCall, a_cCons, a_cVar, a_cNil, List.getElem?_cons_zero, List.getElem?_cons_succ, r_bind_ok, List.length_cons, List.length_nil, Nat.reduceAdd, if_true, b1, truF_bl]
    cases s with
    | int i =>
      have e : decide ((i.natAbs : Int) = 1) = (decide (i = -1) || decide (i = 1)) := by
        by_cases y : (i.natAbs : Int) = 1
        · rw [decide_eq_true y]
          rcases (show i = -1 ∨ i = 1 by omega) with rfl | rfl <;> rfl
        · rw [decide_eq_false y, decide_eq_false (by omega), decide_eq_false (by omega)]; rfl
      simp only [wh, Bool.not_true, Bool.false_eq_true, if_false, a_cTb, a_cBin, a_cCB, a_cCons, a_cVar, a_cC, a_cNil, List.getElem?_cons_zero, List.getElem?_cons_succ, r_bind_ok, abs_int, r_of_some, ne_int, e, sg]
    | _ => rfl
  refine ⟨h', cDef_rt (ev := e__law_carry_due) ?_, g⟩
  rcases car_cases r s b f with w | ⟨w, w2⟩ | ⟨w, w2, w3⟩ | ⟨w, w2, w3, w4⟩ | ⟨R, i, c, k, rfl, rfl, i1, rfl, d2, d10, rfl, g0, g1⟩
  · rw [carA_r w]
    rw [w] at q1
    simp only [e__law_carry_due, List.map_cons, List.map_nil, List.length_cons, List.length_nil, List.cons_append, List.nil_append, Nat.reduceAdd, Nat.reduceSub, List.replicate, a_sSeq, a_sIf, a_cNotT, a_cTru, a_cCall, a_cCons, a_cVar, a_cC, a_cNil, a_cTup, List.getElem?_cons_zero, r_bind_ok, if_true, q1, truF_bl, r_toS_ok, Bool.not_false, a_sRet, small_ok (show 2 ≤ 1000 by decide), then_rt]
  · rw [carA_s w w2]
    rw [w] at q1
    rw [w2] at q2
    simp only [e__law_carry_due, List.map_cons, List.map_nil, List.length_cons, List.length_nil, List.cons_append, List.nil_append, Nat.reduceAdd, Nat.reduceSub, List.replicate, a_sSeq, a_sIf, q2, a_cNotT, a_cTru, a_cCall, a_cCons, a_cVar, a_cC, a_cNil, a_cTup, List.getElem?_cons_zero, List.getElem?_cons_succ, r_bind_ok, if_true, q1, truF_bl, r_toS_ok, Bool.not_false, Bool.not_true, Bool.false_eq_true, if_false, a_sSkip, then_nx, a_sRet, small_ok (show 2 ≤ 1000 by decide), then_rt]
  · rw [carA_b w w2 w3]
    rw [w] at q1
    rw [w2] at q2
    rw [w3] at q3
    simp only [e__law_carry_due, List.map_cons, List.map_nil, List.length_cons, List.length_nil, List.cons_append, List.nil_append, Nat.reduceAdd, Nat.reduceSub, List.replicate, a_sSeq, a_sIf, q2, a_cNotT, a_cTru, a_cCall, a_cCons, a_cVar, a_cC, a_cNil, a_cTup, List.getElem?_cons_zero, List.getElem?_cons_succ, r_bind_ok, if_true, q1, q3, truF_bl, r_toS_ok, Bool.not_false, Bool.not_true, Bool.false_eq_true, if_false, a_sSkip, then_nx, a_sRet, small_ok (show 2 ≤ 1000 by decide), then_rt]
  · obtain ⟨c, rfl, d2, d10⟩ := bs_of w3
    have q4 : cOrT (cNotT (cTru (cCall 1 g__law_kd_is_whole (cCons (cVar 3) cNil)))) (cNotT (cTb (cChain leF leF (cC (.int 0)) (cVar 3) (cCB absF (cCons (cVar 2) cNil))))) [some r, some s, some (.int c), some f] h' = .ok true h' := by
      have w5 : bw 0 c.natAbs f = false := w4
      simp only [a_cOrT, a_cNotT, a_cTru, a_cCall, a_cCons, a_cVar, a_cNil, List.getElem?_cons_zero, List.getElem?_cons_succ, r_bind_ok, List.length_cons, List.length_nil, Nat.reduceAdd, if_true, b4, truF_bl]
      cases f with
      | int k =>
        simp only [bw] at w5
        simp only [wh, Bool.not_true, Bool.false_eq_true, if_false, a_cTb, a_cChain, a_cC, a_cVar, List.getElem?_cons_zero, List.getElem?_cons_succ, r_bind_ok, le_int, r_of_some]
        by_cases y : 0 ≤ k
        · rw [decide_eq_true y, Bool.true_and] at w5
          simp [y, w5]
        · simp [y]
      | _ => rfl
    rw [carA_f w w2 w3 w4]
    rw [w] at q1
    rw [w2] at q2
    rw [w3] at q3
    simp only [e__law_carry_due, List.map_cons, List.map_nil, List.length_cons, List.length_nil, List.cons_append, List.nil_append, Nat.reduceAdd, Nat.reduceSub, List.replicate, a_sSeq, a_sIf, q2, q4, a_cNotT, a_cTru, a_cCall, a_cCons, a_cVar, a_cC, a_cNil, a_cTup, List.getElem?_cons_zero, List.getElem?_cons_succ, r_bind_ok, if_true, q1, q3, truF_bl, r_toS_ok, Bool.not_false, Bool.not_true, Bool.false_eq_true, if_false, a_sSkip, then_nx, a_sRet, small_ok (show 2 ≤ 1000 by decide), then_rt]
  · have q4 : cOrT (cNotT (cTru (cCall 1 g__law_kd_is_whole (cCons (cVar 3) cNil)))) (cNotT (cTb (cChain leF leF (cC (.int 0)) (cVar 3) (cCB absF (cCons (cVar 2) cNil))))) [some (.str R.s), some (.int i), some (.int c), some (.int k)] h' = .ok false h' := by
      simp only [a_cOrT, a_cNotT, a_cTru, a_cCall, a_cCons, a_cVar, a_cNil, List.getElem?_cons_zero, List.getElem?_cons_succ, r_bind_ok, List.length_cons, List.length_nil, Nat.reduceAdd, if_true, b4, truF_bl]
      simp [wh, g0, g1]
    have kc := kd_carry_ok (h := h') R i1 d2 d10 g0 g1
    rw [carA_told R i1 d2 d10 g0 g1]
    rw [ru_s] at q1
    rw [sg_1 i1] at q2
    rw [bs_1 d2 d10] at q3
    simp only [e__law_carry_due, List.map_cons, List.map_nil, List.length_cons, List.length_nil, List.cons_append, List.nil_append, Nat.reduceAdd, Nat.reduceSub, List.replicate, a_sSeq, a_sIf, q2, q4, a_cNotT, a_cTru, a_cCall, a_cCons, a_cVar, a_cC, a_cNil, a_cTup, List.getElem?_cons_zero, List.getElem?_cons_succ, r_bind_ok, if_true, q1, q3, kc, truF_bl, r_toS_ok, Bool.not_true, Bool.false_eq_true, if_false, a_sSkip, then_nx, a_sRet, small_ok (show 2 ≤ 1000 by decide)]
end
end RU
set_option maxRecDepth 100000
set_option maxHeartbeats 4000000
namespace FX
open PySem
def jKgiE : EvS := (sSeq (sAsg 1 (cLst (cCons (cC (.int 0)) (cCons (cC (.int 1)) (cCons (cNeg (cC (.int 1))) (cCons (cBin subF (cCall 2 jTake (cCons (cVar 0) (cCons (cC (.int 400)) cNil))) (cC (.int 200))) (cCons (cCall 2 jTake (cCons (cVar 0) (cCons (cBin powF (cC (.int 10)) (cC (.int 20))) cNil))) (cCons (cNeg (cCall 2 jTake (cCons (cVar 0) (cCons (cBin powF (cC (.int 10)) (cC (.int 20))) cNil)))) (cCons (cBin subF (cBin powF (cC (.int 10)) (cC (.int 60))) (cC (.int 1))) cNil)))))))))
    (sRet (cCall 2 jOne (cCons (cVar 0) (cCons (cBin addF (cVar 1) (cLst (cCons (cBin subF (cC (.int 1)) (cBin powF (cC (.int 10)) (cC (.int 60)))) (cCons (cBin powF (cCall 2 jOne (cCons (cVar 0) (cCons (cLst (cCons (cC (.int 2)) (cCons (cNeg (cC (.int 2))) (cCons (cC (.int 3)) (cCons (cC (.int 10)) cNil))))) cNil))) (cC (.int 50))) cNil)))) cNil)))))
def jKgi : Fn := cDef 2 jKgiE
def jKgbE : EvS := (sRet (cBin mulF (cCall 2 jOne (cCons (cVar 0) (cCons (cLst (cCons (cC (.int 2)) (cCons (cC (.int 3)) (cCons (cC (.int 10)) (cCons (cBin addF (cC (.int 2)) (cCall 2 jTake (cCons (cVar 0) (cCons (cC (.int 9)) cNil)))) cNil))))) cNil))) (cCall 2 jOne (cCons (cVar 0) (cCons (cLst (cCons (cC (.int 1)) (cCons (cC (.int 1)) (cCons (cNeg (cC (.int 1))) cNil)))) cNil)))))
def jKgb : Fn := cDef 1 jKgbE
end FX
namespace FX.J
open PySem FX
theorem sz : sizeLine = 16777216 := by decide +kernel
theorem app_at {h : FH} {xs : List FV} {y : FV} (l : xs.length < 1000) : appendF (.ref h.length) [y] (h ++ [.lst xs]) = some (.non, h ++ [.lst (xs ++ [y])]) := append_app l
theorem tup_at {h : FH} {xs : List FV} : tupleF [.ref h.length] (h ++ [.lst xs]) = some (.tup xs, h ++ [.lst xs]) := by
  simp only [tupleF, seqF, List.getElem?_append_right (Nat.le_refl _), Nat.sub_self, List.getElem?_cons_zero]
section
variable {h : FH} {j n z : Nat}
theorem add_lst {h : FH} {a b : Nat} {xs ys : List FV} (e1 : h[a]? = some (.lst xs)) (e2 : h[b]? = some (.lst ys)) (l : (xs ++ ys).length ≤ 1000) : addF (.ref a) (.ref b) h = some (.ref h.length, h ++ [.lst (xs ++ ys)]) := by
  have := sz
  simp only [List.length_append] at l
  unfold addF
  simp only [e1, e2]
  rw [if_pos (by omega)]
theorem take_ok (J : Jar j n h) (hn : n < 10 ^ 12) {m : Int} (m0 : 0 < m) (ms : m ≤ 10 ^ 60) : ∃ (f : Int) (h' : FH), jTake [.ref j, .int m] h = .ok (.int f) h' ∧ 0 ≤ f ∧ f < m ∧ Jar j (n + 1) h' ∧ Bes j h h' :=
  jTake_ok J hn m0 (sm_of (n := 10 ^ 60) (by omega) (by decide +kernel))
theorem one_ok (J : Jar j n h) (hn : n < 10 ^ 12) {xs : List FV} {t : Nat} (e : h[t]? = some (.lst xs)) (nj : t ≠ j) (x0 : xs ≠ []) (xl : xs.length ≤ 1000) : ∃ (x : FV) (h' : FH), jOne [.ref j, .ref t] h = .ok x h' ∧ x ∈ xs ∧ Jar j (n + 1) h' ∧ Bes j h h' := jOne_ok J hn e nj x0 xl
/-- one of a list that was just made -/
theorem one_new (J : Jar j n h) (hn : n < 10 ^ 12) {xs : List FV} (x0 : xs ≠ []) (xl : xs.length ≤ 1000) : ∃ (x : FV) (h' : FH), jOne [.ref j, .ref h.length] (h ++ [.lst xs]) = .ok x h' ∧ x ∈ xs ∧ Jar j (n + 1) h' ∧ Bes j h h' := by
  obtain ⟨x, h', q, m, J', B⟩ := one_ok (J.grw (Grw.app (l := [.lst xs]))) hn (xs := xs) (t := h.length) (by simp) (by have := J.lt; omega) x0 xl
  exact ⟨x, h', q, m, J', Bes.app.trans B⟩
theorem p10_20 {h : FH} : powF (.int 10) (.int 20) h = some (.int (10 ^ 20), h) := pow_int (by decide) (by decide) (by decide)
theorem p10_60 {h : FH} : powF (.int 10) (.int 60) h = some (.int (10 ^ 60), h) := pow_int (by decide) (by decide) (by decide)
theorem ints_of {L : List FV} {b : Nat} {x : FV} (m : x ∈ L) (a : ∀ y ∈ L, ∃ i : Int, y = .int i ∧ i.natAbs ≤ b) : ∃ i : Int, x = .int i ∧ i.natAbs ≤ b := a x m
theorem kgi_ok (J : Jar j n h) (hn : n < 10 ^ 11) : ∃ (i : Int) (h' : FH), jKgi [.ref j] h = .ok (.int i) h' ∧ i.natAbs ≤ 10 ^ 60 ∧ Jar j (n + 5) h' ∧ Bes j h h' := by
  obtain ⟨f1, h1, e1, a1, b1, J1, B1⟩ := take_ok J (by omega) (m := 400) (by decide) (by decide)
  obtain ⟨f2, h2, e2, a2, b2, J2, B2⟩ := take_ok J1 (by omega) (m := 10 ^ 20) (by decide) (by decide)
  obtain ⟨f3, h3, e3, a3, b3, J3, B3⟩ := take_ok J2 (by omega) (m := 10 ^ 20) (by decide) (by decide)
  obtain ⟨L1, eL1⟩ : ∃ L1 : List FV, L1 = [.int 0, .int 1, .int (-1), .int (f1 - 200), .int f2, .int (-f3), .int (10 ^ 60 - 1)] := ⟨_, rfl⟩
  obtain ⟨h3', eh3⟩ : ∃ h3', h3' = h3 ++ [FO.lst L1] := ⟨_, rfl⟩
  have J3' : Jar j (n + 1 + 1 + 1) h3' := by rw [eh3]; exact J3.grw .app
  obtain ⟨x, h4, e4, mx, J4, B4⟩ := one_new J3' (by omega) (xs := [.int 2, .int (-2), .int 3, .int 10]) (by simp) (by simp)
  obtain ⟨xi, rfl, xb⟩ : ∃ i : Int, x = .int i ∧ i.natAbs ≤ 10 := by
    simp only [List.mem_cons, List.not_mem_nil, or_false] at mx
    rcases mx with rfl | rfl | rfl | rfl <;> exact ⟨_, rfl, by decide⟩
  have pw : ∀ h : FH, powF (.int xi) (.int 50) h = some (.int (xi ^ 50), h) := fun h => pow_int (by decide) (by decide) (by omega)
  have pb : (xi ^ 50).natAbs ≤ 10 ^ 50 := by rw [Int.natAbs_pow]; exact Nat.pow_le_pow_left xb 50
  obtain ⟨L2, eL2⟩ : ∃ L2 : List FV, L2 = [.int (1 - 10 ^ 60), .int (xi ^ 50)] := ⟨_, rfl⟩
  have at1 : h3'[h3.length]? = some (.lst L1) := by rw [eh3]; simp
  have nj : h3.length ≠ j := by have := J3.lt; omega
  have at2 : (h4 ++ [FO.lst L2])[h3.length]? = some (.lst L1) := Grw.app.at_ (B4.at_ nj at1)
  have ad := add_lst (a := h3.length) (b := h4.length) at2 (by simp : (h4 ++ [FO.lst L2])[h4.length]? = some (.lst L2)) (by rw [eL1, eL2]; exact Nat.le_of_ble_eq_true rfl)
  obtain ⟨y, h5, e5, my, J5, B5⟩ := one_new (J4.grw (Grw.app (l := [FO.lst L2]))) (by omega) (xs := L1 ++ L2) (by rw [eL1]; simp) (by rw [eL1, eL2]; exact Nat.le_of_ble_eq_true rfl)
  obtain ⟨i, rfl, ib⟩ : ∃ i : Int, y = .int i ∧ i.natAbs ≤ 10 ^ 60 := by
    rw [eL1, eL2] at my
    simp only [List.cons_append, List.nil_append, List.mem_cons, List.not_mem_nil, or_false] at my
    rcases my with rfl | rfl | rfl | rfl | rfl | rfl | rfl | rfl | rfl <;> exact ⟨_, rfl, by omega⟩
  have B34 : Bes j h3 h3' := by rw [eh3]; exact .app
  refine ⟨i, h5, cDef_rt (ev := jKgiE) ?_, ib, J5, ((((B1.trans B2).trans B3).trans B34).trans B4).trans (Bes.app.trans B5)⟩
  simp only [jKgiE, List.map_cons, List.map_nil, List.length_cons, List.length_nil, List.cons_append, List.nil_append, Nat.reduceAdd, Nat.reduceSub, List.replicate, a_sSeq, a_sAsg, a_sRet, a_cCall, a_cCons, a_cVar, a_cLst, a_cC, a_cNil, a_cBin, a_cNeg, List.getElem?_cons_zero, List.getElem?_cons_succ, r_bind_ok, if_true, e1, r_of_some, sub_int, p10_20, p10_60, e2, e3, small_ok (show 7 ≤ 1000 by decide), r_toS_ok, List.set_cons_succ, List.set_cons_zero, then_nx]
  rw [← eL1, ← eh3]
  simp only [small_ok (show 4 ≤ 1000 by decide), small_ok (show 2 ≤ 1000 by decide), if_true, r_bind_ok, e4, r_of_some, pw, List.length_cons, List.length_nil, Nat.reduceAdd]
  rw [← eL2]
  simp only [r_of_some, r_bind_ok, ad, e5, r_toS_ok, List.length_cons, List.length_nil, Nat.reduceAdd, if_true]
theorem behind {j : Nat} {h h' : FH} {n : Nat} {o : FO} (b : Bes j h h') (l : h.length ≤ n) : Bes j h (h'.set n o) := ⟨by simpa using b.1, fun i x y => by rw [List.getElem?_set_ne (by omega)]; exact b.2 i x y⟩
theorem jar_set {j n k : Nat} {h : FH} {o : FO} (J : Jar j n h) (l : k ≠ j) : Jar j n (h.set k o) := by
  obtain ⟨d, s, c, e, r⟩ := J.ex
  exact ⟨d, s, c, by rw [List.getElem?_set_ne l]; exact e, r⟩
theorem tup_ref {h : FH} {t : Nat} {xs : List FV} (q : h[t]? = some (.lst xs)) : tupleF [.ref t] h = some (.tup xs, h) := by simp only [tupleF, seqF, q]
theorem add_tup {h : FH} {xs ys : List FV} (l : (xs ++ ys).length ≤ 1000) : addF (.tup xs) (.tup ys) h = some (.tup (xs ++ ys), h) := by
  have := sz
  simp only [List.length_append] at l
  unfold addF
  simp only []
  rw [if_pos (by omega)]
theorem at1_tup {a b : FV} {h : FH} : ixF (.tup [a, b]) (.int 1) h = some (b, h) := ix_tup (i := 1) rfl
theorem at0_tup {a b : FV} {h : FH} : ixF (.tup [a, b]) (.int 0) h = some (a, h) := ix_tup (i := 0) rfl
theorem app_set {h : FH} {n : Nat} {xs : List FV} {y : FV} (e : h[n]? = some (.lst xs)) (l : xs.length < 1000) : appendF (.ref n) [y] h = some (.non, h.set n (.lst (xs ++ [y]))) := by
  have := sz
  unfold appendF
  simp only [e]
  rw [if_pos (by omega)]
theorem kgb_ok (J : Jar j n h) (hn : n < 10 ^ 11) : ∃ (b : Int) (h' : FH), jKgb [.ref j] h = .ok (.int b) h' ∧ 2 ≤ b.natAbs ∧ b.natAbs ≤ 10 ∧ Jar j (n + 3) h' ∧ Bes j h h' := by
  obtain ⟨f, h1, e1, f0, f1, J1, B1⟩ := take_ok J (by omega) (m := 9) (by decide) (by decide)
  obtain ⟨x, h2, e2, mx, J2, B2⟩ := one_new J1 (by omega) (xs := [.int 2, .int 3, .int 10, .int (2 + f)]) (by simp) (by simp)
  obtain ⟨z, rfl, z2, z10⟩ : ∃ z : Int, x = .int z ∧ 2 ≤ z ∧ z ≤ 10 := by
    simp only [List.mem_cons, List.not_mem_nil, or_false] at mx
    rcases mx with rfl | rfl | rfl | rfl <;> exact ⟨_, rfl, by omega, by omega⟩
  obtain ⟨y, h3, e3, my, J3, B3⟩ := one_new J2 (by omega) (xs := [.int 1, .int 1, .int (-1)]) (by simp) (by simp)
  obtain ⟨t, rfl, t1⟩ : ∃ t : Int, y = .int t ∧ (t = 1 ∨ t = -1) := by
    simp only [List.mem_cons, List.not_mem_nil, or_false] at my
    rcases my with rfl | rfl | rfl
    · exact ⟨1, rfl, .inl rfl⟩
    · exact ⟨1, rfl, .inl rfl⟩
    · exact ⟨-1, rfl, .inr rfl⟩
  have m : mulF (.int z) (.int t) h3 = some (.int (z * t), h3) := x_mul (sm_of (n := 10) (by omega) (by decide +kernel)) (sm_of (n := 1) (by omega) (by decide +kernel))
  refine ⟨z * t, h3, cDef_rt (ev := jKgbE) ?_, by rcases t1 with rfl | rfl <;> omega, by rcases t1 with rfl | rfl <;> omega, J3, B1.trans (B2.trans B3)⟩
  simp only [jKgbE, List.map_cons, List.map_nil, List.length_cons, List.length_nil, List.cons_append, List.nil_append, Nat.reduceAdd, Nat.reduceSub, List.replicate, a_sRet, a_cCall, a_cCons, a_cVar, a_cLst, a_cC, a_cNil, a_cBin, a_cNeg, List.getElem?_cons_zero, r_bind_ok, if_true, e1, r_of_some, add_int, small_ok (show 4 ≤ 1000 by decide), small_ok (show 3 ≤ 1000 by decide), e2, e3, m, r_toS_ok]
end
end FX.J
set_option maxRecDepth 100000
set_option maxHeartbeats 4000000
namespace LW_k01
open PySem PySem.Spec PyProof.Rows L2 FX
def v_RULES : FV := (.tup [(.str "down"), (.str "up"), (.str "zero"), (.str "positive"), (.str "near")])
def xname : Nat → Str := fun c => match c with
  | 0 => "InvalidRule"
  | 1 => "InvalidNumber"
  | 2 => "InvalidBase"
  | 3 => "InvalidName"
  | 4 => "InvalidRegisters"
  | 5 => "InvalidModes"
  | 6 => "InvalidRow"
  | 7 => "InvalidEnds"
  | 8 => "InvalidResult"
  | 9 => "InvalidProgram"
  | 10 => "InvalidFigures"
  | 11 => "InvalidState"
  | 12 => "InvalidText"
  | 18 => "InvalidSign"
  | 20 => "UnknownName"
  | 21 => "Endless"
  | 22 => "DivisionByZero"
  | 30 => "LimitExceeded"
  | _ => ""
def LX : List Nat := [0, 1, 2, 3, 4, 5, 6, 7, 8, 9, 10, 11, 12, 18, 20, 21, 22, 30]
def LFl : List Str := ["line", "mode", "number", "value"]
def e__law_kh_heard (n : Nat) (d : Cl) : EvS := (sTry LX (sRet (cTup (cCons (cC (.str "told")) (cCons (cClo 0 n d) cNil))))
    [⟨[6], (some 1), fun n1 c1 => (sRet (cTup (cCons (cC (.str "InvalidRow")) (cCons (cTup (cCons (cXf n1 "mode" (cVar 1)) (cCons (cXf n1 "number" (cVar 1)) cNil))) cNil))))⟩,
    ⟨[4, 5, 21], (some 1), fun n1 c1 => (sSeq (sAsg 2 (cLst (cCons (cTup (cCons (cC (.str "InvalidRegisters")) (cCons (cIsx n1 c1 4 (cVar 1)) cNil))) cNil)))
    (sSeq (sExpr (cLM appendF (cVar 2) (cCons (cTup (cCons (cC (.str "InvalidModes")) (cCons (cIsx n1 c1 5 (cVar 1)) cNil))) cNil)))
    (sRet (cTup (cCons (cBin ixF (cBin addF (cLc (cItL (cVar 2)) (.tt [(.nm 3), (.nm 4)]) [3, 4] (cTru (cVar 4)) (cVar 3)) (cLst (cCons (cC (.str "Endless")) cNil))) (cC (.int 0))) (cCons (cXf n1 "number" (cVar 1)) cNil))))))⟩,
    ⟨[12], (some 1), fun n1 c1 => (sRet (cTup (cCons (cC (.str "InvalidText")) (cCons (cXf n1 "line" (cVar 1)) cNil))))⟩,
    ⟨[22], none, fun n1 c1 => (sRet (cTup (cCons (cC (.str "DivisionByZero")) (cCons (cC .non) cNil))))⟩,
    ⟨[0, 1, 2, 18], (some 1), fun n1 c1 => (sSeq (sAsg 2 (cLst (cCons (cTup (cCons (cC (.str "InvalidRule")) (cCons (cIsx n1 c1 0 (cVar 1)) cNil))) (cCons (cTup (cCons (cC (.str "InvalidNumber")) (cCons (cIsx n1 c1 1 (cVar 1)) cNil))) cNil))))
    (sSeq (sExpr (cLM appendF (cVar 2) (cCons (cTup (cCons (cC (.str "InvalidBase")) (cCons (cIsx n1 c1 2 (cVar 1)) cNil))) cNil)))
    (sRet (cTup (cCons (cBin ixF (cBin addF (cLc (cItL (cVar 2)) (.tt [(.nm 3), (.nm 4)]) [3, 4] (cTru (cVar 4)) (cVar 3)) (cLst (cCons (cC (.str "InvalidSign")) cNil))) (cC (.int 0))) (cCons (cXf n1 "value" (cVar 1)) cNil))))))⟩,
    ⟨[7, 8, 10, 20], (some 1), fun n1 c1 => (sSeq (sAsg 2 (cLst (cCons (cTup (cCons (cC (.str "InvalidEnds")) (cCons (cIsx n1 c1 7 (cVar 1)) cNil))) (cCons (cTup (cCons (cC (.str "InvalidResult")) (cCons (cIsx n1 c1 8 (cVar 1)) cNil))) cNil))))
    (sSeq (sExpr (cLM appendF (cVar 2) (cCons (cTup (cCons (cC (.str "InvalidFigures")) (cCons (cIsx n1 c1 10 (cVar 1)) cNil))) cNil)))
    (sRet (cTup (cCons (cBin ixF (cBin addF (cLc (cItL (cVar 2)) (.tt [(.nm 3), (.nm 4)]) [3, 4] (cTru (cVar 4)) (cVar 3)) (cLst (cCons (cC (.str "UnknownName")) cNil))) (cC (.int 0))) (cCons (cXf n1 "value" (cVar 1)) cNil))))))⟩,
    ⟨[3, 9, 11, 30], none, fun n1 c1 => (sRet (cTup (cCons (cC (.str "another")) (cCons (cC .non) cNil))))⟩])
def g__law_kh_heard : FnC := fun n d => cDef 5 (e__law_kh_heard n d)
def e_is_greater : EvS := (sMatch (cVar 0) (mVal (cC (.str "down")) (sRet (cBin ltF (cBin mulF (cVar 1) (cVar 2)) (cC (.int 0)))) (mVal (cC (.str "up")) (sRet (cBin gtF (cBin mulF (cVar 1) (cVar 2)) (cC (.int 0)))) (mVal (cC (.str "positive")) (sRet (cBin ltF (cVar 1) (cC (.int 0)))) (mVal (cC (.str "near")) (sRet (cOr (cBin gtF (cBin mulF (cC (.int 2)) (cVar 3)) (cVar 4)) (cAnd (cBin eqF (cBin mulF (cC (.int 2)) (cVar 3)) (cVar 4)) (cBin ltF (cVar 1) (cC (.int 0)))))) (mWild (sRet (cC (.bl false)))))))))
def g_is_greater : Fn := cDef 5 e_is_greater
def e_sign_of : EvS := (sRet (cBin subF (cCB intF (cCons (cBin gtF (cVar 0) (cC (.int 0))) cNil)) (cCB intF (cCons (cBin ltF (cVar 0) (cC (.int 0))) cNil))))
def g_sign_of : Fn := cDef 1 e_sign_of
def e_carried : EvS := (sSeq (sAsg 4 (cCB absF (cCons (cVar 2) cNil)))
    (sSeq (sIf (cTb (cBin eqF (cVar 3) (cVar 4))) (sRet (cTup (cCons (cC (.int 1)) (cCons (cC (.int 0)) cNil)))) sSkip)
    (sSeq (sIf (cAndT (cTb (cBin gtF (cVar 3) (cC (.int 0)))) (cTru (cCall 5 g_is_greater (cCons (cVar 0) (cCons (cVar 1) (cCons (cCall 1 g_sign_of (cCons (cVar 2) cNil)) (cCons (cVar 3) (cCons (cVar 4) cNil)))))))) (sRet (cTup (cCons (cC (.int 1)) (cCons (cBin mulF (cVar 1) (cBin subF (cVar 3) (cVar 4))) cNil)))) sSkip)
    (sRet (cTup (cCons (cC (.int 0)) (cCons (cBin mulF (cVar 1) (cVar 3)) cNil)))))))
def g_carried : Fn := cDef 5 e_carried
def e_is_integer : EvS := (sRet (cAnd (cCB isiF (cCons (cVar 0) (cCons (cC (.ty "int")) cNil))) (cNot (cCB isiF (cCons (cVar 0) (cCons (cC (.ty "bool")) cNil))))))
def g_is_integer : Fn := cDef 1 e_is_integer
def e_is_base : EvS := (sRet (cAnd (cCall 1 g_is_integer (cCons (cVar 0) cNil)) (cChain leF leF (cC (.int 2)) (cCB absF (cCons (cVar 0) cNil)) (cC (.int 10)))))
def g_is_base : Fn := cDef 1 e_is_base
def e_is_between : EvS := (sRet (cAnd (cCall 1 g_is_integer (cCons (cVar 0) cNil)) (cChain leF leF (cVar 1) (cVar 0) (cVar 2))))
def g_is_between : Fn := cDef 3 e_is_between
def e_is_sign : EvS := (sRet (cAnd (cCall 1 g_is_integer (cCons (cVar 0) cNil)) (cBin inF (cVar 0) (cTup (cCons (cNeg (cC (.int 1))) (cCons (cC (.int 1)) cNil))))))
def g_is_sign : Fn := cDef 1 e_is_sign
def e_is_rule : EvS := (sRet (cAnd (cCB isiF (cCons (cVar 0) (cCons (cC (.ty "str")) cNil))) (cBin inF (cVar 0) (cC v_RULES))))
def g_is_rule : Fn := cDef 1 e_is_rule
def e_require_rule : EvS := (sIf (cNotT (cTru (cCall 1 g_is_rule (cCons (cVar 0) cNil)))) (sRaise 0 ["value"] (cCons (cVar 0) cNil)) sSkip)
def g_require_rule : Fn := cDef 1 e_require_rule
def e_carry : EvS := (sSeq (sExpr (cCall 1 g_require_rule (cCons (cVar 0) cNil)))
    (sSeq (sIf (cNotT (cTru (cCall 1 g_is_sign (cCons (cVar 1) cNil)))) (sRaise 18 ["value"] (cCons (cVar 1) cNil)) sSkip)
    (sSeq (sIf (cNotT (cTru (cCall 1 g_is_base (cCons (cVar 2) cNil)))) (sRaise 2 ["value"] (cCons (cVar 2) cNil)) sSkip)
    (sSeq (sIf (cNotT (cTru (cCall 3 g_is_between (cCons (cVar 3) (cCons (cC (.int 0)) (cCons (cCB absF (cCons (cVar 2) cNil)) cNil)))))) (sRaise 1 ["value"] (cCons (cVar 3) cNil)) sSkip)
    (sRet (cCall 4 g_carried (cCons (cVar 0) (cCons (cVar 1) (cCons (cVar 2) (cCons (cVar 3) cNil))))))))))
def g_carry : Fn := cDef 4 e_carry
def e__law_carried : EvS := (sRet (cLam 1 g__law_kh_heard (cCall 4 g_carry (cCons (cVar 0) (cCons (cVar 1) (cCons (cVar 2) (cCons (cVar 3) cNil))))) cNil))
def g__law_carried : Fn := cDef 4 e__law_carried
def e__law_kd_divide : EvS := (sSeq (sAsg 3 (cCB absF (cCons (cVar 2) cNil)))
    (sSeq (sIf (cTb (cBin eqF (cVar 0) (cC (.str "zero")))) (sAsg 0 (cIf (cTb (cBin eqF (cBin geF (cVar 1) (cC (.int 0))) (cBin gtF (cVar 2) (cC (.int 0))))) (cC (.str "down")) (cC (.str "up")))) sSkip)
    (sSeq (sIf (cTb (cBin eqF (cVar 0) (cC (.str "down")))) (sAsg 4 (cBin divF (cVar 1) (cVar 2))) (sIf (cTb (cBin eqF (cVar 0) (cC (.str "up")))) (sAsg 4 (cNeg (cBin divF (cNeg (cVar 1)) (cVar 2)))) (sSeq (sAsg 5 (cBin modF (cVar 1) (cVar 3)))
    (sSeq (sAsg 5 (cIf (cAndT (cTb (cBin eqF (cVar 0) (cC (.str "near")))) (cTb (cBin gtF (cBin mulF (cC (.int 2)) (cVar 5)) (cVar 3)))) (cBin subF (cVar 5) (cVar 3)) (cVar 5)))
    (sAsg 4 (cBin divF (cBin subF (cVar 1) (cVar 5)) (cVar 2)))))))
    (sRet (cTup (cCons (cVar 4) (cCons (cBin subF (cVar 1) (cBin mulF (cVar 4) (cVar 2))) cNil)))))))
def g__law_kd_divide : Fn := cDef 6 e__law_kd_divide
def e__law_kd_carry : EvS := (sSeq (sAsgT (.tp [(.nm 4), (.nm 5)]) (cCall 3 g__law_kd_divide (cCons (cVar 0) (cCons (cBin mulF (cVar 1) (cBin addF (cBin mulF (cC (.int 5)) (cCB absF (cCons (cVar 2) cNil))) (cVar 3))) (cCons (cVar 2) cNil)))))
    (sRet (cTup (cCons (cBin subF (cBin mulF (cIf (cTb (cBin gtF (cVar 2) (cC (.int 0)))) (cVar 4) (cNeg (cVar 4))) (cVar 1)) (cC (.int 5))) (cCons (cVar 5) cNil)))))
def g__law_kd_carry : Fn := cDef 6 e__law_kd_carry
def e__law_kd_is_whole : EvS := (sRet (cAnd (cCB isiF (cCons (cVar 0) (cCons (cC (.ty "int")) cNil))) (cNot (cCB isiF (cCons (cVar 0) (cCons (cC (.ty "bool")) cNil))))))
def g__law_kd_is_whole : Fn := cDef 1 e__law_kd_is_whole
def e__law_kd_is_base : EvS := (sRet (cAnd (cCall 1 g__law_kd_is_whole (cCons (cVar 0) cNil)) (cChain leF leF (cC (.int 2)) (cCB absF (cCons (cVar 0) cNil)) (cC (.int 10)))))
def g__law_kd_is_base : Fn := cDef 1 e__law_kd_is_base
def e__law_kd_rules : EvS := (sRet (cLst (cCons (cC (.str "down")) (cCons (cC (.str "up")) (cCons (cC (.str "zero")) (cCons (cC (.str "positive")) (cCons (cC (.str "near")) cNil)))))))
def g__law_kd_rules : Fn := cDef 0 e__law_kd_rules
def e__law_kd_is_rule : EvS := (sRet (cAnd (cCB isiF (cCons (cVar 0) (cCons (cC (.ty "str")) cNil))) (cBin inF (cVar 0) (cCall 0 g__law_kd_rules cNil))))
def g__law_kd_is_rule : Fn := cDef 1 e__law_kd_is_rule
def e__law_carry_due : EvS := (sSeq (sIf (cNotT (cTru (cCall 1 g__law_kd_is_rule (cCons (cVar 0) cNil)))) (sRet (cTup (cCons (cC (.str "InvalidRule")) (cCons (cVar 0) cNil)))) sSkip)
    (sSeq (sIf (cOrT (cNotT (cTru (cCall 1 g__law_kd_is_whole (cCons (cVar 1) cNil)))) (cTb (cBin neF (cCB absF (cCons (cVar 1) cNil)) (cC (.int 1))))) (sRet (cTup (cCons (cC (.str "InvalidSign")) (cCons (cVar 1) cNil)))) sSkip)
    (sSeq (sIf (cNotT (cTru (cCall 1 g__law_kd_is_base (cCons (cVar 2) cNil)))) (sRet (cTup (cCons (cC (.str "InvalidBase")) (cCons (cVar 2) cNil)))) sSkip)
    (sSeq (sIf (cOrT (cNotT (cTru (cCall 1 g__law_kd_is_whole (cCons (cVar 3) cNil)))) (cNotT (cTb (cChain leF leF (cC (.int 0)) (cVar 3) (cCB absF (cCons (cVar 2) cNil)))))) (sRet (cTup (cCons (cC (.str "InvalidNumber")) (cCons (cVar 3) cNil)))) sSkip)
    (sRet (cTup (cCons (cC (.str "told")) (cCons (cCall 4 g__law_kd_carry (cCons (cVar 0) (cCons (cVar 1) (cCons (cVar 2) (cCons (cVar 3) cNil))))) cNil))))))))
def g__law_carry_due : Fn := cDef 4 e__law_carry_due
def e_divided : EvS := (sSeq (sPar 3 4 (cCons (cCB absF (cCons (cVar 2) cNil)) (cCons (cCall 1 g_sign_of (cCons (cVar 1) cNil)) cNil)))
    (sSeq (sAsgT (.tp [(.nm 5), (.nm 6)]) (cCB divmodF (cCons (cCB absF (cCons (cVar 1) cNil)) (cCons (cVar 3) cNil))))
    (sSeq (sIf (cAndT (cTb (cBin gtF (cVar 6) (cC (.int 0)))) (cTru (cCall 5 g_is_greater (cCons (cVar 0) (cCons (cVar 4) (cCons (cCall 1 g_sign_of (cCons (cVar 2) cNil)) (cCons (cVar 6) (cCons (cVar 3) cNil)))))))) (sPar 5 6 (cCons (cBin addF (cVar 5) (cC (.int 1))) (cCons (cBin subF (cVar 6) (cVar 3)) cNil))) sSkip)
    (sRet (cTup (cCons (cBin mulF (cBin mulF (cVar 4) (cCall 1 g_sign_of (cCons (cVar 2) cNil))) (cVar 5)) (cCons (cBin mulF (cVar 4) (cVar 6)) cNil)))))))
def g_divided : Fn := cDef 7 e_divided
def e_divide : EvS := (sSeq (sExpr (cCall 1 g_require_rule (cCons (cVar 0) cNil)))
    (sSeq (sIf (cNotT (cTru (cCall 1 g_is_integer (cCons (cVar 1) cNil)))) (sRaise 1 ["value"] (cCons (cVar 1) cNil)) sSkip)
    (sSeq (sIf (cOrT (cNotT (cTru (cCall 1 g_is_integer (cCons (cVar 2) cNil)))) (cTb (cBin eqF (cVar 2) (cC (.int 0))))) (sRaise 2 ["value"] (cCons (cVar 2) cNil)) sSkip)
    (sRet (cCall 3 g_divided (cCons (cVar 0) (cCons (cVar 1) (cCons (cVar 2) cNil))))))))
def g_divide : Fn := cDef 3 e_divide
def e__law_divided : EvS := (sRet (cLam 1 g__law_kh_heard (cCall 3 g_divide (cCons (cVar 0) (cCons (cVar 1) (cCons (cVar 2) cNil)))) cNil))
def g__law_divided : Fn := cDef 3 e__law_divided
def e__law_all_right : EvS := (sSeq (sFor (cRng2 (cCons (cC (.int 2)) (cCons (cC (.int 11)) cNil))) (.nm 0) (sFor (cIt (cCall 0 g__law_kd_rules cNil)) (.nm 1) (sFor (cIt (cTup (cCons (cC (.int 1)) (cCons (cNeg (cC (.int 1))) cNil)))) (.nm 2) (sFor (cRng1 (cCons (cBin addF (cVar 0) (cC (.int 1))) cNil)) (.nm 3) (sSeq (sAsg 4 (cLc (cIt (cTup (cCons (cVar 0) (cCons (cNeg (cVar 0)) cNil)))) (.nm 6) [6] cYes (cCall 4 g__law_carried (cCons (cVar 1) (cCons (cVar 2) (cCons (cVar 6) (cCons (cVar 3) cNil)))))))
    (sSeq (sAsg 5 (cLc (cIt (cTup (cCons (cVar 0) (cCons (cNeg (cVar 0)) cNil)))) (.nm 6) [6] cYes (cCall 4 g__law_carry_due (cCons (cVar 1) (cCons (cVar 2) (cCons (cVar 6) (cCons (cVar 3) cNil)))))))
    (sIf (cTb (cBin neF (cCB reprF (cCons (cVar 4) cNil)) (cCB reprF (cCons (cVar 5) cNil)))) (sRet (cC (.bl false))) sSkip)))))))
    (sSeq (sAsg 4 (cLst (cCons (cCall 3 g__law_divided (cCons (cC (.str "Down")) (cCons (cC (.bl true)) (cCons (cC (.int 0)) cNil)))) (cCons (cCall 3 g__law_divided (cCons (cC (.str "down")) (cCons (cC (.bl true)) (cCons (cC (.int 0)) cNil)))) (cCons (cCall 3 g__law_divided (cCons (cC (.str "down")) (cCons (cC (.int 7)) (cCons (cC (.int 0)) cNil)))) cNil)))))
    (sSeq (sExpr (cLM extendF (cVar 4) (cCons (cLst (cCons (cCall 3 g__law_divided (cCons (cC (.str "up")) (cCons (cC (.int 7)) (cCons (cC (.bl true)) cNil)))) (cCons (cCall 4 g__law_carried (cCons (cC (.str "near")) (cCons (cC (.int 0)) (cCons (cC (.int 2)) (cCons (cC (.int 1)) cNil))))) (cCons (cCall 4 g__law_carried (cCons (cC (.str "up")) (cCons (cC (.int 1)) (cCons (cC (.int 2)) (cCons (cC (.int 3)) cNil))))) cNil)))) cNil)))
    (sSeq (sExpr (cLM extendF (cVar 4) (cCons (cLst (cCons (cCall 4 g__law_carried (cCons (cC (.str "up")) (cCons (cC (.int 1)) (cCons (cC (.int 11)) (cCons (cC (.int 9)) cNil))))) (cCons (cCall 4 g__law_carried (cCons (cC (.str "up")) (cCons (cC (.int 1)) (cCons (cC (.int 1)) (cCons (cC (.int 9)) cNil))))) cNil))) cNil)))
    (sSeq (sAsg 5 (cLst (cCons (cTup (cCons (cC (.str "InvalidRule")) (cCons (cC (.str "Down")) cNil))) (cCons (cTup (cCons (cC (.str "InvalidNumber")) (cCons (cC (.bl true)) cNil))) (cCons (cTup (cCons (cC (.str "InvalidBase")) (cCons (cC (.int 0)) cNil))) (cCons (cTup (cCons (cC (.str "InvalidBase")) (cCons (cC (.bl true)) cNil))) cNil))))))
    (sSeq (sExpr (cLM extendF (cVar 5) (cCons (cLst (cCons (cTup (cCons (cC (.str "InvalidSign")) (cCons (cC (.int 0)) cNil))) (cCons (cTup (cCons (cC (.str "InvalidNumber")) (cCons (cC (.int 3)) cNil))) (cCons (cTup (cCons (cC (.str "InvalidBase")) (cCons (cC (.int 11)) cNil))) (cCons (cTup (cCons (cC (.str "InvalidBase")) (cCons (cC (.int 1)) cNil))) cNil))))) cNil)))
    (sRet (cBin eqF (cCB reprF (cCons (cVar 4) cNil)) (cCB reprF (cCons (cVar 5) cNil))))))))))
def g__law_all_right : Fn := cDef 7 e__law_all_right
def e__law_take : EvS := (sSeq (sIf (cTb (cBin gtF (cBin ixF (cVar 0) (cC (.int 0))) (cC (.int 0)))) (sSeq (sAsg 2 (cBin modF (cCB intF (cCons (cBin ixF (cVar 0) (cC (.int 0))) cNil)) (cVar 1)))
    (sSeq (sSetL (cVar 0) (cC (.int 0)) (cBin divF (cBin ixF (cVar 0) (cC (.int 0))) (cVar 1)))
    (sRet (cVar 2)))) sSkip)
    (sSeq (sSetL (cVar 0) (cC (.int 2)) (cBin addF (cBin ixF (cVar 0) (cC (.int 2))) (cC (.int 1))))
    (sSeq (sSetL (cVar 0) (cC (.int 1)) (cBin modF (cCB intF (cCons (cBin addF (cBin addF (cBin mulF (cBin ixF (cVar 0) (cC (.int 1))) (cC (.int 39373))) (cBin mulF (cC (.int 7919)) (cBin ixF (cVar 0) (cC (.int 2))))) (cC (.int 7))) cNil)) (cC (.int 2147483647))))
    (sRet (cBin modF (cCB intF (cCons (cBin divF (cBin modF (cCB intF (cCons (cBin mulF (cBin ixF (cVar 0) (cC (.int 1))) (cBin ixF (cVar 0) (cC (.int 1)))) cNil)) (cC (.int 2147483629))) (cC (.int 32))) cNil)) (cVar 1))))))
def g__law_take : Fn := cDef 3 e__law_take
def e__law_one : EvS := (sRet (cBin ixF (cVar 1) (cCall 2 g__law_take (cCons (cVar 0) (cCons (cCB lenF (cCons (cVar 1) cNil)) cNil)))))
def g__law_one : Fn := cDef 2 e__law_one
def e__law_kg_base : EvS := (sRet (cBin mulF (cCall 2 g__law_one (cCons (cVar 0) (cCons (cLst (cCons (cC (.int 2)) (cCons (cC (.int 3)) (cCons (cC (.int 10)) (cCons (cBin addF (cC (.int 2)) (cCall 2 g__law_take (cCons (cVar 0) (cCons (cC (.int 9)) cNil)))) cNil))))) cNil))) (cCall 2 g__law_one (cCons (cVar 0) (cCons (cLst (cCons (cC (.int 1)) (cCons (cC (.int 1)) (cCons (cNeg (cC (.int 1))) cNil)))) cNil)))))
def g__law_kg_base : Fn := cDef 1 e__law_kg_base
def e__law_beside_right : EvS := (sSeq (sPar3 1 2 3 (cCons (cCall 2 g__law_one (cCons (cVar 0) (cCons (cCall 0 g__law_kd_rules cNil) cNil))) (cCons (cCall 2 g__law_one (cCons (cVar 0) (cCons (cLst (cCons (cC (.int 1)) (cCons (cNeg (cC (.int 1))) cNil))) cNil))) (cCons (cCall 1 g__law_kg_base (cCons (cVar 0) cNil)) cNil))))
    (sSeq (sPar 4 5 (cCons (cCall 2 g__law_take (cCons (cVar 0) (cCons (cBin addF (cCB absF (cCons (cVar 3) cNil)) (cC (.int 1))) cNil))) (cCons (cCall 2 g__law_one (cCons (cVar 0) (cCons (cLst (cCons (cC (.int 0)) (cCons (cC (.int 1)) (cCons (cCall 2 g__law_take (cCons (cVar 0) (cCons (cBin powF (cC (.int 10)) (cC (.int 50))) cNil))) (cCons (cCall 2 g__law_take (cCons (cVar 0) (cCons (cC (.int 99)) cNil))) cNil))))) cNil))) cNil)))
    (sSeq (sAsg 6 (cLst (cCons (cCall 4 g__law_carried (cCons (cVar 1) (cCons (cVar 2) (cCons (cVar 3) (cCons (cVar 4) cNil))))) (cCons (cCall 3 g__law_divided (cCons (cVar 1) (cCons (cBin mulF (cVar 2) (cBin addF (cBin mulF (cVar 5) (cCB absF (cCons (cVar 3) cNil))) (cVar 4))) (cCons (cVar 3) cNil)))) cNil))))
    (sSeq (sIf (cOrT (cTb (cBin neF (cBin ixF (cBin ixF (cVar 6) (cC (.int 0))) (cC (.int 0))) (cC (.str "told")))) (cOrT (cTb (cBin neF (cBin ixF (cBin ixF (cVar 6) (cC (.int 1))) (cC (.int 0))) (cC (.str "told")))) (cOrT (cNotT (cTru (cCB isiF (cCons (cBin ixF (cBin ixF (cVar 6) (cC (.int 0))) (cC (.int 1))) (cCons (cC (.ty "tuple")) cNil))))) (cTb (cBin neF (cCB lenF (cCons (cBin ixF (cBin ixF (cVar 6) (cC (.int 0))) (cC (.int 1))) cNil)) (cC (.int 2))))))) (sRet (cC (.bl false))) sSkip)
    (sSeq (sAsgT (.tp [(.nm 7), (.nm 8)]) (cBin ixF (cBin ixF (cVar 6) (cC (.int 0))) (cC (.int 1))))
    (sSeq (sAsg 9 (cIf (cTb (cBin gtF (cVar 3) (cC (.int 0)))) (cVar 2) (cNeg (cVar 2))))
    (sRet (cBin eqF (cCB reprF (cCons (cBin ixF (cBin ixF (cVar 6) (cC (.int 1))) (cC (.int 1))) cNil)) (cCB reprF (cCons (cTup (cCons (cBin mulF (cVar 9) (cBin addF (cVar 5) (cVar 7))) (cCons (cVar 8) cNil))) cNil))))))))))
def g__law_beside_right : Fn := cDef 10 e__law_beside_right
def e__law_any : EvS := (sRet (cCall 2 g__law_one (cCons (cVar 0) (cCons (cLst (cCons (cC .non) (cCons (cC (.bl true)) (cCons (cC (.bl false)) (cCons (cC (.str "2")) (cCons (cC (.str "")) (cCons (cTup (cCons (cC (.int 2)) cNil)) (cCons (cLst cNil) (cCons (cC (.str "Down")) (cCons (cC (.str "down ")) (cCons (cTup (cCons (cC (.str "down")) cNil)) (cCons (cLst (cCons (cC (.int 2)) cNil)) cNil)))))))))))) cNil))))
def g__law_any : Fn := cDef 1 e__law_any
def e__law_kh_says (n : Nat) (d : Cl) : EvS := (sRet (cBin eqF (cCB reprF (cCons (cPass 0 n d 1 g__law_kh_heard cNil) cNil)) (cCB reprF (cCons (cVar 1) cNil))))
def g__law_kh_says : FnC := fun n d => cDef 2 (e__law_kh_says n d)
def e__law_carries_right : EvS := (sSeq (sFor (cIt (cLst (cCons (cC (.int 1000)) (cCons (cC (.int 1000)) (cCons (cC (.int 4)) (cCons (cC (.int 2)) (cCons (cC (.int 1)) cNil))))))) (.nm 1) (sSeq (sAsg 5 (cCall 1 g__law_kg_base (cCons (cVar 0) cNil)))
    (sSeq (sAsg 6 (cCall 2 g__law_one (cCons (cVar 0) (cCons (cLst (cCons (cC (.int 0)) (cCons (cCB absF (cCons (cVar 5) cNil)) (cCons (cBin subF (cCB absF (cCons (cVar 5) cNil)) (cC (.int 1))) (cCons (cCall 2 g__law_take (cCons (cVar 0) (cCons (cBin addF (cCB absF (cCons (cVar 5) cNil)) (cC (.int 1))) cNil))) (cCons (cNeg (cC (.int 1))) (cCons (cBin addF (cCB absF (cCons (cVar 5) cNil)) (cC (.int 1))) cNil))))))) cNil))))
    (sSeq (sAsg 2 (cLst (cCons (cVar 5) (cCons (cVar 5) (cCons (cVar 5) (cCons (cC (.int 1)) (cCons (cC (.int 0)) (cCons (cNeg (cC (.int 1))) (cCons (cC (.int 11)) (cCons (cNeg (cC (.int 11))) cNil))))))))))
    (sSeq (sAsg 3 (cLst (cCons (cCall 2 g__law_one (cCons (cVar 0) (cCons (cCall 0 g__law_kd_rules cNil) cNil))) (cCons (cCall 2 g__law_one (cCons (cVar 0) (cCons (cLst (cCons (cC (.int 1)) (cCons (cNeg (cC (.int 1))) cNil))) cNil))) (cCons (cCall 2 g__law_one (cCons (cVar 0) (cCons (cVar 2) cNil))) cNil)))))
    (sSeq (sAsg 3 (cLc (cIt (cBin addF (cVar 3) (cLst (cCons (cVar 6) cNil)))) (.nm 9) [9] cYes (cIf (cTb (cBin eqF (cCall 2 g__law_take (cCons (cVar 0) (cCons (cVar 1) cNil))) (cC (.int 0)))) (cCall 1 g__law_any (cCons (cVar 0) cNil)) (cVar 9))))
    (sSeq (sAsgT (.tp [(.nm 7), (.nm 8), (.nm 5), (.nm 6)]) (cVar 3))
    (sSeq (sAsg 8 (cCall 2 g__law_one (cCons (cVar 0) (cCons (cLst (cCons (cVar 8) (cCons (cVar 8) (cCons (cVar 8) (cCons (cVar 8) (cCons (cC (.int 0)) (cCons (cC (.int 2)) cNil))))))) cNil))))
    (sSeq (sAsg 4 (cCall 4 g__law_carry_due (cCons (cVar 7) (cCons (cVar 8) (cCons (cVar 5) (cCons (cVar 6) cNil))))))
    (sSeq (sIf (cTb (cBin neF (cCB reprF (cCons (cCall 4 g__law_carried (cCons (cVar 7) (cCons (cVar 8) (cCons (cVar 5) (cCons (cVar 6) cNil))))) cNil)) (cCB reprF (cCons (cVar 4) cNil)))) (sRet (cC (.bl false))) sSkip)
    (sIf (cNotT (cTru (cLam 2 g__law_kh_says (cCallW 0 4 4 [2, 3, 1, 0] g_carry cNil (cCons (cVar 6) (cCons (cVar 5) (cCons (cVar 7) (cCons (cVar 8) cNil))))) (cCons (cVar 4) cNil)))) (sRet (cC (.bl false))) sSkip)))))))))))
    (sRet (cC (.bl true))))
def g__law_carries_right : Fn := cDef 10 e__law_carries_right
def e__law_divide_due : EvS := (sSeq (sIf (cNotT (cTru (cCall 1 g__law_kd_is_rule (cCons (cVar 0) cNil)))) (sRet (cTup (cCons (cC (.str "InvalidRule")) (cCons (cVar 0) cNil)))) sSkip)
    (sSeq (sIf (cNotT (cTru (cCall 1 g__law_kd_is_whole (cCons (cVar 1) cNil)))) (sRet (cTup (cCons (cC (.str "InvalidNumber")) (cCons (cVar 1) cNil)))) sSkip)
    (sSeq (sIf (cOrT (cNotT (cTru (cCall 1 g__law_kd_is_whole (cCons (cVar 2) cNil)))) (cTb (cBin eqF (cVar 2) (cC (.int 0))))) (sRet (cTup (cCons (cC (.str "InvalidBase")) (cCons (cVar 2) cNil)))) sSkip)
    (sRet (cTup (cCons (cC (.str "told")) (cCons (cCall 3 g__law_kd_divide (cCons (cVar 0) (cCons (cVar 1) (cCons (cVar 2) cNil)))) cNil)))))))
def g__law_divide_due : Fn := cDef 3 e__law_divide_due
def e__law_kg_integer : EvS := (sSeq (sAsg 1 (cLst (cCons (cC (.int 0)) (cCons (cC (.int 1)) (cCons (cNeg (cC (.int 1))) (cCons (cBin subF (cCall 2 g__law_take (cCons (cVar 0) (cCons (cC (.int 400)) cNil))) (cC (.int 200))) (cCons (cCall 2 g__law_take (cCons (cVar 0) (cCons (cBin powF (cC (.int 10)) (cC (.int 20))) cNil))) (cCons (cNeg (cCall 2 g__law_take (cCons (cVar 0) (cCons (cBin powF (cC (.int 10)) (cC (.int 20))) cNil)))) (cCons (cBin subF (cBin powF (cC (.int 10)) (cC (.int 60))) (cC (.int 1))) cNil)))))))))
    (sRet (cCall 2 g__law_one (cCons (cVar 0) (cCons (cBin addF (cVar 1) (cLst (cCons (cBin subF (cC (.int 1)) (cBin powF (cC (.int 10)) (cC (.int 60)))) (cCons (cBin powF (cCall 2 g__law_one (cCons (cVar 0) (cCons (cLst (cCons (cC (.int 2)) (cCons (cNeg (cC (.int 2))) (cCons (cC (.int 3)) (cCons (cC (.int 10)) cNil))))) cNil))) (cC (.int 50))) cNil)))) cNil)))))
def g__law_kg_integer : Fn := cDef 2 e__law_kg_integer
def e__law_drawn_args : EvS := (sSeq (sPar 2 3 (cCons (cCall 2 g__law_one (cCons (cVar 0) (cCons (cCall 0 g__law_kd_rules cNil) cNil))) (cCons (cCall 1 g__law_kg_base (cCons (cVar 0) cNil)) cNil)))
    (sSeq (sAsg 4 (cLst (cCons (cVar 2) (cCons (cCall 1 g__law_kg_integer (cCons (cVar 0) cNil)) (cCons (cCall 2 g__law_one (cCons (cVar 0) (cCons (cLst (cCons (cVar 3) (cCons (cC (.int 0)) (cCons (cC (.int 1)) (cCons (cNeg (cC (.int 1))) (cCons (cC (.int 11)) (cCons (cNeg (cC (.int 12))) (cCons (cCall 1 g__law_kg_integer (cCons (cVar 0) cNil)) cNil)))))))) cNil))) cNil)))))
    (sRet (cLc (cIt (cVar 4)) (.nm 5) [5] cYes (cIf (cTb (cBin eqF (cCall 2 g__law_take (cCons (cVar 0) (cCons (cVar 1) cNil))) (cC (.int 0)))) (cCall 1 g__law_any (cCons (cVar 0) cNil)) (cVar 5))))))
def g__law_drawn_args : Fn := cDef 6 e__law_drawn_args
def e__law_divides_right : EvS := (sSeq (sFor (cIt (cLst (cCons (cC (.int 1000)) (cCons (cC (.int 1000)) (cCons (cC (.int 4)) (cCons (cC (.int 2)) (cCons (cC (.int 1)) cNil))))))) (.nm 1) (sSeq (sAsgT (.tp [(.nm 3), (.nm 4), (.nm 2)]) (cCall 2 g__law_drawn_args (cCons (cVar 0) (cCons (cVar 1) cNil))))
    (sSeq (sIf (cTb (cBin neF (cCB reprF (cCons (cCall 3 g__law_divided (cCons (cVar 3) (cCons (cVar 4) (cCons (cVar 2) cNil)))) cNil)) (cCB reprF (cCons (cCall 3 g__law_divide_due (cCons (cVar 3) (cCons (cVar 4) (cCons (cVar 2) cNil)))) cNil)))) (sRet (cC (.bl false))) sSkip)
    (sIf (cNotT (cTru (cLam 2 g__law_kh_says (cCallW 0 3 3 [2, 1, 0] g_divide cNil (cCons (cVar 2) (cCons (cVar 4) (cCons (cVar 3) cNil)))) (cCons (cCall 3 g__law_divide_due (cCons (cVar 3) (cCons (cVar 4) (cCons (cVar 2) cNil)))) cNil)))) (sRet (cC (.bl false))) sSkip))))
    (sRet (cC (.bl true))))
def g__law_divides_right : Fn := cDef 5 e__law_divides_right
def e_rule_names : EvS := (sRet (cCB listF (cCons (cC v_RULES) cNil)))
def g_rule_names : Fn := cDef 0 e_rule_names
def e__law_names_right : EvS := (sSeq (sAsg 0 (cLam 1 g__law_kh_heard (cCall 0 g_rule_names cNil) cNil))
    (sSeq (sIf (cTb (cBin neF (cCB reprF (cCons (cVar 0) cNil)) (cCB reprF (cCons (cTup (cCons (cC (.str "told")) (cCons (cCall 0 g__law_kd_rules cNil) cNil))) cNil)))) (sRet (cC (.bl false))) sSkip)
    (sSeq (sExpr (cLM0 clearF (cBin ixF (cVar 0) (cC (.int 1)))))
    (sRet (cLam 2 g__law_kh_says (cCall 0 g_rule_names cNil) (cCons (cTup (cCons (cC (.str "told")) (cCons (cCall 0 g__law_kd_rules cNil) cNil))) cNil))))))
def g__law_names_right : Fn := cDef 1 e__law_names_right
def e__law_pool : EvS := (sSeq (sAsgT (.tp [(.nm 1), (.nm 2)]) (cTup (cCons (cC (.int 0)) (cCons (cC (.int 7)) cNil))))
    (sSeq (sFor (cRng1 (cCons (cCB lenF (cCons (cVar 0) cNil)) cNil)) (.nm 3) (sSeq (sAsg 4 (cIf (cTb (cBin geF (cBin ixF (cVar 0) (cVar 3)) (cC (.int 0)))) (cCB intF (cCons (cBin ixF (cVar 0) (cVar 3)) cNil)) (cCB intF (cCons (cBin subF (cNeg (cC (.int 1))) (cBin ixF (cVar 0) (cVar 3))) cNil))))
    (sSeq (sAsg 2 (cBin modF (cCB intF (cCons (cBin addF (cBin addF (cBin mulF (cVar 2) (cC (.int 48271))) (cBin modF (cVar 4) (cC (.int 2147483629)))) (cC (.int 11))) cNil)) (cC (.int 2147483647))))
    (sAsg 1 (cIf (cAndT (cTb (cBin geF (cVar 4) (cBin powF (cC (.int 10)) (cC (.int 12))))) (cTb (cBin ltF (cVar 1) (cBin powF (cC (.int 10)) (cC (.int 60)))))) (cCB intF (cCons (cBin addF (cBin mulF (cVar 1) (cBin powF (cC (.int 10)) (cC (.int 60)))) (cBin modF (cVar 4) (cBin powF (cC (.int 10)) (cC (.int 60))))) cNil)) (cVar 1))))))
    (sRet (cLst (cCons (cVar 1) (cCons (cVar 2) (cCons (cC (.int 0)) cNil)))))))
def g__law_pool : Fn := cDef 5 e__law_pool
def e_law : EvS := (sSeq (sAsg 1 (cCall 1 g__law_pool (cCons (cVar 0) cNil)))
    (sSeq (sFor (cRng1 (cCons (cC (.int 12)) cNil)) (.nm 2) (sIf (cOrT (cNotT (cTru (cCall 1 g__law_divides_right (cCons (cVar 1) cNil)))) (cOrT (cNotT (cTru (cCall 1 g__law_carries_right (cCons (cVar 1) cNil)))) (cNotT (cTru (cCall 1 g__law_beside_right (cCons (cVar 1) cNil)))))) (sRet (cC (.bl false))) sSkip))
    (sRet (cAnd (cCall 0 g__law_all_right cNil) (cCall 0 g__law_names_right cNil)))))
def g_law : Fn := cDef 3 e_law
end LW_k01
set_option maxRecDepth 100000
set_option maxHeartbeats 4000000
namespace LW_k01
open PySem PySem.Spec PyProof.Rows L2 FX
variable [LamT]
def top (i : Nat) : Stmt := PySem.Challenge.pw_stillwords_k01_division_refused_and_told.main.body.getD i (.Pass ⟨0, 0, 0, 0⟩)
def clsBody (s : Stmt) (j : Nat) : Stmt := match s with
  | .ClassDef _ _ _ b _ _ _ _ _ _ _ => b.getD j (.Pass ⟨0, 0, 0, 0⟩)
  | _ => .Pass ⟨0, 0, 0, 0⟩
abbrev FnP (K : PySem.W.Frag) (x : Str) (st : Stmt) (f : Addr) (fd : FuncData) : Prop := FunD K x x (defArgs st) (defBody st) (defScope st) [] [] f fd
abbrev InP (K : PySem.W.Frag) (x : Str) (st : Stmt) (f : Addr) (fd : FuncData) : Prop := FunD K "__init__" (x ++ ".__init__") (defArgs st) (defBody st) (defScope st) [] [] f fd
theorem never_own {X : Cx} : PassesOwn (model X.nox.prog X.nox.w) X.nox.A X.nox.env X.nox.xe := PassesOwn.never
section
variable {P : Program} {w : World} {K : PySem.W.Frag} {mg : Str → Option Value} {base : Heap} {k : Nat} {f : Addr} {fd : FuncData}
abbrev ini_InvalidBase : Stmt := clsBody (top 3) 0
theorem si_InvalidBase : FnScope ["self", "value"] ["self", "value"] (defScope ini_InvalidBase) := ⟨rfl, rfl, rfl, by decide +kernel, rfl, by decide +kernel, by decide +kernel⟩
theorem i_InvalidBase (F : InP K "InvalidBase" ini_InvalidBase f fd) (T : OexC K (xA K 2)) (n1 : PySem.W.findIn K (.ref (xA K 2)) "value" = some none) (vV : PySem.W.findCls K (.type "ValueError") (.type "type") "__init__" = some (.val (.builtin "ValueError.__init__"))) (nV : mg "ValueError" = none) : FnOk P w K mg base (L2.CX P w) 1 f fd ["self", "value"] (spX (xA K 2) ["value"]) :=
  ini_one (N := ["self", "value"]) (m := "a value is no base") F si_InvalidBase rfl rfl T n1 fun cdv A outer s H E => pss_cons (ps_expr (pe_veinit rfl nV vV (pa_cons (pe_var (i := 0) rfl (Or.inl rfl)) (pa_cons pe_str pa_nil)))) (pss_one (ps_ost (pe_var (i := 0) rfl (Or.inl rfl)) (pe_var (i := 1) rfl (Or.inl rfl))))
abbrev ini_InvalidNumber : Stmt := clsBody (top 2) 0
theorem si_InvalidNumber : FnScope ["self", "value"] ["self", "value"] (defScope ini_InvalidNumber) := ⟨rfl, rfl, rfl, by decide +kernel, rfl, by decide +kernel, by decide +kernel⟩
theorem i_InvalidNumber (F : InP K "InvalidNumber" ini_InvalidNumber f fd) (T : OexC K (xA K 1)) (n1 : PySem.W.findIn K (.ref (xA K 1)) "value" = some none) (vV : PySem.W.findCls K (.type "ValueError") (.type "type") "__init__" = some (.val (.builtin "ValueError.__init__"))) (nV : mg "ValueError" = none) : FnOk P w K mg base (L2.CX P w) 1 f fd ["self", "value"] (spX (xA K 1) ["value"]) :=
  ini_one (N := ["self", "value"]) (m := "a value is not the number that is wanted") F si_InvalidNumber rfl rfl T n1 fun cdv A outer s H E => pss_cons (ps_expr (pe_veinit rfl nV vV (pa_cons (pe_var (i := 0) rfl (Or.inl rfl)) (pa_cons pe_str pa_nil)))) (pss_one (ps_ost (pe_var (i := 0) rfl (Or.inl rfl)) (pe_var (i := 1) rfl (Or.inl rfl))))
abbrev ini_InvalidRule : Stmt := clsBody (top 1) 0
theorem si_InvalidRule : FnScope ["self", "value"] ["self", "value"] (defScope ini_InvalidRule) := ⟨rfl, rfl, rfl, by decide +kernel, rfl, by decide +kernel, by decide +kernel⟩
theorem i_InvalidRule (F : InP K "InvalidRule" ini_InvalidRule f fd) (T : OexC K (xA K 0)) (n1 : PySem.W.findIn K (.ref (xA K 0)) "value" = some none) (vV : PySem.W.findCls K (.type "ValueError") (.type "type") "__init__" = some (.val (.builtin "ValueError.__init__"))) (nV : mg "ValueError" = none) : FnOk P w K mg base (L2.CX P w) 1 f fd ["self", "value"] (spX (xA K 0) ["value"]) :=
  ini_one (N := ["self", "value"]) (m := "a value is no rule") F si_InvalidRule rfl rfl T n1 fun cdv A outer s H E => pss_cons (ps_expr (pe_veinit rfl nV vV (pa_cons (pe_var (i := 0) rfl (Or.inl rfl)) (pa_cons pe_str pa_nil)))) (pss_one (ps_ost (pe_var (i := 0) rfl (Or.inl rfl)) (pe_var (i := 1) rfl (Or.inl rfl))))
abbrev ini_InvalidSign : Stmt := clsBody (top 14) 0
theorem si_InvalidSign : FnScope ["self", "value"] ["self", "value"] (defScope ini_InvalidSign) := ⟨rfl, rfl, rfl, by decide +kernel, rfl, by decide +kernel, by decide +kernel⟩
theorem i_InvalidSign (F : InP K "InvalidSign" ini_InvalidSign f fd) (T : OexC K (xA K 18)) (n1 : PySem.W.findIn K (.ref (xA K 18)) "value" = some none) (vV : PySem.W.findCls K (.type "ValueError") (.type "type") "__init__" = some (.val (.builtin "ValueError.__init__"))) (nV : mg "ValueError" = none) : FnOk P w K mg base (L2.CX P w) 1 f fd ["self", "value"] (spX (xA K 18) ["value"]) :=
  ini_one (N := ["self", "value"]) (m := "a value is not the sign that is wanted") F si_InvalidSign rfl rfl T n1 fun cdv A outer s H E => pss_cons (ps_expr (pe_veinit rfl nV vV (pa_cons (pe_var (i := 0) rfl (Or.inl rfl)) (pa_cons pe_str pa_nil)))) (pss_one (ps_ost (pe_var (i := 0) rfl (Or.inl rfl)) (pe_var (i := 1) rfl (Or.inl rfl))))
abbrev st__law_kh_heard : Stmt := top 47
theorem sc__law_kh_heard : FnScope ["call", "odd", "some", "name", "is_one"] ["call"] (defScope st__law_kh_heard) := ⟨rfl, rfl, rfl, by decide +kernel, rfl, by decide +kernel, by decide +kernel⟩
theorem w__law_kh_heard (lv : Nat) (F : FnP K "_law_kh_heard" st__law_kh_heard f fd) (n_isinstance : mg "isinstance" = none) (k_InvalidRule : mg "InvalidRule" = some (.ref (xA K 0))) (k_InvalidNumber : mg "InvalidNumber" = some (.ref (xA K 1))) (k_InvalidBase : mg "InvalidBase" = some (.ref (xA K 2))) (k_InvalidName : mg "InvalidName" = some (.ref (xA K 3))) (k_InvalidRegisters : mg "InvalidRegisters" = some (.ref (xA K 4))) (k_InvalidModes : mg "InvalidModes" = some (.ref (xA K 5))) (k_InvalidRow : mg "InvalidRow" = some (.ref (xA K 6))) (k_InvalidEnds : mg "InvalidEnds" = some (.ref (xA K 7))) (k_InvalidResult : mg "InvalidResult" = some (.ref (xA K 8))) (k_InvalidProgram : mg "InvalidProgram" = some (.ref (xA K 9))) (k_InvalidFigures : mg "InvalidFigures" = some (.ref (xA K 10))) (k_InvalidState : mg "InvalidState" = some (.ref (xA K 11))) (k_InvalidText : mg "InvalidText" = some (.ref (xA K 12))) (k_InvalidSign : mg "InvalidSign" = some (.ref (xA K 18))) (k_UnknownName : mg "UnknownName" = some (.ref (xA K 20))) (k_Endless : mg "Endless" = some (.ref (xA K 21))) (k_DivisionByZero : mg "DivisionByZero" = some (.ref (xA K 22))) (k_LimitExceeded : mg "LimitExceeded" = some (.ref (xA K 30))) (F_ : XFs K LX) (u_ : XSu K LX LFl) : FnH P w K mg base (lv + 1) lv f fd ["call"] g__law_kh_heard := by
  refine fnH_of (N := ["call", "odd", "some", "name", "is_one"]) (k := lv) (ev := e__law_kh_heard) F sc__law_kh_heard fun cdv A outer s H E ρ fc n d hr hgd hcd hn hcl => ?_
  have hu := hr.units
  have hu1 : _ + 1 < cLine := Nat.lt_of_le_of_lt (Nat.add_le_add_left (by decide) _) hu
  have hgd : (A.deeper (envOfC "_law_kh_heard" (defScope st__law_kh_heard) s.heap.objs.size f cdv)).guards = some [] := hgd
  have hcalm : (cxD P w K mg base ["call", "odd", "some", "name", "is_one"] "_law_kh_heard" (defScope st__law_kh_heard) f cdv A outer s H E).calm = true := rfl
  have hN : (cxD P w K mg base ["call", "odd", "some", "name", "is_one"] "_law_kh_heard" (defScope st__law_kh_heard) f cdv A outer s H E).N.Nodup := sc__law_kh_heard.nd
  have tk := L2N.takes_of (X := cxD P w K mg base ["call", "odd", "some", "name", "is_one"] "_law_kh_heard" (defScope st__law_kh_heard) f cdv A outer s H E) (E := E) rfl rfl rfl rfl
  have po := passes_of (X := cxD P w K mg base ["call", "odd", "some", "name", "is_one"] "_law_kh_heard" (defScope st__law_kh_heard) f cdv A outer s H E) rfl
  exact (fss_one (fs_try rfl rfl hN tk (fun w1_ pn1_ xe1_ tk1_ po1_ => (fss_one (fs_ret (fe_tup (fa_cons fe_str (fa_cons (fe_clo 0 hcl rfl rfl hn hr hgd tk1_) fa_nil))))))
      (HsF.as_ (tst_nm F_ k_InvalidRow (by decide)) rfl rfl (fun a1 oe1 c1 dd1 pn1 ρ1 H1 n1 hc1 zo1 fo1 na1 nb1 nx1 => (fss_one (fs_ret (fe_tup (fa_cons fe_str (fa_cons (fe_tup (fa_cons (fe_xf u_ hc1 (by decide) zo1 fo1 na1 nb1 (fe_var 1)) (fa_cons (fe_xf u_ hc1 (by decide) zo1 fo1 na1 nb1 (fe_var 1)) fa_nil))) fa_nil))))))
      (HsF.as_ (tst_tup F_ (Nms.cons k_InvalidRegisters (by decide) (Nms.cons k_InvalidModes (by decide) (Nms.cons k_Endless (by decide) Nms.nil)))) rfl rfl (fun a1 oe1 c1 dd1 pn1 ρ1 H1 n1 hc1 zo1 fo1 na1 nb1 nx1 => (fss_cons (fs_asg 2 (fe_lst (fa_cons (fe_tup (fa_cons fe_str (fa_cons (fe_isx u_ hc1 (by decide) zo1 fo1 na1 nx1 (fe_var 1) k_InvalidRegisters n_isinstance) fa_nil))) fa_nil)) hN)
    (fss_cons (fs_expr (fe_lm PySem.F.plainAttrs_list PySem.F.slot_list_append PySem.F.type_list_append of_append (fe_var 2) (fa_cons (fe_tup (fa_cons fe_str (fa_cons (fe_isx u_ hc1 (by decide) zo1 fo1 na1 nx1 (fe_var 1) k_InvalidModes n_isinstance) fa_nil))) fa_nil)))
    (fss_one (fs_ret (fe_tup (fa_cons (fe_ix hu1 (fe_bin of_add (fe_lcH (own := [("name", 3), ("is_one", 4)]) (hot_suite zo1 fo1) hN (fi_hot (fe_var 2)) rfl (by decide) (fun p5 s5 H5 C5 cl5 fp5 hot5 => (fg_tupH hot5 (fgs_cons (fg_nm 3 hN) (fgs_cons (fg_nm 4 hN) fgs_nil)))) (fun p5 s5 H5 C5 cl5 fp5 => (fts_one (ft_val (fe_var 4)))) (fun p5 s5 H5 C5 cl5 fp5 => (fe_var 3))) (fe_lst (fa_cons fe_str fa_nil))) fe_int) (fa_cons (fe_xf u_ hc1 (by decide) zo1 fo1 na1 nb1 (fe_var 1)) fa_nil))))))))
      (HsF.as_ (tst_nm F_ k_InvalidText (by decide)) rfl rfl (fun a1 oe1 c1 dd1 pn1 ρ1 H1 n1 hc1 zo1 fo1 na1 nb1 nx1 => (fss_one (fs_ret (fe_tup (fa_cons fe_str (fa_cons (fe_xf u_ hc1 (by decide) zo1 fo1 na1 nb1 (fe_var 1)) fa_nil))))))
      (HsF.plain (tst_nm F_ k_DivisionByZero (by decide)) (fun a1 oe1 c1 dd1 pn1 ρ1 H1 n1 hc1 zo1 fo1 na1 nb1 nx1 => (fss_one (fs_ret (fe_tup (fa_cons fe_str (fa_cons fe_non fa_nil))))))
      (HsF.as_ (tst_tup F_ (Nms.cons k_InvalidRule (by decide) (Nms.cons k_InvalidNumber (by decide) (Nms.cons k_InvalidBase (by decide) (Nms.cons k_InvalidSign (by decide) Nms.nil))))) rfl rfl (fun a1 oe1 c1 dd1 pn1 ρ1 H1 n1 hc1 zo1 fo1 na1 nb1 nx1 => (fss_cons (fs_asg 2 (fe_lst (fa_cons (fe_tup (fa_cons fe_str (fa_cons (fe_isx u_ hc1 (by decide) zo1 fo1 na1 nx1 (fe_var 1) k_InvalidRule n_isinstance) fa_nil))) (fa_cons (fe_tup (fa_cons fe_str (fa_cons (fe_isx u_ hc1 (by decide) zo1 fo1 na1 nx1 (fe_var 1) k_InvalidNumber n_isinstance) fa_nil))) fa_nil))) hN)
    (fss_cons (fs_expr (fe_lm PySem.F.plainAttrs_list PySem.F.slot_list_append PySem.F.type_list_append of_append (fe_var 2) (fa_cons (fe_tup (fa_cons fe_str (fa_cons (fe_isx u_ hc1 (by decide) zo1 fo1 na1 nx1 (fe_var 1) k_InvalidBase n_isinstance) fa_nil))) fa_nil)))
    (fss_one (fs_ret (fe_tup (fa_cons (fe_ix hu1 (fe_bin of_add (fe_lcH (own := [("name", 3), ("is_one", 4)]) (hot_suite zo1 fo1) hN (fi_hot (fe_var 2)) rfl (by decide) (fun p5 s5 H5 C5 cl5 fp5 hot5 => (fg_tupH hot5 (fgs_cons (fg_nm 3 hN) (fgs_cons (fg_nm 4 hN) fgs_nil)))) (fun p5 s5 H5 C5 cl5 fp5 => (fts_one (ft_val (fe_var 4)))) (fun p5 s5 H5 C5 cl5 fp5 => (fe_var 3))) (fe_lst (fa_cons fe_str fa_nil))) fe_int) (fa_cons (fe_xf u_ hc1 (by decide) zo1 fo1 na1 nb1 (fe_var 1)) fa_nil))))))))
      (HsF.as_ (tst_tup F_ (Nms.cons k_InvalidEnds (by decide) (Nms.cons k_InvalidResult (by decide) (Nms.cons k_InvalidFigures (by decide) (Nms.cons k_UnknownName (by decide) Nms.nil))))) rfl rfl (fun a1 oe1 c1 dd1 pn1 ρ1 H1 n1 hc1 zo1 fo1 na1 nb1 nx1 => (fss_cons (fs_asg 2 (fe_lst (fa_cons (fe_tup (fa_cons fe_str (fa_cons (fe_isx u_ hc1 (by decide) zo1 fo1 na1 nx1 (fe_var 1) k_InvalidEnds n_isinstance) fa_nil))) (fa_cons (fe_tup (fa_cons fe_str (fa_cons (fe_isx u_ hc1 (by decide) zo1 fo1 na1 nx1 (fe_var 1) k_InvalidResult n_isinstance) fa_nil))) fa_nil))) hN)
    (fss_cons (fs_expr (fe_lm PySem.F.plainAttrs_list PySem.F.slot_list_append PySem.F.type_list_append of_append (fe_var 2) (fa_cons (fe_tup (fa_cons fe_str (fa_cons (fe_isx u_ hc1 (by decide) zo1 fo1 na1 nx1 (fe_var 1) k_InvalidFigures n_isinstance) fa_nil))) fa_nil)))
    (fss_one (fs_ret (fe_tup (fa_cons (fe_ix hu1 (fe_bin of_add (fe_lcH (own := [("name", 3), ("is_one", 4)]) (hot_suite zo1 fo1) hN (fi_hot (fe_var 2)) rfl (by decide) (fun p5 s5 H5 C5 cl5 fp5 hot5 => (fg_tupH hot5 (fgs_cons (fg_nm 3 hN) (fgs_cons (fg_nm 4 hN) fgs_nil)))) (fun p5 s5 H5 C5 cl5 fp5 => (fts_one (ft_val (fe_var 4)))) (fun p5 s5 H5 C5 cl5 fp5 => (fe_var 3))) (fe_lst (fa_cons fe_str fa_nil))) fe_int) (fa_cons (fe_xf u_ hc1 (by decide) zo1 fo1 na1 nb1 (fe_var 1)) fa_nil))))))))
      (HsF.plain (tst_tup F_ (Nms.cons k_InvalidName (by decide) (Nms.cons k_InvalidProgram (by decide) (Nms.cons k_InvalidState (by decide) (Nms.cons k_LimitExceeded (by decide) Nms.nil))))) (fun a1 oe1 c1 dd1 pn1 ρ1 H1 n1 hc1 zo1 fo1 na1 nb1 nx1 => (fss_one (fs_ret (fe_tup (fa_cons fe_str (fa_cons fe_non fa_nil))))))
      HsF.nil)))))))))
abbrev st_is_greater : Stmt := top 30
theorem sc_is_greater : FnScope ["rule", "sign", "divisor_sign", "part", "size"] ["rule", "sign", "divisor_sign", "part", "size"] (defScope st_is_greater) := ⟨rfl, rfl, rfl, by decide +kernel, rfl, by decide +kernel, by decide +kernel⟩
theorem w_is_greater (F : FnP K "is_greater" st_is_greater f fd) : FnF P w K mg base 1 f fd ["rule", "sign", "divisor_sign", "part", "size"] g_is_greater := by
  refine fnF_of (N := ["rule", "sign", "divisor_sign", "part", "size"]) (k := 0) (ev := e_is_greater) F sc_is_greater fun cdv A outer s H E ρ hr hgd hcd => ?_
  have hu := hr.units
  have hu1 : _ + 1 < cLine := Nat.lt_of_le_of_lt (Nat.add_le_add_left (by decide) _) hu
  have hgd : (A.deeper (envOfC "is_greater" (defScope st_is_greater) s.heap.objs.size f cdv)).guards = some [] := hgd
  have hcalm : (cxD P w K mg base ["rule", "sign", "divisor_sign", "part", "size"] "is_greater" (defScope st_is_greater) f cdv A outer s H E).calm = true := rfl
  have hN : (cxD P w K mg base ["rule", "sign", "divisor_sign", "part", "size"] "is_greater" (defScope st_is_greater) f cdv A outer s H E).N.Nodup := sc_is_greater.nd
  have tk := L2N.takes_of (X := cxD P w K mg base ["rule", "sign", "divisor_sign", "part", "size"] "is_greater" (defScope st_is_greater) f cdv A outer s H E) (E := E) rfl rfl rfl rfl
  have po := passes_of (X := cxD P w K mg base ["rule", "sign", "divisor_sign", "part", "size"] "is_greater" (defScope st_is_greater) f cdv A outer s H E) rfl
  exact (fss_one (fs_match (fe_var 0) (fm_val hu fe_str (fss_one (fs_ret (fe_cmp of_lt (fe_bin of_mul (fe_var 1) (fe_var 2)) fe_int))) (fm_val hu fe_str (fss_one (fs_ret (fe_cmp of_gt (fe_bin of_mul (fe_var 1) (fe_var 2)) fe_int))) (fm_val hu fe_str (fss_one (fs_ret (fe_cmp of_lt (fe_var 1) fe_int))) (fm_val hu fe_str (fss_one (fs_ret (fe_or (fe_cmp of_gt (fe_bin of_mul fe_int (fe_var 3)) (fe_var 4)) (fe_one (fe_and (fe_cmp (of_eq hu) (fe_bin of_mul fe_int (fe_var 3)) (fe_var 4)) (fe_one (fe_cmp of_lt (fe_var 1) fe_int))))))) (fm_wild (fss_one (fs_ret fe_bl)))))))))
abbrev st_sign_of : Stmt := top 24
theorem sc_sign_of : FnScope ["number"] ["number"] (defScope st_sign_of) := ⟨rfl, rfl, rfl, by decide +kernel, rfl, by decide +kernel, by decide +kernel⟩
theorem w_sign_of (F : FnP K "sign_of" st_sign_of f fd) (n_int : mg "int" = none) : FnF P w K mg base 1 f fd ["number"] g_sign_of := by
  refine fnF_of (N := ["number"]) (k := 0) (ev := e_sign_of) F sc_sign_of fun cdv A outer s H E ρ hr hgd hcd => ?_
  have hu := hr.units
  have hu1 : _ + 1 < cLine := Nat.lt_of_le_of_lt (Nat.add_le_add_left (by decide) _) hu
  have hgd : (A.deeper (envOfC "sign_of" (defScope st_sign_of) s.heap.objs.size f cdv)).guards = some [] := hgd
  have hcalm : (cxD P w K mg base ["number"] "sign_of" (defScope st_sign_of) f cdv A outer s H E).calm = true := rfl
  have hN : (cxD P w K mg base ["number"] "sign_of" (defScope st_sign_of) f cdv A outer s H E).N.Nodup := sc_sign_of.nd
  have tk := L2N.takes_of (X := cxD P w K mg base ["number"] "sign_of" (defScope st_sign_of) f cdv A outer s H E) (E := E) rfl rfl rfl rfl
  have po := passes_of (X := cxD P w K mg base ["number"] "sign_of" (defScope st_sign_of) f cdv A outer s H E) rfl
  exact (fss_one (fs_ret (fe_bin of_sub (fe_callTy of_int n_int rfl (fa_cons (fe_cmp of_gt (fe_var 0) fe_int) fa_nil)) (fe_callTy of_int n_int rfl (fa_cons (fe_cmp of_lt (fe_var 0) fe_int) fa_nil)))))
abbrev st_carried : Stmt := top 33
theorem sc_carried : FnScope ["rule", "sign", "base", "figure", "size"] ["rule", "sign", "base", "figure"] (defScope st_carried) := ⟨rfl, rfl, rfl, by decide +kernel, rfl, by decide +kernel, by decide +kernel⟩
theorem w_carried (F : FnP K "carried" st_carried f fd) (d_is_greater : Kn P w K mg base 1 "is_greater" ["rule", "sign", "divisor_sign", "part", "size"] g_is_greater) (d_sign_of : Kn P w K mg base 1 "sign_of" ["number"] g_sign_of) (n_abs : mg "abs" = none) : FnF P w K mg base 2 f fd ["rule", "sign", "base", "figure"] g_carried := by
  refine fnF_of (N := ["rule", "sign", "base", "figure", "size"]) (k := 1) (ev := e_carried) F sc_carried fun cdv A outer s H E ρ hr hgd hcd => ?_
  have hu := hr.units
  have hu1 : _ + 1 < cLine := Nat.lt_of_le_of_lt (Nat.add_le_add_left (by decide) _) hu
  have hgd : (A.deeper (envOfC "carried" (defScope st_carried) s.heap.objs.size f cdv)).guards = some [] := hgd
  have hcalm : (cxD P w K mg base ["rule", "sign", "base", "figure", "size"] "carried" (defScope st_carried) f cdv A outer s H E).calm = true := rfl
  have hN : (cxD P w K mg base ["rule", "sign", "base", "figure", "size"] "carried" (defScope st_carried) f cdv A outer s H E).N.Nodup := sc_carried.nd
  have tk := L2N.takes_of (X := cxD P w K mg base ["rule", "sign", "base", "figure", "size"] "carried" (defScope st_carried) f cdv A outer s H E) (E := E) rfl rfl rfl rfl
  have po := passes_of (X := cxD P w K mg base ["rule", "sign", "base", "figure", "size"] "carried" (defScope st_carried) f cdv A outer s H E) rfl
  exact (fss_cons (fs_asg 4 (fe_callB of_abs n_abs rfl (fa_cons (fe_var 2) fa_nil)) hN)
    (fss_cons (fs_if (ft_cmp (of_eq hu) (fe_var 3) (fe_var 4)) (fss_one (fs_ret (fe_tup (fa_cons fe_int (fa_cons fe_int fa_nil))))) fss_nil)
    (fss_cons (fs_if (ft_w (fw_and (ft_cmp of_gt (fe_var 3) fe_int) (fw_and1 (ft_val (fe_cl d_is_greater (hr.mono (by decide)) hgd tk (fa_cons (fe_var 0) (fa_cons (fe_var 1) (fa_cons (fe_cl d_sign_of (hr.mono (by decide)) hgd tk (fa_cons (fe_var 2) fa_nil)) (fa_cons (fe_var 3) (fa_cons (fe_var 4) fa_nil)))))))))) (fss_one (fs_ret (fe_tup (fa_cons fe_int (fa_cons (fe_bin of_mul (fe_var 1) (fe_bin of_sub (fe_var 3) (fe_var 4))) fa_nil))))) fss_nil)
    (fss_one (fs_ret (fe_tup (fa_cons fe_int (fa_cons (fe_bin of_mul (fe_var 1) (fe_var 3)) fa_nil))))))))
abbrev st_is_integer : Stmt := top 20
theorem sc_is_integer : FnScope ["value"] ["value"] (defScope st_is_integer) := ⟨rfl, rfl, rfl, by decide +kernel, rfl, by decide +kernel, by decide +kernel⟩
theorem w_is_integer (F : FnP K "is_integer" st_is_integer f fd) (n_bool : mg "bool" = none) (n_int : mg "int" = none) (n_isinstance : mg "isinstance" = none) : FnF P w K mg base 1 f fd ["value"] g_is_integer := by
  refine fnF_of (N := ["value"]) (k := 0) (ev := e_is_integer) F sc_is_integer fun cdv A outer s H E ρ hr hgd hcd => ?_
  have hu := hr.units
  have hu1 : _ + 1 < cLine := Nat.lt_of_le_of_lt (Nat.add_le_add_left (by decide) _) hu
  have hgd : (A.deeper (envOfC "is_integer" (defScope st_is_integer) s.heap.objs.size f cdv)).guards = some [] := hgd
  have hcalm : (cxD P w K mg base ["value"] "is_integer" (defScope st_is_integer) f cdv A outer s H E).calm = true := rfl
  have hN : (cxD P w K mg base ["value"] "is_integer" (defScope st_is_integer) f cdv A outer s H E).N.Nodup := sc_is_integer.nd
  have tk := L2N.takes_of (X := cxD P w K mg base ["value"] "is_integer" (defScope st_is_integer) f cdv A outer s H E) (E := E) rfl rfl rfl rfl
  have po := passes_of (X := cxD P w K mg base ["value"] "is_integer" (defScope st_is_integer) f cdv A outer s H E) rfl
  exact (fss_one (fs_ret (fe_and (fe_callB of_isi n_isinstance rfl (fa_cons (fe_var 0) (fa_cons (fe_ty (T := "int") n_int rfl) fa_nil))) (fe_one (fe_not (fe_callB of_isi n_isinstance rfl (fa_cons (fe_var 0) (fa_cons (fe_ty (T := "bool") n_bool rfl) fa_nil))))))))
abbrev st_is_base : Stmt := top 22
theorem sc_is_base : FnScope ["value"] ["value"] (defScope st_is_base) := ⟨rfl, rfl, rfl, by decide +kernel, rfl, by decide +kernel, by decide +kernel⟩
theorem w_is_base (F : FnP K "is_base" st_is_base f fd) (d_is_integer : Kn P w K mg base 1 "is_integer" ["value"] g_is_integer) (n_abs : mg "abs" = none) : FnF P w K mg base 2 f fd ["value"] g_is_base := by
  refine fnF_of (N := ["value"]) (k := 1) (ev := e_is_base) F sc_is_base fun cdv A outer s H E ρ hr hgd hcd => ?_
  have hu := hr.units
  have hu1 : _ + 1 < cLine := Nat.lt_of_le_of_lt (Nat.add_le_add_left (by decide) _) hu
  have hgd : (A.deeper (envOfC "is_base" (defScope st_is_base) s.heap.objs.size f cdv)).guards = some [] := hgd
  have hcalm : (cxD P w K mg base ["value"] "is_base" (defScope st_is_base) f cdv A outer s H E).calm = true := rfl
  have hN : (cxD P w K mg base ["value"] "is_base" (defScope st_is_base) f cdv A outer s H E).N.Nodup := sc_is_base.nd
  have tk := L2N.takes_of (X := cxD P w K mg base ["value"] "is_base" (defScope st_is_base) f cdv A outer s H E) (E := E) rfl rfl rfl rfl
  have po := passes_of (X := cxD P w K mg base ["value"] "is_base" (defScope st_is_base) f cdv A outer s H E) rfl
  exact (fss_one (fs_ret (fe_and (fe_cl d_is_integer (hr.mono (by decide)) hgd tk (fa_cons (fe_var 0) fa_nil)) (fe_one (fe_chain of_le of_le fe_int (fe_callB of_abs n_abs rfl (fa_cons (fe_var 0) fa_nil)) fe_int)))))
abbrev st_is_between : Stmt := top 21
theorem sc_is_between : FnScope ["value", "least", "greatest"] ["value", "least", "greatest"] (defScope st_is_between) := ⟨rfl, rfl, rfl, by decide +kernel, rfl, by decide +kernel, by decide +kernel⟩
theorem w_is_between (F : FnP K "is_between" st_is_between f fd) (d_is_integer : Kn P w K mg base 1 "is_integer" ["value"] g_is_integer) : FnF P w K mg base 2 f fd ["value", "least", "greatest"] g_is_between := by
  refine fnF_of (N := ["value", "least", "greatest"]) (k := 1) (ev := e_is_between) F sc_is_between fun cdv A outer s H E ρ hr hgd hcd => ?_
  have hu := hr.units
  have hu1 : _ + 1 < cLine := Nat.lt_of_le_of_lt (Nat.add_le_add_left (by decide) _) hu
  have hgd : (A.deeper (envOfC "is_between" (defScope st_is_between) s.heap.objs.size f cdv)).guards = some [] := hgd
  have hcalm : (cxD P w K mg base ["value", "least", "greatest"] "is_between" (defScope st_is_between) f cdv A outer s H E).calm = true := rfl
  have hN : (cxD P w K mg base ["value", "least", "greatest"] "is_between" (defScope st_is_between) f cdv A outer s H E).N.Nodup := sc_is_between.nd
  have tk := L2N.takes_of (X := cxD P w K mg base ["value", "least", "greatest"] "is_between" (defScope st_is_between) f cdv A outer s H E) (E := E) rfl rfl rfl rfl
  have po := passes_of (X := cxD P w K mg base ["value", "least", "greatest"] "is_between" (defScope st_is_between) f cdv A outer s H E) rfl
  exact (fss_one (fs_ret (fe_and (fe_cl d_is_integer (hr.mono (by decide)) hgd tk (fa_cons (fe_var 0) fa_nil)) (fe_one (fe_chain of_le of_le (fe_var 1) (fe_var 0) (fe_var 2))))))
abbrev st_is_sign : Stmt := top 23
theorem sc_is_sign : FnScope ["value"] ["value"] (defScope st_is_sign) := ⟨rfl, rfl, rfl, by decide +kernel, rfl, by decide +kernel, by decide +kernel⟩
theorem w_is_sign (F : FnP K "is_sign" st_is_sign f fd) (d_is_integer : Kn P w K mg base 1 "is_integer" ["value"] g_is_integer) : FnF P w K mg base 2 f fd ["value"] g_is_sign := by
  refine fnF_of (N := ["value"]) (k := 1) (ev := e_is_sign) F sc_is_sign fun cdv A outer s H E ρ hr hgd hcd => ?_
  have hu := hr.units
  have hu1 : _ + 1 < cLine := Nat.lt_of_le_of_lt (Nat.add_le_add_left (by decide) _) hu
  have hgd : (A.deeper (envOfC "is_sign" (defScope st_is_sign) s.heap.objs.size f cdv)).guards = some [] := hgd
  have hcalm : (cxD P w K mg base ["value"] "is_sign" (defScope st_is_sign) f cdv A outer s H E).calm = true := rfl
  have hN : (cxD P w K mg base ["value"] "is_sign" (defScope st_is_sign) f cdv A outer s H E).N.Nodup := sc_is_sign.nd
  have tk := L2N.takes_of (X := cxD P w K mg base ["value"] "is_sign" (defScope st_is_sign) f cdv A outer s H E) (E := E) rfl rfl rfl rfl
  have po := passes_of (X := cxD P w K mg base ["value"] "is_sign" (defScope st_is_sign) f cdv A outer s H E) rfl
  exact (fss_one (fs_ret (fe_and (fe_cl d_is_integer (hr.mono (by decide)) hgd tk (fa_cons (fe_var 0) fa_nil)) (fe_one (fe_cmp (of_in hu) (fe_var 0) (fe_tup (fa_cons (fe_neg fe_int) (fa_cons fe_int fa_nil))))))))
abbrev st_is_rule : Stmt := top 28
theorem sc_is_rule : FnScope ["value"] ["value"] (defScope st_is_rule) := ⟨rfl, rfl, rfl, by decide +kernel, rfl, by decide +kernel, by decide +kernel⟩
theorem w_is_rule (F : FnP K "is_rule" st_is_rule f fd) (n_isinstance : mg "isinstance" = none) (n_str : mg "str" = none) (q_RULES : KnV K mg "RULES" v_RULES) : FnF P w K mg base 1 f fd ["value"] g_is_rule := by
  refine fnF_of (N := ["value"]) (k := 0) (ev := e_is_rule) F sc_is_rule fun cdv A outer s H E ρ hr hgd hcd => ?_
  have hu := hr.units
  have hu1 : _ + 1 < cLine := Nat.lt_of_le_of_lt (Nat.add_le_add_left (by decide) _) hu
  have hgd : (A.deeper (envOfC "is_rule" (defScope st_is_rule) s.heap.objs.size f cdv)).guards = some [] := hgd
  have hcalm : (cxD P w K mg base ["value"] "is_rule" (defScope st_is_rule) f cdv A outer s H E).calm = true := rfl
  have hN : (cxD P w K mg base ["value"] "is_rule" (defScope st_is_rule) f cdv A outer s H E).N.Nodup := sc_is_rule.nd
  have tk := L2N.takes_of (X := cxD P w K mg base ["value"] "is_rule" (defScope st_is_rule) f cdv A outer s H E) (E := E) rfl rfl rfl rfl
  have po := passes_of (X := cxD P w K mg base ["value"] "is_rule" (defScope st_is_rule) f cdv A outer s H E) rfl
  exact (fss_one (fs_ret (fe_and (fe_callB of_isi n_isinstance rfl (fa_cons (fe_var 0) (fa_cons (fe_ty (T := "str") n_str rfl) fa_nil))) (fe_one (fe_cmp (of_in hu) (fe_var 0) (fe_glv q_RULES))))))
abbrev st_require_rule : Stmt := top 29
theorem sc_require_rule : FnScope ["value"] ["value"] (defScope st_require_rule) := ⟨rfl, rfl, rfl, by decide +kernel, rfl, by decide +kernel, by decide +kernel⟩
theorem w_require_rule (F : FnP K "require_rule" st_require_rule f fd) (d_is_rule : Kn P w K mg base 1 "is_rule" ["value"] g_is_rule) (x_InvalidRule : XCl P w K mg base 1 "InvalidRule" 0 ["value"]) : FnF P w K mg base 3 f fd ["value"] g_require_rule := by
  refine fnF_of (N := ["value"]) (k := 2) (ev := e_require_rule) F sc_require_rule fun cdv A outer s H E ρ hr hgd hcd => ?_
  have hu := hr.units
  have hu1 : _ + 1 < cLine := Nat.lt_of_le_of_lt (Nat.add_le_add_left (by decide) _) hu
  have hgd : (A.deeper (envOfC "require_rule" (defScope st_require_rule) s.heap.objs.size f cdv)).guards = some [] := hgd
  have hcalm : (cxD P w K mg base ["value"] "require_rule" (defScope st_require_rule) f cdv A outer s H E).calm = true := rfl
  have hN : (cxD P w K mg base ["value"] "require_rule" (defScope st_require_rule) f cdv A outer s H E).N.Nodup := sc_require_rule.nd
  have tk := L2N.takes_of (X := cxD P w K mg base ["value"] "require_rule" (defScope st_require_rule) f cdv A outer s H E) (E := E) rfl rfl rfl rfl
  have po := passes_of (X := cxD P w K mg base ["value"] "require_rule" (defScope st_require_rule) f cdv A outer s H E) rfl
  exact (fss_one (fs_if (ft_not (ft_val (fe_cl d_is_rule (hr.mono (by decide)) hgd tk (fa_cons (fe_var 0) fa_nil)))) (fss_one (fs_raise x_InvalidRule hcalm (hr.mono (by decide)) tk (fa_cons (fe_var 0) fa_nil))) fss_nil))
abbrev st_carry : Stmt := top 34
theorem sc_carry : FnScope ["rule", "sign", "base", "figure"] ["rule", "sign", "base", "figure"] (defScope st_carry) := ⟨rfl, rfl, rfl, by decide +kernel, rfl, by decide +kernel, by decide +kernel⟩
theorem w_carry (F : FnP K "carry" st_carry f fd) (d_carried : Kn P w K mg base 2 "carried" ["rule", "sign", "base", "figure"] g_carried) (d_is_base : Kn P w K mg base 2 "is_base" ["value"] g_is_base) (d_is_between : Kn P w K mg base 2 "is_between" ["value", "least", "greatest"] g_is_between) (d_is_sign : Kn P w K mg base 2 "is_sign" ["value"] g_is_sign) (d_require_rule : Kn P w K mg base 3 "require_rule" ["value"] g_require_rule) (n_abs : mg "abs" = none) (x_InvalidBase : XCl P w K mg base 1 "InvalidBase" 2 ["value"]) (x_InvalidNumber : XCl P w K mg base 1 "InvalidNumber" 1 ["value"]) (x_InvalidSign : XCl P w K mg base 1 "InvalidSign" 18 ["value"]) : FnF P w K mg base 4 f fd ["rule", "sign", "base", "figure"] g_carry := by
  refine fnF_of (N := ["rule", "sign", "base", "figure"]) (k := 3) (ev := e_carry) F sc_carry fun cdv A outer s H E ρ hr hgd hcd => ?_
  have hu := hr.units
  have hu1 : _ + 1 < cLine := Nat.lt_of_le_of_lt (Nat.add_le_add_left (by decide) _) hu
  have hgd : (A.deeper (envOfC "carry" (defScope st_carry) s.heap.objs.size f cdv)).guards = some [] := hgd
  have hcalm : (cxD P w K mg base ["rule", "sign", "base", "figure"] "carry" (defScope st_carry) f cdv A outer s H E).calm = true := rfl
  have hN : (cxD P w K mg base ["rule", "sign", "base", "figure"] "carry" (defScope st_carry) f cdv A outer s H E).N.Nodup := sc_carry.nd
  have tk := L2N.takes_of (X := cxD P w K mg base ["rule", "sign", "base", "figure"] "carry" (defScope st_carry) f cdv A outer s H E) (E := E) rfl rfl rfl rfl
  have po := passes_of (X := cxD P w K mg base ["rule", "sign", "base", "figure"] "carry" (defScope st_carry) f cdv A outer s H E) rfl
  exact (fss_cons (fs_expr (fe_cl d_require_rule (hr.mono (by decide)) hgd tk (fa_cons (fe_var 0) fa_nil)))
    (fss_cons (fs_if (ft_not (ft_val (fe_cl d_is_sign (hr.mono (by decide)) hgd tk (fa_cons (fe_var 1) fa_nil)))) (fss_one (fs_raise x_InvalidSign hcalm (hr.mono (by decide)) tk (fa_cons (fe_var 1) fa_nil))) fss_nil)
    (fss_cons (fs_if (ft_not (ft_val (fe_cl d_is_base (hr.mono (by decide)) hgd tk (fa_cons (fe_var 2) fa_nil)))) (fss_one (fs_raise x_InvalidBase hcalm (hr.mono (by decide)) tk (fa_cons (fe_var 2) fa_nil))) fss_nil)
    (fss_cons (fs_if (ft_not (ft_val (fe_cl d_is_between (hr.mono (by decide)) hgd tk (fa_cons (fe_var 3) (fa_cons fe_int (fa_cons (fe_callB of_abs n_abs rfl (fa_cons (fe_var 2) fa_nil)) fa_nil)))))) (fss_one (fs_raise x_InvalidNumber hcalm (hr.mono (by decide)) tk (fa_cons (fe_var 3) fa_nil))) fss_nil)
    (fss_one (fs_ret (fe_cl d_carried (hr.mono (by decide)) hgd tk (fa_cons (fe_var 0) (fa_cons (fe_var 1) (fa_cons (fe_var 2) (fa_cons (fe_var 3) fa_nil)))))))))))
abbrev st__law_carried : Stmt := top 52
theorem sc__law_carried : FnScope ["rule", "sign", "base", "figure"] ["rule", "sign", "base", "figure"] (defScope st__law_carried) := ⟨rfl, rfl, rfl, by decide +kernel, rfl, by decide +kernel, by decide +kernel⟩
theorem w__law_carried (F : FnP K "_law_carried" st__law_carried f fd) (d__law_kh_heard : KnH P w K mg base (5 + 1) 5 "_law_kh_heard" ["call"] g__law_kh_heard) (d_carry : Kn P w K mg base 4 "carry" ["rule", "sign", "base", "figure"] g_carry) {c0 P0 : Addr} (hcode0 : fd.code = .ref c0) (hTB : LamX.TabB base mg c0 P0) (hT : (P0, lamQ (("_law_carried" : Str) ++ ".<locals>.")) ∈ LamT.T K) (hTu : ∀ q ∈ LamT.T K, q.1 = P0 → q.2 = lamQ (("_law_carried" : Str) ++ ".<locals>.")) : FnF P w K mg base 7 f fd ["rule", "sign", "base", "figure"] g__law_carried := by
  refine fnF_of (N := ["rule", "sign", "base", "figure"]) (k := 6) (ev := e__law_carried) F sc__law_carried fun cdv A outer s H E ρ hr hgd hcd => ?_
  have hu := hr.units
  have hu1 : _ + 1 < cLine := Nat.lt_of_le_of_lt (Nat.add_le_add_left (by decide) _) hu
  have hgd : (A.deeper (envOfC "_law_carried" (defScope st__law_carried) s.heap.objs.size f cdv)).guards = some [] := hgd
  have hcalm : (cxD P w K mg base ["rule", "sign", "base", "figure"] "_law_carried" (defScope st__law_carried) f cdv A outer s H E).calm = true := rfl
  have hN : (cxD P w K mg base ["rule", "sign", "base", "figure"] "_law_carried" (defScope st__law_carried) f cdv A outer s H E).N.Nodup := sc__law_carried.nd
  have tk := L2N.takes_of (X := cxD P w K mg base ["rule", "sign", "base", "figure"] "_law_carried" (defScope st__law_carried) f cdv A outer s H E) (E := E) rfl rfl rfl rfl
  have po := passes_of (X := cxD P w K mg base ["rule", "sign", "base", "figure"] "_law_carried" (defScope st__law_carried) f cdv A outer s H E) rfl
  have hcode : (cxD P w K mg base ["rule", "sign", "base", "figure"] "_law_carried" (defScope st__law_carried) f cdv A outer s H E).env.code = .ref c0 := hcd.symm.trans hcode0
  exact (fss_one (fs_ret (fe_lm_ d__law_kh_heard (hr.mono (by decide)) hgd tk hTB hcode hT hTu (by kernel_rfl) (fun f2 c2 A2 o2 s2 H2 E2 ρ2 hrL hgdL => (fe_cl d_carry (hrL.mono (by decide)) hgdL lam_takes (fa_cons (fe_var 0) (fa_cons (fe_var 1) (fa_cons (fe_var 2) (fa_cons (fe_var 3) fa_nil)))))) fa_nil)))
abbrev st__law_kd_divide : Stmt := top 40
theorem sc__law_kd_divide : FnScope ["rule", "x", "base", "size", "quotient", "left"] ["rule", "x", "base"] (defScope st__law_kd_divide) := ⟨rfl, rfl, rfl, by decide +kernel, rfl, by decide +kernel, by decide +kernel⟩
theorem w__law_kd_divide (F : FnP K "_law_kd_divide" st__law_kd_divide f fd) (n_abs : mg "abs" = none) : FnF P w K mg base 1 f fd ["rule", "x", "base"] g__law_kd_divide := by
  refine fnF_of (N := ["rule", "x", "base", "size", "quotient", "left"]) (k := 0) (ev := e__law_kd_divide) F sc__law_kd_divide fun cdv A outer s H E ρ hr hgd hcd => ?_
  have hu := hr.units
  have hu1 : _ + 1 < cLine := Nat.lt_of_le_of_lt (Nat.add_le_add_left (by decide) _) hu
  have hgd : (A.deeper (envOfC "_law_kd_divide" (defScope st__law_kd_divide) s.heap.objs.size f cdv)).guards = some [] := hgd
  have hcalm : (cxD P w K mg base ["rule", "x", "base", "size", "quotient", "left"] "_law_kd_divide" (defScope st__law_kd_divide) f cdv A outer s H E).calm = true := rfl
  have hN : (cxD P w K mg base ["rule", "x", "base", "size", "quotient", "left"] "_law_kd_divide" (defScope st__law_kd_divide) f cdv A outer s H E).N.Nodup := sc__law_kd_divide.nd
  have tk := L2N.takes_of (X := cxD P w K mg base ["rule", "x", "base", "size", "quotient", "left"] "_law_kd_divide" (defScope st__law_kd_divide) f cdv A outer s H E) (E := E) rfl rfl rfl rfl
  have po := passes_of (X := cxD P w K mg base ["rule", "x", "base", "size", "quotient", "left"] "_law_kd_divide" (defScope st__law_kd_divide) f cdv A outer s H E) rfl
  exact (fss_cons (fs_asg 3 (fe_callB of_abs n_abs rfl (fa_cons (fe_var 2) fa_nil)) hN)
    (fss_cons (fs_if (ft_cmp (of_eq hu) (fe_var 0) fe_str) (fss_one (fs_asg 0 (fe_ifExp (ft_cmp (of_eq hu) (fe_cmp of_ge (fe_var 1) fe_int) (fe_cmp of_gt (fe_var 2) fe_int)) fe_str fe_str) hN)) fss_nil)
    (fss_cons (fs_if (ft_cmp (of_eq hu) (fe_var 0) fe_str) (fss_one (fs_asg 4 (fe_bin of_div (fe_var 1) (fe_var 2)) hN)) (fss_one (fs_if (ft_cmp (of_eq hu) (fe_var 0) fe_str) (fss_one (fs_asg 4 (fe_neg (fe_bin of_div (fe_neg (fe_var 1)) (fe_var 2))) hN)) (fss_cons (fs_asg 5 (fe_bin of_mod (fe_var 1) (fe_var 3)) hN)
    (fss_cons (fs_asg 5 (fe_ifExp (ft_w (fw_and (ft_cmp (of_eq hu) (fe_var 0) fe_str) (fw_and1 (ft_cmp of_gt (fe_bin of_mul fe_int (fe_var 5)) (fe_var 3))))) (fe_bin of_sub (fe_var 5) (fe_var 3)) (fe_var 5)) hN)
    (fss_one (fs_asg 4 (fe_bin of_div (fe_bin of_sub (fe_var 1) (fe_var 5)) (fe_var 2)) hN)))))))
    (fss_one (fs_ret (fe_tup (fa_cons (fe_var 4) (fa_cons (fe_bin of_sub (fe_var 1) (fe_bin of_mul (fe_var 4) (fe_var 2))) fa_nil))))))))
abbrev st__law_kd_carry : Stmt := top 41
theorem sc__law_kd_carry : FnScope ["rule", "sign", "base", "figure", "quotient", "left"] ["rule", "sign", "base", "figure"] (defScope st__law_kd_carry) := ⟨rfl, rfl, rfl, by decide +kernel, rfl, by decide +kernel, by decide +kernel⟩
theorem w__law_kd_carry (F : FnP K "_law_kd_carry" st__law_kd_carry f fd) (d__law_kd_divide : Kn P w K mg base 1 "_law_kd_divide" ["rule", "x", "base"] g__law_kd_divide) (n_abs : mg "abs" = none) : FnF P w K mg base 2 f fd ["rule", "sign", "base", "figure"] g__law_kd_carry := by
  refine fnF_of (N := ["rule", "sign", "base", "figure", "quotient", "left"]) (k := 1) (ev := e__law_kd_carry) F sc__law_kd_carry fun cdv A outer s H E ρ hr hgd hcd => ?_
  have hu := hr.units
  have hu1 : _ + 1 < cLine := Nat.lt_of_le_of_lt (Nat.add_le_add_left (by decide) _) hu
  have hgd : (A.deeper (envOfC "_law_kd_carry" (defScope st__law_kd_carry) s.heap.objs.size f cdv)).guards = some [] := hgd
  have hcalm : (cxD P w K mg base ["rule", "sign", "base", "figure", "quotient", "left"] "_law_kd_carry" (defScope st__law_kd_carry) f cdv A outer s H E).calm = true := rfl
  have hN : (cxD P w K mg base ["rule", "sign", "base", "figure", "quotient", "left"] "_law_kd_carry" (defScope st__law_kd_carry) f cdv A outer s H E).N.Nodup := sc__law_kd_carry.nd
  have tk := L2N.takes_of (X := cxD P w K mg base ["rule", "sign", "base", "figure", "quotient", "left"] "_law_kd_carry" (defScope st__law_kd_carry) f cdv A outer s H E) (E := E) rfl rfl rfl rfl
  have po := passes_of (X := cxD P w K mg base ["rule", "sign", "base", "figure", "quotient", "left"] "_law_kd_carry" (defScope st__law_kd_carry) f cdv A outer s H E) rfl
  exact (fss_cons (fs_asgT (fe_cl d__law_kd_divide (hr.mono (by decide)) hgd tk (fa_cons (fe_var 0) (fa_cons (fe_bin of_mul (fe_var 1) (fe_bin of_add (fe_bin of_mul fe_int (fe_callB of_abs n_abs rfl (fa_cons (fe_var 2) fa_nil))) (fe_var 3))) (fa_cons (fe_var 2) fa_nil)))) (fg_tup hcalm (fgs_cons (fg_nm 4 hN) (fgs_cons (fg_nm 5 hN) fgs_nil))))
    (fss_one (fs_ret (fe_tup (fa_cons (fe_bin of_sub (fe_bin of_mul (fe_ifExp (ft_cmp of_gt (fe_var 2) fe_int) (fe_var 4) (fe_neg (fe_var 4))) (fe_var 1)) fe_int) (fa_cons (fe_var 5) fa_nil))))))
abbrev st__law_kd_is_whole : Stmt := top 42
theorem sc__law_kd_is_whole : FnScope ["thing"] ["thing"] (defScope st__law_kd_is_whole) := ⟨rfl, rfl, rfl, by decide +kernel, rfl, by decide +kernel, by decide +kernel⟩
theorem w__law_kd_is_whole (F : FnP K "_law_kd_is_whole" st__law_kd_is_whole f fd) (n_bool : mg "bool" = none) (n_int : mg "int" = none) (n_isinstance : mg "isinstance" = none) : FnF P w K mg base 1 f fd ["thing"] g__law_kd_is_whole := by
  refine fnF_of (N := ["thing"]) (k := 0) (ev := e__law_kd_is_whole) F sc__law_kd_is_whole fun cdv A outer s H E ρ hr hgd hcd => ?_
  have hu := hr.units
  have hu1 : _ + 1 < cLine := Nat.lt_of_le_of_lt (Nat.add_le_add_left (by decide) _) hu
  have hgd : (A.deeper (envOfC "_law_kd_is_whole" (defScope st__law_kd_is_whole) s.heap.objs.size f cdv)).guards = some [] := hgd
  have hcalm : (cxD P w K mg base ["thing"] "_law_kd_is_whole" (defScope st__law_kd_is_whole) f cdv A outer s H E).calm = true := rfl
  have hN : (cxD P w K mg base ["thing"] "_law_kd_is_whole" (defScope st__law_kd_is_whole) f cdv A outer s H E).N.Nodup := sc__law_kd_is_whole.nd
  have tk := L2N.takes_of (X := cxD P w K mg base ["thing"] "_law_kd_is_whole" (defScope st__law_kd_is_whole) f cdv A outer s H E) (E := E) rfl rfl rfl rfl
  have po := passes_of (X := cxD P w K mg base ["thing"] "_law_kd_is_whole" (defScope st__law_kd_is_whole) f cdv A outer s H E) rfl
  exact (fss_one (fs_ret (fe_and (fe_callB of_isi n_isinstance rfl (fa_cons (fe_var 0) (fa_cons (fe_ty (T := "int") n_int rfl) fa_nil))) (fe_one (fe_not (fe_callB of_isi n_isinstance rfl (fa_cons (fe_var 0) (fa_cons (fe_ty (T := "bool") n_bool rfl) fa_nil))))))))
abbrev st__law_kd_is_base : Stmt := top 44
theorem sc__law_kd_is_base : FnScope ["thing"] ["thing"] (defScope st__law_kd_is_base) := ⟨rfl, rfl, rfl, by decide +kernel, rfl, by decide +kernel, by decide +kernel⟩
theorem w__law_kd_is_base (F : FnP K "_law_kd_is_base" st__law_kd_is_base f fd) (d__law_kd_is_whole : Kn P w K mg base 1 "_law_kd_is_whole" ["thing"] g__law_kd_is_whole) (n_abs : mg "abs" = none) : FnF P w K mg base 2 f fd ["thing"] g__law_kd_is_base := by
  refine fnF_of (N := ["thing"]) (k := 1) (ev := e__law_kd_is_base) F sc__law_kd_is_base fun cdv A outer s H E ρ hr hgd hcd => ?_
  have hu := hr.units
  have hu1 : _ + 1 < cLine := Nat.lt_of_le_of_lt (Nat.add_le_add_left (by decide) _) hu
  have hgd : (A.deeper (envOfC "_law_kd_is_base" (defScope st__law_kd_is_base) s.heap.objs.size f cdv)).guards = some [] := hgd
  have hcalm : (cxD P w K mg base ["thing"] "_law_kd_is_base" (defScope st__law_kd_is_base) f cdv A outer s H E).calm = true := rfl
  have hN : (cxD P w K mg base ["thing"] "_law_kd_is_base" (defScope st__law_kd_is_base) f cdv A outer s H E).N.Nodup := sc__law_kd_is_base.nd
  have tk := L2N.takes_of (X := cxD P w K mg base ["thing"] "_law_kd_is_base" (defScope st__law_kd_is_base) f cdv A outer s H E) (E := E) rfl rfl rfl rfl
  have po := passes_of (X := cxD P w K mg base ["thing"] "_law_kd_is_base" (defScope st__law_kd_is_base) f cdv A outer s H E) rfl
  exact (fss_one (fs_ret (fe_and (fe_cl d__law_kd_is_whole (hr.mono (by decide)) hgd tk (fa_cons (fe_var 0) fa_nil)) (fe_one (fe_chain of_le of_le fe_int (fe_callB of_abs n_abs rfl (fa_cons (fe_var 0) fa_nil)) fe_int)))))
abbrev st__law_kd_rules : Stmt := top 39
theorem sc__law_kd_rules : FnScope [] [] (defScope st__law_kd_rules) := ⟨rfl, rfl, rfl, by decide +kernel, rfl, by decide +kernel, by decide +kernel⟩
theorem w__law_kd_rules (F : FnP K "_law_kd_rules" st__law_kd_rules f fd) : FnF P w K mg base 1 f fd [] g__law_kd_rules := by
  refine fnF_of (N := []) (k := 0) (ev := e__law_kd_rules) F sc__law_kd_rules fun cdv A outer s H E ρ hr hgd hcd => ?_
  have hu := hr.units
  have hu1 : _ + 1 < cLine := Nat.lt_of_le_of_lt (Nat.add_le_add_left (by decide) _) hu
  have hgd : (A.deeper (envOfC "_law_kd_rules" (defScope st__law_kd_rules) s.heap.objs.size f cdv)).guards = some [] := hgd
  have hcalm : (cxD P w K mg base [] "_law_kd_rules" (defScope st__law_kd_rules) f cdv A outer s H E).calm = true := rfl
  have hN : (cxD P w K mg base [] "_law_kd_rules" (defScope st__law_kd_rules) f cdv A outer s H E).N.Nodup := sc__law_kd_rules.nd
  have tk := L2N.takes_of (X := cxD P w K mg base [] "_law_kd_rules" (defScope st__law_kd_rules) f cdv A outer s H E) (E := E) rfl rfl rfl rfl
  have po := passes_of (X := cxD P w K mg base [] "_law_kd_rules" (defScope st__law_kd_rules) f cdv A outer s H E) rfl
  exact (fss_one (fs_ret (fe_lst (fa_cons fe_str (fa_cons fe_str (fa_cons fe_str (fa_cons fe_str (fa_cons fe_str fa_nil))))))))
abbrev st__law_kd_is_rule : Stmt := top 43
theorem sc__law_kd_is_rule : FnScope ["thing"] ["thing"] (defScope st__law_kd_is_rule) := ⟨rfl, rfl, rfl, by decide +kernel, rfl, by decide +kernel, by decide +kernel⟩
theorem w__law_kd_is_rule (F : FnP K "_law_kd_is_rule" st__law_kd_is_rule f fd) (d__law_kd_rules : Kn P w K mg base 1 "_law_kd_rules" [] g__law_kd_rules) (n_isinstance : mg "isinstance" = none) (n_str : mg "str" = none) : FnF P w K mg base 2 f fd ["thing"] g__law_kd_is_rule := by
  refine fnF_of (N := ["thing"]) (k := 1) (ev := e__law_kd_is_rule) F sc__law_kd_is_rule fun cdv A outer s H E ρ hr hgd hcd => ?_
  have hu := hr.units
  have hu1 : _ + 1 < cLine := Nat.lt_of_le_of_lt (Nat.add_le_add_left (by decide) _) hu
  have hgd : (A.deeper (envOfC "_law_kd_is_rule" (defScope st__law_kd_is_rule) s.heap.objs.size f cdv)).guards = some [] := hgd
  have hcalm : (cxD P w K mg base ["thing"] "_law_kd_is_rule" (defScope st__law_kd_is_rule) f cdv A outer s H E).calm = true := rfl
  have hN : (cxD P w K mg base ["thing"] "_law_kd_is_rule" (defScope st__law_kd_is_rule) f cdv A outer s H E).N.Nodup := sc__law_kd_is_rule.nd
  have tk := L2N.takes_of (X := cxD P w K mg base ["thing"] "_law_kd_is_rule" (defScope st__law_kd_is_rule) f cdv A outer s H E) (E := E) rfl rfl rfl rfl
  have po := passes_of (X := cxD P w K mg base ["thing"] "_law_kd_is_rule" (defScope st__law_kd_is_rule) f cdv A outer s H E) rfl
  exact (fss_one (fs_ret (fe_and (fe_callB of_isi n_isinstance rfl (fa_cons (fe_var 0) (fa_cons (fe_ty (T := "str") n_str rfl) fa_nil))) (fe_one (fe_cmp (of_in hu) (fe_var 0) (fe_cl0 d__law_kd_rules (hr.mono (by decide)) hgd tk))))))
abbrev st__law_carry_due : Stmt := top 53
theorem sc__law_carry_due : FnScope ["rule", "sign", "base", "figure"] ["rule", "sign", "base", "figure"] (defScope st__law_carry_due) := ⟨rfl, rfl, rfl, by decide +kernel, rfl, by decide +kernel, by decide +kernel⟩
theorem w__law_carry_due (F : FnP K "_law_carry_due" st__law_carry_due f fd) (d__law_kd_carry : Kn P w K mg base 2 "_law_kd_carry" ["rule", "sign", "base", "figure"] g__law_kd_carry) (d__law_kd_is_base : Kn P w K mg base 2 "_law_kd_is_base" ["thing"] g__law_kd_is_base) (d__law_kd_is_rule : Kn P w K mg base 2 "_law_kd_is_rule" ["thing"] g__law_kd_is_rule) (d__law_kd_is_whole : Kn P w K mg base 1 "_law_kd_is_whole" ["thing"] g__law_kd_is_whole) (n_abs : mg "abs" = none) : FnF P w K mg base 3 f fd ["rule", "sign", "base", "figure"] g__law_carry_due := by
  refine fnF_of (N := ["rule", "sign", "base", "figure"]) (k := 2) (ev := e__law_carry_due) F sc__law_carry_due fun cdv A outer s H E ρ hr hgd hcd => ?_
  have hu := hr.units
  have hu1 : _ + 1 < cLine := Nat.lt_of_le_of_lt (Nat.add_le_add_left (by decide) _) hu
  have hgd : (A.deeper (envOfC "_law_carry_due" (defScope st__law_carry_due) s.heap.objs.size f cdv)).guards = some [] := hgd
  have hcalm : (cxD P w K mg base ["rule", "sign", "base", "figure"] "_law_carry_due" (defScope st__law_carry_due) f cdv A outer s H E).calm = true := rfl
  have hN : (cxD P w K mg base ["rule", "sign", "base", "figure"] "_law_carry_due" (defScope st__law_carry_due) f cdv A outer s H E).N.Nodup := sc__law_carry_due.nd
  have tk := L2N.takes_of (X := cxD P w K mg base ["rule", "sign", "base", "figure"] "_law_carry_due" (defScope st__law_carry_due) f cdv A outer s H E) (E := E) rfl rfl rfl rfl
  have po := passes_of (X := cxD P w K mg base ["rule", "sign", "base", "figure"] "_law_carry_due" (defScope st__law_carry_due) f cdv A outer s H E) rfl
  exact (fss_cons (fs_if (ft_not (ft_val (fe_cl d__law_kd_is_rule (hr.mono (by decide)) hgd tk (fa_cons (fe_var 0) fa_nil)))) (fss_one (fs_ret (fe_tup (fa_cons fe_str (fa_cons (fe_var 0) fa_nil))))) fss_nil)
    (fss_cons (fs_if (ft_w (fw_or (ft_not (ft_val (fe_cl d__law_kd_is_whole (hr.mono (by decide)) hgd tk (fa_cons (fe_var 1) fa_nil)))) (fw_or1 (ft_cmp (of_ne hu) (fe_callB of_abs n_abs rfl (fa_cons (fe_var 1) fa_nil)) fe_int)))) (fss_one (fs_ret (fe_tup (fa_cons fe_str (fa_cons (fe_var 1) fa_nil))))) fss_nil)
    (fss_cons (fs_if (ft_not (ft_val (fe_cl d__law_kd_is_base (hr.mono (by decide)) hgd tk (fa_cons (fe_var 2) fa_nil)))) (fss_one (fs_ret (fe_tup (fa_cons fe_str (fa_cons (fe_var 2) fa_nil))))) fss_nil)
    (fss_cons (fs_if (ft_w (fw_or (ft_not (ft_val (fe_cl d__law_kd_is_whole (hr.mono (by decide)) hgd tk (fa_cons (fe_var 3) fa_nil)))) (fw_or1 (ft_not (ft_chain of_le of_le fe_int (fe_var 3) (fe_callB of_abs n_abs rfl (fa_cons (fe_var 2) fa_nil))))))) (fss_one (fs_ret (fe_tup (fa_cons fe_str (fa_cons (fe_var 3) fa_nil))))) fss_nil)
    (fss_one (fs_ret (fe_tup (fa_cons fe_str (fa_cons (fe_cl d__law_kd_carry (hr.mono (by decide)) hgd tk (fa_cons (fe_var 0) (fa_cons (fe_var 1) (fa_cons (fe_var 2) (fa_cons (fe_var 3) fa_nil))))) fa_nil)))))))))
abbrev st_divided : Stmt := top 31
theorem sc_divided : FnScope ["rule", "x", "divisor", "size", "sign", "whole", "part"] ["rule", "x", "divisor"] (defScope st_divided) := ⟨rfl, rfl, rfl, by decide +kernel, rfl, by decide +kernel, by decide +kernel⟩
theorem w_divided (F : FnP K "divided" st_divided f fd) (d_is_greater : Kn P w K mg base 1 "is_greater" ["rule", "sign", "divisor_sign", "part", "size"] g_is_greater) (d_sign_of : Kn P w K mg base 1 "sign_of" ["number"] g_sign_of) (n_abs : mg "abs" = none) (n_divmod : mg "divmod" = none) : FnF P w K mg base 2 f fd ["rule", "x", "divisor"] g_divided := by
  refine fnF_of (N := ["rule", "x", "divisor", "size", "sign", "whole", "part"]) (k := 1) (ev := e_divided) F sc_divided fun cdv A outer s H E ρ hr hgd hcd => ?_
  have hu := hr.units
  have hu1 : _ + 1 < cLine := Nat.lt_of_le_of_lt (Nat.add_le_add_left (by decide) _) hu
  have hgd : (A.deeper (envOfC "divided" (defScope st_divided) s.heap.objs.size f cdv)).guards = some [] := hgd
  have hcalm : (cxD P w K mg base ["rule", "x", "divisor", "size", "sign", "whole", "part"] "divided" (defScope st_divided) f cdv A outer s H E).calm = true := rfl
  have hN : (cxD P w K mg base ["rule", "x", "divisor", "size", "sign", "whole", "part"] "divided" (defScope st_divided) f cdv A outer s H E).N.Nodup := sc_divided.nd
  have tk := L2N.takes_of (X := cxD P w K mg base ["rule", "x", "divisor", "size", "sign", "whole", "part"] "divided" (defScope st_divided) f cdv A outer s H E) (E := E) rfl rfl rfl rfl
  have po := passes_of (X := cxD P w K mg base ["rule", "x", "divisor", "size", "sign", "whole", "part"] "divided" (defScope st_divided) f cdv A outer s H E) rfl
  exact (fss_cons (fs_par (i := 3) (j := 4) hcalm hN (fa_cons (fe_callB of_abs n_abs rfl (fa_cons (fe_var 2) fa_nil)) (fa_cons (fe_cl d_sign_of (hr.mono (by decide)) hgd tk (fa_cons (fe_var 1) fa_nil)) fa_nil)))
    (fss_cons (fs_asgT (fe_callB of_divmod n_divmod rfl (fa_cons (fe_callB of_abs n_abs rfl (fa_cons (fe_var 1) fa_nil)) (fa_cons (fe_var 3) fa_nil))) (fg_tup hcalm (fgs_cons (fg_nm 5 hN) (fgs_cons (fg_nm 6 hN) fgs_nil))))
    (fss_cons (fs_if (ft_w (fw_and (ft_cmp of_gt (fe_var 6) fe_int) (fw_and1 (ft_val (fe_cl d_is_greater (hr.mono (by decide)) hgd tk (fa_cons (fe_var 0) (fa_cons (fe_var 4) (fa_cons (fe_cl d_sign_of (hr.mono (by decide)) hgd tk (fa_cons (fe_var 2) fa_nil)) (fa_cons (fe_var 6) (fa_cons (fe_var 3) fa_nil)))))))))) (fss_one (fs_par (i := 5) (j := 6) hcalm hN (fa_cons (fe_bin of_add (fe_var 5) fe_int) (fa_cons (fe_bin of_sub (fe_var 6) (fe_var 3)) fa_nil)))) fss_nil)
    (fss_one (fs_ret (fe_tup (fa_cons (fe_bin of_mul (fe_bin of_mul (fe_var 4) (fe_cl d_sign_of (hr.mono (by decide)) hgd tk (fa_cons (fe_var 2) fa_nil))) (fe_var 5)) (fa_cons (fe_bin of_mul (fe_var 4) (fe_var 6)) fa_nil))))))))
abbrev st_divide : Stmt := top 32
theorem sc_divide : FnScope ["rule", "x", "base"] ["rule", "x", "base"] (defScope st_divide) := ⟨rfl, rfl, rfl, by decide +kernel, rfl, by decide +kernel, by decide +kernel⟩
theorem w_divide (F : FnP K "divide" st_divide f fd) (d_divided : Kn P w K mg base 2 "divided" ["rule", "x", "divisor"] g_divided) (d_is_integer : Kn P w K mg base 1 "is_integer" ["value"] g_is_integer) (d_require_rule : Kn P w K mg base 3 "require_rule" ["value"] g_require_rule) (x_InvalidBase : XCl P w K mg base 1 "InvalidBase" 2 ["value"]) (x_InvalidNumber : XCl P w K mg base 1 "InvalidNumber" 1 ["value"]) : FnF P w K mg base 4 f fd ["rule", "x", "base"] g_divide := by
  refine fnF_of (N := ["rule", "x", "base"]) (k := 3) (ev := e_divide) F sc_divide fun cdv A outer s H E ρ hr hgd hcd => ?_
  have hu := hr.units
  have hu1 : _ + 1 < cLine := Nat.lt_of_le_of_lt (Nat.add_le_add_left (by decide) _) hu
  have hgd : (A.deeper (envOfC "divide" (defScope st_divide) s.heap.objs.size f cdv)).guards = some [] := hgd
  have hcalm : (cxD P w K mg base ["rule", "x", "base"] "divide" (defScope st_divide) f cdv A outer s H E).calm = true := rfl
  have hN : (cxD P w K mg base ["rule", "x", "base"] "divide" (defScope st_divide) f cdv A outer s H E).N.Nodup := sc_divide.nd
  have tk := L2N.takes_of (X := cxD P w K mg base ["rule", "x", "base"] "divide" (defScope st_divide) f cdv A outer s H E) (E := E) rfl rfl rfl rfl
  have po := passes_of (X := cxD P w K mg base ["rule", "x", "base"] "divide" (defScope st_divide) f cdv A outer s H E) rfl
  exact (fss_cons (fs_expr (fe_cl d_require_rule (hr.mono (by decide)) hgd tk (fa_cons (fe_var 0) fa_nil)))
    (fss_cons (fs_if (ft_not (ft_val (fe_cl d_is_integer (hr.mono (by decide)) hgd tk (fa_cons (fe_var 1) fa_nil)))) (fss_one (fs_raise x_InvalidNumber hcalm (hr.mono (by decide)) tk (fa_cons (fe_var 1) fa_nil))) fss_nil)
    (fss_cons (fs_if (ft_w (fw_or (ft_not (ft_val (fe_cl d_is_integer (hr.mono (by decide)) hgd tk (fa_cons (fe_var 2) fa_nil)))) (fw_or1 (ft_cmp (of_eq hu) (fe_var 2) fe_int)))) (fss_one (fs_raise x_InvalidBase hcalm (hr.mono (by decide)) tk (fa_cons (fe_var 2) fa_nil))) fss_nil)
    (fss_one (fs_ret (fe_cl d_divided (hr.mono (by decide)) hgd tk (fa_cons (fe_var 0) (fa_cons (fe_var 1) (fa_cons (fe_var 2) fa_nil)))))))))
abbrev st__law_divided : Stmt := top 50
theorem sc__law_divided : FnScope ["rule", "x", "base"] ["rule", "x", "base"] (defScope st__law_divided) := ⟨rfl, rfl, rfl, by decide +kernel, rfl, by decide +kernel, by decide +kernel⟩
theorem w__law_divided (F : FnP K "_law_divided" st__law_divided f fd) (d__law_kh_heard : KnH P w K mg base (5 + 1) 5 "_law_kh_heard" ["call"] g__law_kh_heard) (d_divide : Kn P w K mg base 4 "divide" ["rule", "x", "base"] g_divide) {c0 P0 : Addr} (hcode0 : fd.code = .ref c0) (hTB : LamX.TabB base mg c0 P0) (hT : (P0, lamQ (("_law_divided" : Str) ++ ".<locals>.")) ∈ LamT.T K) (hTu : ∀ q ∈ LamT.T K, q.1 = P0 → q.2 = lamQ (("_law_divided" : Str) ++ ".<locals>.")) : FnF P w K mg base 7 f fd ["rule", "x", "base"] g__law_divided := by
  refine fnF_of (N := ["rule", "x", "base"]) (k := 6) (ev := e__law_divided) F sc__law_divided fun cdv A outer s H E ρ hr hgd hcd => ?_
  have hu := hr.units
  have hu1 : _ + 1 < cLine := Nat.lt_of_le_of_lt (Nat.add_le_add_left (by decide) _) hu
  have hgd : (A.deeper (envOfC "_law_divided" (defScope st__law_divided) s.heap.objs.size f cdv)).guards = some [] := hgd
  have hcalm : (cxD P w K mg base ["rule", "x", "base"] "_law_divided" (defScope st__law_divided) f cdv A outer s H E).calm = true := rfl
  have hN : (cxD P w K mg base ["rule", "x", "base"] "_law_divided" (defScope st__law_divided) f cdv A outer s H E).N.Nodup := sc__law_divided.nd
  have tk := L2N.takes_of (X := cxD P w K mg base ["rule", "x", "base"] "_law_divided" (defScope st__law_divided) f cdv A outer s H E) (E := E) rfl rfl rfl rfl
  have po := passes_of (X := cxD P w K mg base ["rule", "x", "base"] "_law_divided" (defScope st__law_divided) f cdv A outer s H E) rfl
  have hcode : (cxD P w K mg base ["rule", "x", "base"] "_law_divided" (defScope st__law_divided) f cdv A outer s H E).env.code = .ref c0 := hcd.symm.trans hcode0
  exact (fss_one (fs_ret (fe_lm_ d__law_kh_heard (hr.mono (by decide)) hgd tk hTB hcode hT hTu (by kernel_rfl) (fun f2 c2 A2 o2 s2 H2 E2 ρ2 hrL hgdL => (fe_cl d_divide (hrL.mono (by decide)) hgdL lam_takes (fa_cons (fe_var 0) (fa_cons (fe_var 1) (fa_cons (fe_var 2) fa_nil))))) fa_nil)))
abbrev st__law_all_right : Stmt := top 58
theorem sc__law_all_right : FnScope ["size", "rule", "sign", "figure", "said", "due", "base"] [] (defScope st__law_all_right) := ⟨rfl, rfl, rfl, by decide +kernel, rfl, by decide +kernel, by decide +kernel⟩
theorem w__law_all_right (F : FnP K "_law_all_right" st__law_all_right f fd) (d__law_carried : Kn P w K mg base 7 "_law_carried" ["rule", "sign", "base", "figure"] g__law_carried) (d__law_carry_due : Kn P w K mg base 3 "_law_carry_due" ["rule", "sign", "base", "figure"] g__law_carry_due) (d__law_divided : Kn P w K mg base 7 "_law_divided" ["rule", "x", "base"] g__law_divided) (d__law_kd_rules : Kn P w K mg base 1 "_law_kd_rules" [] g__law_kd_rules) (n_range : mg "range" = none) (n_repr : mg "repr" = none) : FnF P w K mg base 8 f fd [] g__law_all_right := by
  refine fnF_of (N := ["size", "rule", "sign", "figure", "said", "due", "base"]) (k := 7) (ev := e__law_all_right) F sc__law_all_right fun cdv A outer s H E ρ hr hgd hcd => ?_
  have hu := hr.units
  have hu1 : _ + 1 < cLine := Nat.lt_of_le_of_lt (Nat.add_le_add_left (by decide) _) hu
  have hgd : (A.deeper (envOfC "_law_all_right" (defScope st__law_all_right) s.heap.objs.size f cdv)).guards = some [] := hgd
  have hcalm : (cxD P w K mg base ["size", "rule", "sign", "figure", "said", "due", "base"] "_law_all_right" (defScope st__law_all_right) f cdv A outer s H E).calm = true := rfl
  have hN : (cxD P w K mg base ["size", "rule", "sign", "figure", "said", "due", "base"] "_law_all_right" (defScope st__law_all_right) f cdv A outer s H E).N.Nodup := sc__law_all_right.nd
  have tk := L2N.takes_of (X := cxD P w K mg base ["size", "rule", "sign", "figure", "said", "due", "base"] "_law_all_right" (defScope st__law_all_right) f cdv A outer s H E) (E := E) rfl rfl rfl rfl
  have po := passes_of (X := cxD P w K mg base ["size", "rule", "sign", "figure", "said", "due", "base"] "_law_all_right" (defScope st__law_all_right) f cdv A outer s H E) rfl
  exact (fss_cons (fs_for po hcalm (fi_rng2 n_range (fa_cons fe_int (fa_cons fe_int fa_nil))) (fg_nm 0 hN) (fss_one (fs_for po hcalm (fi_val (fe_cl0 d__law_kd_rules (hr.mono (by decide)) hgd tk)) (fg_nm 1 hN) (fss_one (fs_for po hcalm (fi_val (fe_tup (fa_cons fe_int (fa_cons (fe_neg fe_int) fa_nil)))) (fg_nm 2 hN) (fss_one (fs_for po hcalm (fi_rng1 n_range (fa_cons (fe_bin of_add (fe_var 0) fe_int) fa_nil)) (fg_nm 3 hN) (fss_cons (fs_asgLc (own := [("base", 6)]) hcalm hN rfl rfl rfl (fi_val (fe_tup (fa_cons (fe_var 0) (fa_cons (fe_neg (fe_var 0)) fa_nil)))) rfl (by decide) (fun s5 H5 C5 cl5 fp5 => (fg_nm 6 hN)) (fun s5 H5 C5 cl5 fp5 => fts_nil) (fun s5 H5 C5 cl5 fp5 => (fe_cl d__law_carried (hr.mono (by decide)) hgd takesN (fa_cons (fe_var 1) (fa_cons (fe_var 2) (fa_cons (fe_var 6) (fa_cons (fe_var 3) fa_nil)))))))
    (fss_cons (fs_asgLc (own := [("base", 6)]) hcalm hN rfl rfl rfl (fi_val (fe_tup (fa_cons (fe_var 0) (fa_cons (fe_neg (fe_var 0)) fa_nil)))) rfl (by decide) (fun s5 H5 C5 cl5 fp5 => (fg_nm 6 hN)) (fun s5 H5 C5 cl5 fp5 => fts_nil) (fun s5 H5 C5 cl5 fp5 => (fe_cl d__law_carry_due (hr.mono (by decide)) hgd takesN (fa_cons (fe_var 1) (fa_cons (fe_var 2) (fa_cons (fe_var 6) (fa_cons (fe_var 3) fa_nil)))))))
    (fss_one (fs_if (ft_cmp (of_ne hu) (fe_callB (of_repr hgd hu) n_repr rfl (fa_cons (fe_var 4) fa_nil)) (fe_callB (of_repr hgd hu) n_repr rfl (fa_cons (fe_var 5) fa_nil))) (fss_one (fs_ret fe_bl)) fss_nil)))))))))))
    (fss_cons (fs_asg 4 (fe_lst (fa_cons (fe_cl d__law_divided (hr.mono (by decide)) hgd tk (fa_cons fe_str (fa_cons fe_bl (fa_cons fe_int fa_nil)))) (fa_cons (fe_cl d__law_divided (hr.mono (by decide)) hgd tk (fa_cons fe_str (fa_cons fe_bl (fa_cons fe_int fa_nil)))) (fa_cons (fe_cl d__law_divided (hr.mono (by decide)) hgd tk (fa_cons fe_str (fa_cons fe_int (fa_cons fe_int fa_nil)))) fa_nil)))) hN)
    (fss_cons (fs_expr (fe_lm PySem.F.plainAttrs_list PySem.F.slot_list_extend PySem.F.type_list_extend of_extend (fe_var 4) (fa_cons (fe_lst (fa_cons (fe_cl d__law_divided (hr.mono (by decide)) hgd tk (fa_cons fe_str (fa_cons fe_int (fa_cons fe_bl fa_nil)))) (fa_cons (fe_cl d__law_carried (hr.mono (by decide)) hgd tk (fa_cons fe_str (fa_cons fe_int (fa_cons fe_int (fa_cons fe_int fa_nil))))) (fa_cons (fe_cl d__law_carried (hr.mono (by decide)) hgd tk (fa_cons fe_str (fa_cons fe_int (fa_cons fe_int (fa_cons fe_int fa_nil))))) fa_nil)))) fa_nil)))
    (fss_cons (fs_expr (fe_lm PySem.F.plainAttrs_list PySem.F.slot_list_extend PySem.F.type_list_extend of_extend (fe_var 4) (fa_cons (fe_lst (fa_cons (fe_cl d__law_carried (hr.mono (by decide)) hgd tk (fa_cons fe_str (fa_cons fe_int (fa_cons fe_int (fa_cons fe_int fa_nil))))) (fa_cons (fe_cl d__law_carried (hr.mono (by decide)) hgd tk (fa_cons fe_str (fa_cons fe_int (fa_cons fe_int (fa_cons fe_int fa_nil))))) fa_nil))) fa_nil)))
    (fss_cons (fs_asg 5 (fe_lst (fa_cons (fe_tup (fa_cons fe_str (fa_cons fe_str fa_nil))) (fa_cons (fe_tup (fa_cons fe_str (fa_cons fe_bl fa_nil))) (fa_cons (fe_tup (fa_cons fe_str (fa_cons fe_int fa_nil))) (fa_cons (fe_tup (fa_cons fe_str (fa_cons fe_bl fa_nil))) fa_nil))))) hN)
    (fss_cons (fs_expr (fe_lm PySem.F.plainAttrs_list PySem.F.slot_list_extend PySem.F.type_list_extend of_extend (fe_var 5) (fa_cons (fe_lst (fa_cons (fe_tup (fa_cons fe_str (fa_cons fe_int fa_nil))) (fa_cons (fe_tup (fa_cons fe_str (fa_cons fe_int fa_nil))) (fa_cons (fe_tup (fa_cons fe_str (fa_cons fe_int fa_nil))) (fa_cons (fe_tup (fa_cons fe_str (fa_cons fe_int fa_nil))) fa_nil))))) fa_nil)))
    (fss_one (fs_ret (fe_cmp (of_eq hu) (fe_callB (of_repr hgd hu) n_repr rfl (fa_cons (fe_var 4) fa_nil)) (fe_callB (of_repr hgd hu) n_repr rfl (fa_cons (fe_var 5) fa_nil)))))))))))
abbrev st__law_take : Stmt := top 37
theorem sc__law_take : FnScope ["jar", "many", "found"] ["jar", "many"] (defScope st__law_take) := ⟨rfl, rfl, rfl, by decide +kernel, rfl, by decide +kernel, by decide +kernel⟩
theorem w__law_take (F : FnP K "_law_take" st__law_take f fd) (n_int : mg "int" = none) : FnF P w K mg base 1 f fd ["jar", "many"] g__law_take := by
  refine fnF_of (N := ["jar", "many", "found"]) (k := 0) (ev := e__law_take) F sc__law_take fun cdv A outer s H E ρ hr hgd hcd => ?_
  have hu := hr.units
  have hu1 : _ + 1 < cLine := Nat.lt_of_le_of_lt (Nat.add_le_add_left (by decide) _) hu
  have hgd : (A.deeper (envOfC "_law_take" (defScope st__law_take) s.heap.objs.size f cdv)).guards = some [] := hgd
  have hcalm : (cxD P w K mg base ["jar", "many", "found"] "_law_take" (defScope st__law_take) f cdv A outer s H E).calm = true := rfl
  have hN : (cxD P w K mg base ["jar", "many", "found"] "_law_take" (defScope st__law_take) f cdv A outer s H E).N.Nodup := sc__law_take.nd
  have tk := L2N.takes_of (X := cxD P w K mg base ["jar", "many", "found"] "_law_take" (defScope st__law_take) f cdv A outer s H E) (E := E) rfl rfl rfl rfl
  have po := passes_of (X := cxD P w K mg base ["jar", "many", "found"] "_law_take" (defScope st__law_take) f cdv A outer s H E) rfl
  exact (fss_cons (fs_if (ft_cmp of_gt (fe_ix hu1 (fe_var 0) fe_int) fe_int) (fss_cons (fs_asg 2 (fe_bin of_mod (fe_callTy of_int n_int rfl (fa_cons (fe_ix hu1 (fe_var 0) fe_int) fa_nil)) (fe_var 1)) hN)
    (fss_cons (fs_lset (fe_var 0) fe_int (fe_bin of_div (fe_ix hu1 (fe_var 0) fe_int) (fe_var 1)))
    (fss_one (fs_ret (fe_var 2))))) fss_nil)
    (fss_cons (fs_lset (fe_var 0) fe_int (fe_bin of_add (fe_ix hu1 (fe_var 0) fe_int) fe_int))
    (fss_cons (fs_lset (fe_var 0) fe_int (fe_bin of_mod (fe_callTy of_int n_int rfl (fa_cons (fe_bin of_add (fe_bin of_add (fe_bin of_mul (fe_ix hu1 (fe_var 0) fe_int) fe_int) (fe_bin of_mul fe_int (fe_ix hu1 (fe_var 0) fe_int))) fe_int) fa_nil)) fe_int))
    (fss_one (fs_ret (fe_bin of_mod (fe_callTy of_int n_int rfl (fa_cons (fe_bin of_div (fe_bin of_mod (fe_callTy of_int n_int rfl (fa_cons (fe_bin of_mul (fe_ix hu1 (fe_var 0) fe_int) (fe_ix hu1 (fe_var 0) fe_int)) fa_nil)) fe_int) fe_int) fa_nil)) (fe_var 1)))))))
abbrev st__law_one : Stmt := top 38
theorem sc__law_one : FnScope ["jar", "things"] ["jar", "things"] (defScope st__law_one) := ⟨rfl, rfl, rfl, by decide +kernel, rfl, by decide +kernel, by decide +kernel⟩
theorem w__law_one (F : FnP K "_law_one" st__law_one f fd) (d__law_take : Kn P w K mg base 1 "_law_take" ["jar", "many"] g__law_take) (n_len : mg "len" = none) : FnF P w K mg base 2 f fd ["jar", "things"] g__law_one := by
  refine fnF_of (N := ["jar", "things"]) (k := 1) (ev := e__law_one) F sc__law_one fun cdv A outer s H E ρ hr hgd hcd => ?_
  have hu := hr.units
  have hu1 : _ + 1 < cLine := Nat.lt_of_le_of_lt (Nat.add_le_add_left (by decide) _) hu
  have hgd : (A.deeper (envOfC "_law_one" (defScope st__law_one) s.heap.objs.size f cdv)).guards = some [] := hgd
  have hcalm : (cxD P w K mg base ["jar", "things"] "_law_one" (defScope st__law_one) f cdv A outer s H E).calm = true := rfl
  have hN : (cxD P w K mg base ["jar", "things"] "_law_one" (defScope st__law_one) f cdv A outer s H E).N.Nodup := sc__law_one.nd
  have tk := L2N.takes_of (X := cxD P w K mg base ["jar", "things"] "_law_one" (defScope st__law_one) f cdv A outer s H E) (E := E) rfl rfl rfl rfl
  have po := passes_of (X := cxD P w K mg base ["jar", "things"] "_law_one" (defScope st__law_one) f cdv A outer s H E) rfl
  exact (fss_one (fs_ret (fe_ix hu1 (fe_var 1) (fe_cl d__law_take (hr.mono (by decide)) hgd tk (fa_cons (fe_var 0) (fa_cons (fe_callB of_len n_len rfl (fa_cons (fe_var 1) fa_nil)) fa_nil))))))
abbrev st__law_kg_base : Stmt := top 45
theorem sc__law_kg_base : FnScope ["jar"] ["jar"] (defScope st__law_kg_base) := ⟨rfl, rfl, rfl, by decide +kernel, rfl, by decide +kernel, by decide +kernel⟩
theorem w__law_kg_base (F : FnP K "_law_kg_base" st__law_kg_base f fd) (d__law_one : Kn P w K mg base 2 "_law_one" ["jar", "things"] g__law_one) (d__law_take : Kn P w K mg base 1 "_law_take" ["jar", "many"] g__law_take) : FnF P w K mg base 3 f fd ["jar"] g__law_kg_base := by
  refine fnF_of (N := ["jar"]) (k := 2) (ev := e__law_kg_base) F sc__law_kg_base fun cdv A outer s H E ρ hr hgd hcd => ?_
  have hu := hr.units
  have hu1 : _ + 1 < cLine := Nat.lt_of_le_of_lt (Nat.add_le_add_left (by decide) _) hu
  have hgd : (A.deeper (envOfC "_law_kg_base" (defScope st__law_kg_base) s.heap.objs.size f cdv)).guards = some [] := hgd
  have hcalm : (cxD P w K mg base ["jar"] "_law_kg_base" (defScope st__law_kg_base) f cdv A outer s H E).calm = true := rfl
  have hN : (cxD P w K mg base ["jar"] "_law_kg_base" (defScope st__law_kg_base) f cdv A outer s H E).N.Nodup := sc__law_kg_base.nd
  have tk := L2N.takes_of (X := cxD P w K mg base ["jar"] "_law_kg_base" (defScope st__law_kg_base) f cdv A outer s H E) (E := E) rfl rfl rfl rfl
  have po := passes_of (X := cxD P w K mg base ["jar"] "_law_kg_base" (defScope st__law_kg_base) f cdv A outer s H E) rfl
  exact (fss_one (fs_ret (fe_bin of_mul (fe_cl d__law_one (hr.mono (by decide)) hgd tk (fa_cons (fe_var 0) (fa_cons (fe_lst (fa_cons fe_int (fa_cons fe_int (fa_cons fe_int (fa_cons (fe_bin of_add fe_int (fe_cl d__law_take (hr.mono (by decide)) hgd tk (fa_cons (fe_var 0) (fa_cons fe_int fa_nil)))) fa_nil))))) fa_nil))) (fe_cl d__law_one (hr.mono (by decide)) hgd tk (fa_cons (fe_var 0) (fa_cons (fe_lst (fa_cons fe_int (fa_cons fe_int (fa_cons (fe_neg fe_int) fa_nil)))) fa_nil))))))
abbrev st__law_beside_right : Stmt := top 57
theorem sc__law_beside_right : FnScope ["jar", "rule", "sign", "base", "figure", "above", "said", "more", "left", "turned"] ["jar"] (defScope st__law_beside_right) := ⟨rfl, rfl, rfl, by decide +kernel, rfl, by decide +kernel, by decide +kernel⟩
theorem w__law_beside_right (F : FnP K "_law_beside_right" st__law_beside_right f fd) (d__law_carried : Kn P w K mg base 7 "_law_carried" ["rule", "sign", "base", "figure"] g__law_carried) (d__law_divided : Kn P w K mg base 7 "_law_divided" ["rule", "x", "base"] g__law_divided) (d__law_kd_rules : Kn P w K mg base 1 "_law_kd_rules" [] g__law_kd_rules) (d__law_kg_base : Kn P w K mg base 3 "_law_kg_base" ["jar"] g__law_kg_base) (d__law_one : Kn P w K mg base 2 "_law_one" ["jar", "things"] g__law_one) (d__law_take : Kn P w K mg base 1 "_law_take" ["jar", "many"] g__law_take) (n_abs : mg "abs" = none) (n_isinstance : mg "isinstance" = none) (n_len : mg "len" = none) (n_repr : mg "repr" = none) (n_tuple : mg "tuple" = none) : FnF P w K mg base 8 f fd ["jar"] g__law_beside_right := by
  refine fnF_of (N := ["jar", "rule", "sign", "base", "figure", "above", "said", "more", "left", "turned"]) (k := 7) (ev := e__law_beside_right) F sc__law_beside_right fun cdv A outer s H E ρ hr hgd hcd => ?_
  have hu := hr.units
  have hu1 : _ + 1 < cLine := Nat.lt_of_le_of_lt (Nat.add_le_add_left (by decide) _) hu
  have hgd : (A.deeper (envOfC "_law_beside_right" (defScope st__law_beside_right) s.heap.objs.size f cdv)).guards = some [] := hgd
  have hcalm : (cxD P w K mg base ["jar", "rule", "sign", "base", "figure", "above", "said", "more", "left", "turned"] "_law_beside_right" (defScope st__law_beside_right) f cdv A outer s H E).calm = true := rfl
  have hN : (cxD P w K mg base ["jar", "rule", "sign", "base", "figure", "above", "said", "more", "left", "turned"] "_law_beside_right" (defScope st__law_beside_right) f cdv A outer s H E).N.Nodup := sc__law_beside_right.nd
  have tk := L2N.takes_of (X := cxD P w K mg base ["jar", "rule", "sign", "base", "figure", "above", "said", "more", "left", "turned"] "_law_beside_right" (defScope st__law_beside_right) f cdv A outer s H E) (E := E) rfl rfl rfl rfl
  have po := passes_of (X := cxD P w K mg base ["jar", "rule", "sign", "base", "figure", "above", "said", "more", "left", "turned"] "_law_beside_right" (defScope st__law_beside_right) f cdv A outer s H E) rfl
  exact (fss_cons (fs_par3 (i := 1) (j := 2) (k := 3) hcalm hN (fa_cons (fe_cl d__law_one (hr.mono (by decide)) hgd tk (fa_cons (fe_var 0) (fa_cons (fe_cl0 d__law_kd_rules (hr.mono (by decide)) hgd tk) fa_nil))) (fa_cons (fe_cl d__law_one (hr.mono (by decide)) hgd tk (fa_cons (fe_var 0) (fa_cons (fe_lst (fa_cons fe_int (fa_cons (fe_neg fe_int) fa_nil))) fa_nil))) (fa_cons (fe_cl d__law_kg_base (hr.mono (by decide)) hgd tk (fa_cons (fe_var 0) fa_nil)) fa_nil))))
    (fss_cons (fs_par (i := 4) (j := 5) hcalm hN (fa_cons (fe_cl d__law_take (hr.mono (by decide)) hgd tk (fa_cons (fe_var 0) (fa_cons (fe_bin of_add (fe_callB of_abs n_abs rfl (fa_cons (fe_var 3) fa_nil)) fe_int) fa_nil))) (fa_cons (fe_cl d__law_one (hr.mono (by decide)) hgd tk (fa_cons (fe_var 0) (fa_cons (fe_lst (fa_cons fe_int (fa_cons fe_int (fa_cons (fe_cl d__law_take (hr.mono (by decide)) hgd tk (fa_cons (fe_var 0) (fa_cons (fe_bin of_pow fe_int fe_int) fa_nil))) (fa_cons (fe_cl d__law_take (hr.mono (by decide)) hgd tk (fa_cons (fe_var 0) (fa_cons fe_int fa_nil))) fa_nil))))) fa_nil))) fa_nil)))
    (fss_cons (fs_asg 6 (fe_lst (fa_cons (fe_cl d__law_carried (hr.mono (by decide)) hgd tk (fa_cons (fe_var 1) (fa_cons (fe_var 2) (fa_cons (fe_var 3) (fa_cons (fe_var 4) fa_nil))))) (fa_cons (fe_cl d__law_divided (hr.mono (by decide)) hgd tk (fa_cons (fe_var 1) (fa_cons (fe_bin of_mul (fe_var 2) (fe_bin of_add (fe_bin of_mul (fe_var 5) (fe_callB of_abs n_abs rfl (fa_cons (fe_var 3) fa_nil))) (fe_var 4))) (fa_cons (fe_var 3) fa_nil)))) fa_nil))) hN)
    (fss_cons (fs_if (ft_w (fw_or (ft_cmp (of_ne hu) (fe_ix hu1 (fe_ix hu1 (fe_var 6) fe_int) fe_int) fe_str) (fw_or (ft_cmp (of_ne hu) (fe_ix hu1 (fe_ix hu1 (fe_var 6) fe_int) fe_int) fe_str) (fw_or (ft_not (ft_val (fe_callB of_isi n_isinstance rfl (fa_cons (fe_ix hu1 (fe_ix hu1 (fe_var 6) fe_int) fe_int) (fa_cons (fe_ty (T := "tuple") n_tuple rfl) fa_nil))))) (fw_or1 (ft_cmp (of_ne hu) (fe_callB of_len n_len rfl (fa_cons (fe_ix hu1 (fe_ix hu1 (fe_var 6) fe_int) fe_int) fa_nil)) fe_int)))))) (fss_one (fs_ret fe_bl)) fss_nil)
    (fss_cons (fs_asgT (fe_ix hu1 (fe_ix hu1 (fe_var 6) fe_int) fe_int) (fg_tup hcalm (fgs_cons (fg_nm 7 hN) (fgs_cons (fg_nm 8 hN) fgs_nil))))
    (fss_cons (fs_asg 9 (fe_ifExp (ft_cmp of_gt (fe_var 3) fe_int) (fe_var 2) (fe_neg (fe_var 2))) hN)
    (fss_one (fs_ret (fe_cmp (of_eq hu) (fe_callB (of_repr hgd hu) n_repr rfl (fa_cons (fe_ix hu1 (fe_ix hu1 (fe_var 6) fe_int) fe_int) fa_nil)) (fe_callB (of_repr hgd hu) n_repr rfl (fa_cons (fe_tup (fa_cons (fe_bin of_mul (fe_var 9) (fe_bin of_add (fe_var 5) (fe_var 7))) (fa_cons (fe_var 8) fa_nil))) fa_nil)))))))))))
abbrev st__law_any : Stmt := top 49
theorem sc__law_any : FnScope ["jar"] ["jar"] (defScope st__law_any) := ⟨rfl, rfl, rfl, by decide +kernel, rfl, by decide +kernel, by decide +kernel⟩
theorem w__law_any (F : FnP K "_law_any" st__law_any f fd) (d__law_one : Kn P w K mg base 2 "_law_one" ["jar", "things"] g__law_one) : FnF P w K mg base 3 f fd ["jar"] g__law_any := by
  refine fnF_of (N := ["jar"]) (k := 2) (ev := e__law_any) F sc__law_any fun cdv A outer s H E ρ hr hgd hcd => ?_
  have hu := hr.units
  have hu1 : _ + 1 < cLine := Nat.lt_of_le_of_lt (Nat.add_le_add_left (by decide) _) hu
  have hgd : (A.deeper (envOfC "_law_any" (defScope st__law_any) s.heap.objs.size f cdv)).guards = some [] := hgd
  have hcalm : (cxD P w K mg base ["jar"] "_law_any" (defScope st__law_any) f cdv A outer s H E).calm = true := rfl
  have hN : (cxD P w K mg base ["jar"] "_law_any" (defScope st__law_any) f cdv A outer s H E).N.Nodup := sc__law_any.nd
  have tk := L2N.takes_of (X := cxD P w K mg base ["jar"] "_law_any" (defScope st__law_any) f cdv A outer s H E) (E := E) rfl rfl rfl rfl
  have po := passes_of (X := cxD P w K mg base ["jar"] "_law_any" (defScope st__law_any) f cdv A outer s H E) rfl
  exact (fss_one (fs_ret (fe_cl d__law_one (hr.mono (by decide)) hgd tk (fa_cons (fe_var 0) (fa_cons (fe_lst (fa_cons fe_non (fa_cons fe_bl (fa_cons fe_bl (fa_cons fe_str (fa_cons fe_str (fa_cons (fe_tup (fa_cons fe_int fa_nil)) (fa_cons (fe_lst fa_nil) (fa_cons fe_str (fa_cons fe_str (fa_cons (fe_tup (fa_cons fe_str fa_nil)) (fa_cons (fe_lst (fa_cons fe_int fa_nil)) fa_nil)))))))))))) fa_nil)))))
abbrev st__law_kh_says : Stmt := top 48
theorem sc__law_kh_says : FnScope ["call", "due"] ["call", "due"] (defScope st__law_kh_says) := ⟨rfl, rfl, rfl, by decide +kernel, rfl, by decide +kernel, by decide +kernel⟩
theorem w__law_kh_says (lv : Nat) (F : FnP K "_law_kh_says" st__law_kh_says f fd) (d__law_kh_heard : KnH P w K mg base (lv + 1) lv "_law_kh_heard" ["call"] g__law_kh_heard) (n_repr : mg "repr" = none) : FnH P w K mg base (lv + 2) lv f fd ["call", "due"] g__law_kh_says := by
  refine fnH_of (N := ["call", "due"]) (k := lv + 1) (ev := e__law_kh_says) F sc__law_kh_says fun cdv A outer s H E ρ fc n d hr hgd hcd hn hcl => ?_
  have hu := hr.units
  have hu1 : _ + 1 < cLine := Nat.lt_of_le_of_lt (Nat.add_le_add_left (by decide) _) hu
  have hgd : (A.deeper (envOfC "_law_kh_says" (defScope st__law_kh_says) s.heap.objs.size f cdv)).guards = some [] := hgd
  have hcalm : (cxD P w K mg base ["call", "due"] "_law_kh_says" (defScope st__law_kh_says) f cdv A outer s H E).calm = true := rfl
  have hN : (cxD P w K mg base ["call", "due"] "_law_kh_says" (defScope st__law_kh_says) f cdv A outer s H E).N.Nodup := sc__law_kh_says.nd
  have tk := L2N.takes_of (X := cxD P w K mg base ["call", "due"] "_law_kh_says" (defScope st__law_kh_says) f cdv A outer s H E) (E := E) rfl rfl rfl rfl
  have po := passes_of (X := cxD P w K mg base ["call", "due"] "_law_kh_says" (defScope st__law_kh_says) f cdv A outer s H E) rfl
  exact (fss_one (fs_ret (fe_cmp (of_eq hu) (fe_callB (of_repr hgd hu) n_repr rfl (fa_cons (fe_ps 0 d__law_kh_heard hcl rfl rfl hn (hr.mono (by omega)) hgd tk (fa_cons (fe_var 0) fa_nil)) fa_nil)) (fe_callB (of_repr hgd hu) n_repr rfl (fa_cons (fe_var 1) fa_nil)))))
abbrev st__law_carries_right : Stmt := top 56
theorem sc__law_carries_right : FnScope ["jar", "odd", "bases", "made", "due", "base", "figure", "rule", "sign", "one"] ["jar"] (defScope st__law_carries_right) := ⟨rfl, rfl, rfl, by decide +kernel, rfl, by decide +kernel, by decide +kernel⟩
theorem w__law_carries_right (F : FnP K "_law_carries_right" st__law_carries_right f fd) (d__law_any : Kn P w K mg base 3 "_law_any" ["jar"] g__law_any) (d__law_carried : Kn P w K mg base 7 "_law_carried" ["rule", "sign", "base", "figure"] g__law_carried) (d__law_carry_due : Kn P w K mg base 3 "_law_carry_due" ["rule", "sign", "base", "figure"] g__law_carry_due) (d__law_kd_rules : Kn P w K mg base 1 "_law_kd_rules" [] g__law_kd_rules) (d__law_kg_base : Kn P w K mg base 3 "_law_kg_base" ["jar"] g__law_kg_base) (d__law_kh_says : KnH P w K mg base (5 + 2) 5 "_law_kh_says" ["call", "due"] g__law_kh_says) (d__law_one : Kn P w K mg base 2 "_law_one" ["jar", "things"] g__law_one) (d__law_take : Kn P w K mg base 1 "_law_take" ["jar", "many"] g__law_take) (d0_carry : KnW P w K mg base 4 "carry" ["rule", "sign", "base", "figure"] 0 ["figure", "base", "rule", "sign"] [2, 3, 1, 0] g_carry) (n_abs : mg "abs" = none) (n_repr : mg "repr" = none) {c0 P0 : Addr} (hcode0 : fd.code = .ref c0) (hTB : LamX.TabB base mg c0 P0) (hT : (P0, lamQ (("_law_carries_right" : Str) ++ ".<locals>.")) ∈ LamT.T K) (hTu : ∀ q ∈ LamT.T K, q.1 = P0 → q.2 = lamQ (("_law_carries_right" : Str) ++ ".<locals>.")) : FnF P w K mg base 8 f fd ["jar"] g__law_carries_right := by
  refine fnF_of (N := ["jar", "odd", "bases", "made", "due", "base", "figure", "rule", "sign", "one"]) (k := 7) (ev := e__law_carries_right) F sc__law_carries_right fun cdv A outer s H E ρ hr hgd hcd => ?_
  have hu := hr.units
  have hu1 : _ + 1 < cLine := Nat.lt_of_le_of_lt (Nat.add_le_add_left (by decide) _) hu
  have hgd : (A.deeper (envOfC "_law_carries_right" (defScope st__law_carries_right) s.heap.objs.size f cdv)).guards = some [] := hgd
  have hcalm : (cxD P w K mg base ["jar", "odd", "bases", "made", "due", "base", "figure", "rule", "sign", "one"] "_law_carries_right" (defScope st__law_carries_right) f cdv A outer s H E).calm = true := rfl
  have hN : (cxD P w K mg base ["jar", "odd", "bases", "made", "due", "base", "figure", "rule", "sign", "one"] "_law_carries_right" (defScope st__law_carries_right) f cdv A outer s H E).N.Nodup := sc__law_carries_right.nd
  have tk := L2N.takes_of (X := cxD P w K mg base ["jar", "odd", "bases", "made", "due", "base", "figure", "rule", "sign", "one"] "_law_carries_right" (defScope st__law_carries_right) f cdv A outer s H E) (E := E) rfl rfl rfl rfl
  have po := passes_of (X := cxD P w K mg base ["jar", "odd", "bases", "made", "due", "base", "figure", "rule", "sign", "one"] "_law_carries_right" (defScope st__law_carries_right) f cdv A outer s H E) rfl
  have hcode : (cxD P w K mg base ["jar", "odd", "bases", "made", "due", "base", "figure", "rule", "sign", "one"] "_law_carries_right" (defScope st__law_carries_right) f cdv A outer s H E).env.code = .ref c0 := hcd.symm.trans hcode0
  exact (fss_cons (fs_for po hcalm (fi_val (fe_lst (fa_cons fe_int (fa_cons fe_int (fa_cons fe_int (fa_cons fe_int (fa_cons fe_int fa_nil))))))) (fg_nm 1 hN) (fss_cons (fs_asg 5 (fe_cl d__law_kg_base (hr.mono (by decide)) hgd tk (fa_cons (fe_var 0) fa_nil)) hN)
    (fss_cons (fs_asg 6 (fe_cl d__law_one (hr.mono (by decide)) hgd tk (fa_cons (fe_var 0) (fa_cons (fe_lst (fa_cons fe_int (fa_cons (fe_callB of_abs n_abs rfl (fa_cons (fe_var 5) fa_nil)) (fa_cons (fe_bin of_sub (fe_callB of_abs n_abs rfl (fa_cons (fe_var 5) fa_nil)) fe_int) (fa_cons (fe_cl d__law_take (hr.mono (by decide)) hgd tk (fa_cons (fe_var 0) (fa_cons (fe_bin of_add (fe_callB of_abs n_abs rfl (fa_cons (fe_var 5) fa_nil)) fe_int) fa_nil))) (fa_cons (fe_neg fe_int) (fa_cons (fe_bin of_add (fe_callB of_abs n_abs rfl (fa_cons (fe_var 5) fa_nil)) fe_int) fa_nil))))))) fa_nil))) hN)
    (fss_cons (fs_asg 2 (fe_lst (fa_cons (fe_var 5) (fa_cons (fe_var 5) (fa_cons (fe_var 5) (fa_cons fe_int (fa_cons fe_int (fa_cons (fe_neg fe_int) (fa_cons fe_int (fa_cons (fe_neg fe_int) fa_nil))))))))) hN)
    (fss_cons (fs_asg 3 (fe_lst (fa_cons (fe_cl d__law_one (hr.mono (by decide)) hgd tk (fa_cons (fe_var 0) (fa_cons (fe_cl0 d__law_kd_rules (hr.mono (by decide)) hgd tk) fa_nil))) (fa_cons (fe_cl d__law_one (hr.mono (by decide)) hgd tk (fa_cons (fe_var 0) (fa_cons (fe_lst (fa_cons fe_int (fa_cons (fe_neg fe_int) fa_nil))) fa_nil))) (fa_cons (fe_cl d__law_one (hr.mono (by decide)) hgd tk (fa_cons (fe_var 0) (fa_cons (fe_var 2) fa_nil))) fa_nil)))) hN)
    (fss_cons (fs_asgLc (own := [("one", 9)]) hcalm hN rfl rfl rfl (fi_val (fe_bin of_add (fe_var 3) (fe_lst (fa_cons (fe_var 6) fa_nil)))) rfl (by decide) (fun s5 H5 C5 cl5 fp5 => (fg_nm 9 hN)) (fun s5 H5 C5 cl5 fp5 => fts_nil) (fun s5 H5 C5 cl5 fp5 => (fe_ifExp (ft_cmp (of_eq hu) (fe_cl d__law_take (hr.mono (by decide)) hgd takesN (fa_cons (fe_var 0) (fa_cons (fe_var 1) fa_nil))) fe_int) (fe_cl d__law_any (hr.mono (by decide)) hgd takesN (fa_cons (fe_var 0) fa_nil)) (fe_var 9))))
    (fss_cons (fs_asgT (fe_var 3) (fg_tup hcalm (fgs_cons (fg_nm 7 hN) (fgs_cons (fg_nm 8 hN) (fgs_cons (fg_nm 5 hN) (fgs_cons (fg_nm 6 hN) fgs_nil))))))
    (fss_cons (fs_asg 8 (fe_cl d__law_one (hr.mono (by decide)) hgd tk (fa_cons (fe_var 0) (fa_cons (fe_lst (fa_cons (fe_var 8) (fa_cons (fe_var 8) (fa_cons (fe_var 8) (fa_cons (fe_var 8) (fa_cons fe_int (fa_cons fe_int fa_nil))))))) fa_nil))) hN)
    (fss_cons (fs_asg 4 (fe_cl d__law_carry_due (hr.mono (by decide)) hgd tk (fa_cons (fe_var 7) (fa_cons (fe_var 8) (fa_cons (fe_var 5) (fa_cons (fe_var 6) fa_nil))))) hN)
    (fss_cons (fs_if (ft_cmp (of_ne hu) (fe_callB (of_repr hgd hu) n_repr rfl (fa_cons (fe_cl d__law_carried (hr.mono (by decide)) hgd tk (fa_cons (fe_var 7) (fa_cons (fe_var 8) (fa_cons (fe_var 5) (fa_cons (fe_var 6) fa_nil))))) fa_nil)) (fe_callB (of_repr hgd hu) n_repr rfl (fa_cons (fe_var 4) fa_nil))) (fss_one (fs_ret fe_bl)) fss_nil)
    (fss_one (fs_if (ft_not (ft_val (fe_lm_ d__law_kh_says (hr.mono (by decide)) hgd tk hTB hcode hT hTu (by kernel_rfl) (fun f2 c2 A2 o2 s2 H2 E2 ρ2 hrL hgdL => (fe_clW0 d0_carry (hrL.mono (by decide)) hgdL lam_takes (fk_cons (fe_var 6) (fk_cons (fe_var 5) (fk_cons (fe_var 7) (fk_cons (fe_var 8) fk_nil)))))) (fa_cons (fe_var 4) fa_nil)))) (fss_one (fs_ret fe_bl)) fss_nil))))))))))))
    (fss_one (fs_ret fe_bl)))
abbrev st__law_divide_due : Stmt := top 51
theorem sc__law_divide_due : FnScope ["rule", "x", "base"] ["rule", "x", "base"] (defScope st__law_divide_due) := ⟨rfl, rfl, rfl, by decide +kernel, rfl, by decide +kernel, by decide +kernel⟩
theorem w__law_divide_due (F : FnP K "_law_divide_due" st__law_divide_due f fd) (d__law_kd_divide : Kn P w K mg base 1 "_law_kd_divide" ["rule", "x", "base"] g__law_kd_divide) (d__law_kd_is_rule : Kn P w K mg base 2 "_law_kd_is_rule" ["thing"] g__law_kd_is_rule) (d__law_kd_is_whole : Kn P w K mg base 1 "_law_kd_is_whole" ["thing"] g__law_kd_is_whole) : FnF P w K mg base 3 f fd ["rule", "x", "base"] g__law_divide_due := by
  refine fnF_of (N := ["rule", "x", "base"]) (k := 2) (ev := e__law_divide_due) F sc__law_divide_due fun cdv A outer s H E ρ hr hgd hcd => ?_
  have hu := hr.units
  have hu1 : _ + 1 < cLine := Nat.lt_of_le_of_lt (Nat.add_le_add_left (by decide) _) hu
  have hgd : (A.deeper (envOfC "_law_divide_due" (defScope st__law_divide_due) s.heap.objs.size f cdv)).guards = some [] := hgd
  have hcalm : (cxD P w K mg base ["rule", "x", "base"] "_law_divide_due" (defScope st__law_divide_due) f cdv A outer s H E).calm = true := rfl
  have hN : (cxD P w K mg base ["rule", "x", "base"] "_law_divide_due" (defScope st__law_divide_due) f cdv A outer s H E).N.Nodup := sc__law_divide_due.nd
  have tk := L2N.takes_of (X := cxD P w K mg base ["rule", "x", "base"] "_law_divide_due" (defScope st__law_divide_due) f cdv A outer s H E) (E := E) rfl rfl rfl rfl
  have po := passes_of (X := cxD P w K mg base ["rule", "x", "base"] "_law_divide_due" (defScope st__law_divide_due) f cdv A outer s H E) rfl
  exact (fss_cons (fs_if (ft_not (ft_val (fe_cl d__law_kd_is_rule (hr.mono (by decide)) hgd tk (fa_cons (fe_var 0) fa_nil)))) (fss_one (fs_ret (fe_tup (fa_cons fe_str (fa_cons (fe_var 0) fa_nil))))) fss_nil)
    (fss_cons (fs_if (ft_not (ft_val (fe_cl d__law_kd_is_whole (hr.mono (by decide)) hgd tk (fa_cons (fe_var 1) fa_nil)))) (fss_one (fs_ret (fe_tup (fa_cons fe_str (fa_cons (fe_var 1) fa_nil))))) fss_nil)
    (fss_cons (fs_if (ft_w (fw_or (ft_not (ft_val (fe_cl d__law_kd_is_whole (hr.mono (by decide)) hgd tk (fa_cons (fe_var 2) fa_nil)))) (fw_or1 (ft_cmp (of_eq hu) (fe_var 2) fe_int)))) (fss_one (fs_ret (fe_tup (fa_cons fe_str (fa_cons (fe_var 2) fa_nil))))) fss_nil)
    (fss_one (fs_ret (fe_tup (fa_cons fe_str (fa_cons (fe_cl d__law_kd_divide (hr.mono (by decide)) hgd tk (fa_cons (fe_var 0) (fa_cons (fe_var 1) (fa_cons (fe_var 2) fa_nil)))) fa_nil))))))))
abbrev st__law_kg_integer : Stmt := top 46
theorem sc__law_kg_integer : FnScope ["jar", "some"] ["jar"] (defScope st__law_kg_integer) := ⟨rfl, rfl, rfl, by decide +kernel, rfl, by decide +kernel, by decide +kernel⟩
theorem w__law_kg_integer (F : FnP K "_law_kg_integer" st__law_kg_integer f fd) (d__law_one : Kn P w K mg base 2 "_law_one" ["jar", "things"] g__law_one) (d__law_take : Kn P w K mg base 1 "_law_take" ["jar", "many"] g__law_take) : FnF P w K mg base 3 f fd ["jar"] g__law_kg_integer := by
  refine fnF_of (N := ["jar", "some"]) (k := 2) (ev := e__law_kg_integer) F sc__law_kg_integer fun cdv A outer s H E ρ hr hgd hcd => ?_
  have hu := hr.units
  have hu1 : _ + 1 < cLine := Nat.lt_of_le_of_lt (Nat.add_le_add_left (by decide) _) hu
  have hgd : (A.deeper (envOfC "_law_kg_integer" (defScope st__law_kg_integer) s.heap.objs.size f cdv)).guards = some [] := hgd
  have hcalm : (cxD P w K mg base ["jar", "some"] "_law_kg_integer" (defScope st__law_kg_integer) f cdv A outer s H E).calm = true := rfl
  have hN : (cxD P w K mg base ["jar", "some"] "_law_kg_integer" (defScope st__law_kg_integer) f cdv A outer s H E).N.Nodup := sc__law_kg_integer.nd
  have tk := L2N.takes_of (X := cxD P w K mg base ["jar", "some"] "_law_kg_integer" (defScope st__law_kg_integer) f cdv A outer s H E) (E := E) rfl rfl rfl rfl
  have po := passes_of (X := cxD P w K mg base ["jar", "some"] "_law_kg_integer" (defScope st__law_kg_integer) f cdv A outer s H E) rfl
  exact (fss_cons (fs_asg 1 (fe_lst (fa_cons fe_int (fa_cons fe_int (fa_cons (fe_neg fe_int) (fa_cons (fe_bin of_sub (fe_cl d__law_take (hr.mono (by decide)) hgd tk (fa_cons (fe_var 0) (fa_cons fe_int fa_nil))) fe_int) (fa_cons (fe_cl d__law_take (hr.mono (by decide)) hgd tk (fa_cons (fe_var 0) (fa_cons (fe_bin of_pow fe_int fe_int) fa_nil))) (fa_cons (fe_neg (fe_cl d__law_take (hr.mono (by decide)) hgd tk (fa_cons (fe_var 0) (fa_cons (fe_bin of_pow fe_int fe_int) fa_nil)))) (fa_cons (fe_bin of_sub (fe_bin of_pow fe_int fe_int) fe_int) fa_nil)))))))) hN)
    (fss_one (fs_ret (fe_cl d__law_one (hr.mono (by decide)) hgd tk (fa_cons (fe_var 0) (fa_cons (fe_bin of_add (fe_var 1) (fe_lst (fa_cons (fe_bin of_sub fe_int (fe_bin of_pow fe_int fe_int)) (fa_cons (fe_bin of_pow (fe_cl d__law_one (hr.mono (by decide)) hgd tk (fa_cons (fe_var 0) (fa_cons (fe_lst (fa_cons fe_int (fa_cons (fe_neg fe_int) (fa_cons fe_int (fa_cons fe_int fa_nil))))) fa_nil))) fe_int) fa_nil)))) fa_nil))))))
abbrev st__law_drawn_args : Stmt := top 54
theorem sc__law_drawn_args : FnScope ["jar", "odd", "rule", "base", "made", "one"] ["jar", "odd"] (defScope st__law_drawn_args) := ⟨rfl, rfl, rfl, by decide +kernel, rfl, by decide +kernel, by decide +kernel⟩
theorem w__law_drawn_args (F : FnP K "_law_drawn_args" st__law_drawn_args f fd) (d__law_any : Kn P w K mg base 3 "_law_any" ["jar"] g__law_any) (d__law_kd_rules : Kn P w K mg base 1 "_law_kd_rules" [] g__law_kd_rules) (d__law_kg_base : Kn P w K mg base 3 "_law_kg_base" ["jar"] g__law_kg_base) (d__law_kg_integer : Kn P w K mg base 3 "_law_kg_integer" ["jar"] g__law_kg_integer) (d__law_one : Kn P w K mg base 2 "_law_one" ["jar", "things"] g__law_one) (d__law_take : Kn P w K mg base 1 "_law_take" ["jar", "many"] g__law_take) : FnF P w K mg base 4 f fd ["jar", "odd"] g__law_drawn_args := by
  refine fnF_of (N := ["jar", "odd", "rule", "base", "made", "one"]) (k := 3) (ev := e__law_drawn_args) F sc__law_drawn_args fun cdv A outer s H E ρ hr hgd hcd => ?_
  have hu := hr.units
  have hu1 : _ + 1 < cLine := Nat.lt_of_le_of_lt (Nat.add_le_add_left (by decide) _) hu
  have hgd : (A.deeper (envOfC "_law_drawn_args" (defScope st__law_drawn_args) s.heap.objs.size f cdv)).guards = some [] := hgd
  have hcalm : (cxD P w K mg base ["jar", "odd", "rule", "base", "made", "one"] "_law_drawn_args" (defScope st__law_drawn_args) f cdv A outer s H E).calm = true := rfl
  have hN : (cxD P w K mg base ["jar", "odd", "rule", "base", "made", "one"] "_law_drawn_args" (defScope st__law_drawn_args) f cdv A outer s H E).N.Nodup := sc__law_drawn_args.nd
  have tk := L2N.takes_of (X := cxD P w K mg base ["jar", "odd", "rule", "base", "made", "one"] "_law_drawn_args" (defScope st__law_drawn_args) f cdv A outer s H E) (E := E) rfl rfl rfl rfl
  have po := passes_of (X := cxD P w K mg base ["jar", "odd", "rule", "base", "made", "one"] "_law_drawn_args" (defScope st__law_drawn_args) f cdv A outer s H E) rfl
  exact (fss_cons (fs_par (i := 2) (j := 3) hcalm hN (fa_cons (fe_cl d__law_one (hr.mono (by decide)) hgd tk (fa_cons (fe_var 0) (fa_cons (fe_cl0 d__law_kd_rules (hr.mono (by decide)) hgd tk) fa_nil))) (fa_cons (fe_cl d__law_kg_base (hr.mono (by decide)) hgd tk (fa_cons (fe_var 0) fa_nil)) fa_nil)))
    (fss_cons (fs_asg 4 (fe_lst (fa_cons (fe_var 2) (fa_cons (fe_cl d__law_kg_integer (hr.mono (by decide)) hgd tk (fa_cons (fe_var 0) fa_nil)) (fa_cons (fe_cl d__law_one (hr.mono (by decide)) hgd tk (fa_cons (fe_var 0) (fa_cons (fe_lst (fa_cons (fe_var 3) (fa_cons fe_int (fa_cons fe_int (fa_cons (fe_neg fe_int) (fa_cons fe_int (fa_cons (fe_neg fe_int) (fa_cons (fe_cl d__law_kg_integer (hr.mono (by decide)) hgd tk (fa_cons (fe_var 0) fa_nil)) fa_nil)))))))) fa_nil))) fa_nil)))) hN)
    (fss_one (fs_ret (fe_lc (own := [("one", 5)]) hcalm hN (fi_val (fe_var 4)) rfl (by decide) (fun s5 H5 C5 cl5 fp5 => (fg_nm 5 hN)) (fun s5 H5 C5 cl5 fp5 => fts_nil) (fun s5 H5 C5 cl5 fp5 => (fe_ifExp (ft_cmp (of_eq hu) (fe_cl d__law_take (hr.mono (by decide)) hgd takesN (fa_cons (fe_var 0) (fa_cons (fe_var 1) fa_nil))) fe_int) (fe_cl d__law_any (hr.mono (by decide)) hgd takesN (fa_cons (fe_var 0) fa_nil)) (fe_var 5))))))))
abbrev st__law_divides_right : Stmt := top 55
theorem sc__law_divides_right : FnScope ["jar", "odd", "base", "rule", "x"] ["jar"] (defScope st__law_divides_right) := ⟨rfl, rfl, rfl, by decide +kernel, rfl, by decide +kernel, by decide +kernel⟩
theorem w__law_divides_right (F : FnP K "_law_divides_right" st__law_divides_right f fd) (d__law_divide_due : Kn P w K mg base 3 "_law_divide_due" ["rule", "x", "base"] g__law_divide_due) (d__law_divided : Kn P w K mg base 7 "_law_divided" ["rule", "x", "base"] g__law_divided) (d__law_drawn_args : Kn P w K mg base 4 "_law_drawn_args" ["jar", "odd"] g__law_drawn_args) (d__law_kh_says : KnH P w K mg base (5 + 2) 5 "_law_kh_says" ["call", "due"] g__law_kh_says) (d1_divide : KnW P w K mg base 4 "divide" ["rule", "x", "base"] 0 ["base", "x", "rule"] [2, 1, 0] g_divide) (n_repr : mg "repr" = none) {c0 P0 : Addr} (hcode0 : fd.code = .ref c0) (hTB : LamX.TabB base mg c0 P0) (hT : (P0, lamQ (("_law_divides_right" : Str) ++ ".<locals>.")) ∈ LamT.T K) (hTu : ∀ q ∈ LamT.T K, q.1 = P0 → q.2 = lamQ (("_law_divides_right" : Str) ++ ".<locals>.")) : FnF P w K mg base 8 f fd ["jar"] g__law_divides_right := by
  refine fnF_of (N := ["jar", "odd", "base", "rule", "x"]) (k := 7) (ev := e__law_divides_right) F sc__law_divides_right fun cdv A outer s H E ρ hr hgd hcd => ?_
  have hu := hr.units
  have hu1 : _ + 1 < cLine := Nat.lt_of_le_of_lt (Nat.add_le_add_left (by decide) _) hu
  have hgd : (A.deeper (envOfC "_law_divides_right" (defScope st__law_divides_right) s.heap.objs.size f cdv)).guards = some [] := hgd
  have hcalm : (cxD P w K mg base ["jar", "odd", "base", "rule", "x"] "_law_divides_right" (defScope st__law_divides_right) f cdv A outer s H E).calm = true := rfl
  have hN : (cxD P w K mg base ["jar", "odd", "base", "rule", "x"] "_law_divides_right" (defScope st__law_divides_right) f cdv A outer s H E).N.Nodup := sc__law_divides_right.nd
  have tk := L2N.takes_of (X := cxD P w K mg base ["jar", "odd", "base", "rule", "x"] "_law_divides_right" (defScope st__law_divides_right) f cdv A outer s H E) (E := E) rfl rfl rfl rfl
  have po := passes_of (X := cxD P w K mg base ["jar", "odd", "base", "rule", "x"] "_law_divides_right" (defScope st__law_divides_right) f cdv A outer s H E) rfl
  have hcode : (cxD P w K mg base ["jar", "odd", "base", "rule", "x"] "_law_divides_right" (defScope st__law_divides_right) f cdv A outer s H E).env.code = .ref c0 := hcd.symm.trans hcode0
  exact (fss_cons (fs_for po hcalm (fi_val (fe_lst (fa_cons fe_int (fa_cons fe_int (fa_cons fe_int (fa_cons fe_int (fa_cons fe_int fa_nil))))))) (fg_nm 1 hN) (fss_cons (fs_asgT (fe_cl d__law_drawn_args (hr.mono (by decide)) hgd tk (fa_cons (fe_var 0) (fa_cons (fe_var 1) fa_nil))) (fg_tup hcalm (fgs_cons (fg_nm 3 hN) (fgs_cons (fg_nm 4 hN) (fgs_cons (fg_nm 2 hN) fgs_nil)))))
    (fss_cons (fs_if (ft_cmp (of_ne hu) (fe_callB (of_repr hgd hu) n_repr rfl (fa_cons (fe_cl d__law_divided (hr.mono (by decide)) hgd tk (fa_cons (fe_var 3) (fa_cons (fe_var 4) (fa_cons (fe_var 2) fa_nil)))) fa_nil)) (fe_callB (of_repr hgd hu) n_repr rfl (fa_cons (fe_cl d__law_divide_due (hr.mono (by decide)) hgd tk (fa_cons (fe_var 3) (fa_cons (fe_var 4) (fa_cons (fe_var 2) fa_nil)))) fa_nil))) (fss_one (fs_ret fe_bl)) fss_nil)
    (fss_one (fs_if (ft_not (ft_val (fe_lm_ d__law_kh_says (hr.mono (by decide)) hgd tk hTB hcode hT hTu (by kernel_rfl) (fun f2 c2 A2 o2 s2 H2 E2 ρ2 hrL hgdL => (fe_clW0 d1_divide (hrL.mono (by decide)) hgdL lam_takes (fk_cons (fe_var 2) (fk_cons (fe_var 4) (fk_cons (fe_var 3) fk_nil))))) (fa_cons (fe_cl d__law_divide_due (hr.mono (by decide)) hgd tk (fa_cons (fe_var 3) (fa_cons (fe_var 4) (fa_cons (fe_var 2) fa_nil)))) fa_nil)))) (fss_one (fs_ret fe_bl)) fss_nil)))))
    (fss_one (fs_ret fe_bl)))
abbrev st_rule_names : Stmt := top 27
theorem sc_rule_names : FnScope [] [] (defScope st_rule_names) := ⟨rfl, rfl, rfl, by decide +kernel, rfl, by decide +kernel, by decide +kernel⟩
theorem w_rule_names (F : FnP K "rule_names" st_rule_names f fd) (n_list : mg "list" = none) (q_RULES : KnV K mg "RULES" v_RULES) : FnF P w K mg base 1 f fd [] g_rule_names := by
  refine fnF_of (N := []) (k := 0) (ev := e_rule_names) F sc_rule_names fun cdv A outer s H E ρ hr hgd hcd => ?_
  have hu := hr.units
  have hu1 : _ + 1 < cLine := Nat.lt_of_le_of_lt (Nat.add_le_add_left (by decide) _) hu
  have hgd : (A.deeper (envOfC "rule_names" (defScope st_rule_names) s.heap.objs.size f cdv)).guards = some [] := hgd
  have hcalm : (cxD P w K mg base [] "rule_names" (defScope st_rule_names) f cdv A outer s H E).calm = true := rfl
  have hN : (cxD P w K mg base [] "rule_names" (defScope st_rule_names) f cdv A outer s H E).N.Nodup := sc_rule_names.nd
  have tk := L2N.takes_of (X := cxD P w K mg base [] "rule_names" (defScope st_rule_names) f cdv A outer s H E) (E := E) rfl rfl rfl rfl
  have po := passes_of (X := cxD P w K mg base [] "rule_names" (defScope st_rule_names) f cdv A outer s H E) rfl
  exact (fss_one (fs_ret (fe_callTy of_list n_list rfl (fa_cons (fe_glv q_RULES) fa_nil))))
abbrev st__law_names_right : Stmt := top 59
theorem sc__law_names_right : FnScope ["told"] [] (defScope st__law_names_right) := ⟨rfl, rfl, rfl, by decide +kernel, rfl, by decide +kernel, by decide +kernel⟩
theorem w__law_names_right (F : FnP K "_law_names_right" st__law_names_right f fd) (d__law_kd_rules : Kn P w K mg base 1 "_law_kd_rules" [] g__law_kd_rules) (d__law_kh_heard : KnH P w K mg base (2 + 1) 2 "_law_kh_heard" ["call"] g__law_kh_heard) (d__law_kh_says : KnH P w K mg base (2 + 2) 2 "_law_kh_says" ["call", "due"] g__law_kh_says) (d_rule_names : Kn P w K mg base 1 "rule_names" [] g_rule_names) (n_repr : mg "repr" = none) {c0 P0 : Addr} (hcode0 : fd.code = .ref c0) (hTB : LamX.TabB base mg c0 P0) (hT : (P0, lamQ (("_law_names_right" : Str) ++ ".<locals>.")) ∈ LamT.T K) (hTu : ∀ q ∈ LamT.T K, q.1 = P0 → q.2 = lamQ (("_law_names_right" : Str) ++ ".<locals>.")) : FnF P w K mg base 5 f fd [] g__law_names_right := by
  refine fnF_of (N := ["told"]) (k := 4) (ev := e__law_names_right) F sc__law_names_right fun cdv A outer s H E ρ hr hgd hcd => ?_
  have hu := hr.units
  have hu1 : _ + 1 < cLine := Nat.lt_of_le_of_lt (Nat.add_le_add_left (by decide) _) hu
  have hgd : (A.deeper (envOfC "_law_names_right" (defScope st__law_names_right) s.heap.objs.size f cdv)).guards = some [] := hgd
  have hcalm : (cxD P w K mg base ["told"] "_law_names_right" (defScope st__law_names_right) f cdv A outer s H E).calm = true := rfl
  have hN : (cxD P w K mg base ["told"] "_law_names_right" (defScope st__law_names_right) f cdv A outer s H E).N.Nodup := sc__law_names_right.nd
  have tk := L2N.takes_of (X := cxD P w K mg base ["told"] "_law_names_right" (defScope st__law_names_right) f cdv A outer s H E) (E := E) rfl rfl rfl rfl
  have po := passes_of (X := cxD P w K mg base ["told"] "_law_names_right" (defScope st__law_names_right) f cdv A outer s H E) rfl
  have hcode : (cxD P w K mg base ["told"] "_law_names_right" (defScope st__law_names_right) f cdv A outer s H E).env.code = .ref c0 := hcd.symm.trans hcode0
  exact (fss_cons (fs_asg 0 (fe_lm_ d__law_kh_heard (hr.mono (by decide)) hgd tk hTB hcode hT hTu (by kernel_rfl) (fun f2 c2 A2 o2 s2 H2 E2 ρ2 hrL hgdL => (fe_cl0 d_rule_names (hrL.mono (by decide)) hgdL lam_takes)) fa_nil) hN)
    (fss_cons (fs_if (ft_cmp (of_ne hu) (fe_callB (of_repr hgd hu) n_repr rfl (fa_cons (fe_var 0) fa_nil)) (fe_callB (of_repr hgd hu) n_repr rfl (fa_cons (fe_tup (fa_cons fe_str (fa_cons (fe_cl0 d__law_kd_rules (hr.mono (by decide)) hgd tk) fa_nil))) fa_nil))) (fss_one (fs_ret fe_bl)) fss_nil)
    (fss_cons (fs_expr (fe_lm0 PySem.F.plainAttrs_list PySem.F.slot_list_clear PySem.F.type_list_clear of_clear (fe_ix hu1 (fe_var 0) fe_int)))
    (fss_one (fs_ret (fe_lm_ d__law_kh_says (hr.mono (by decide)) hgd tk hTB hcode hT hTu (by kernel_rfl) (fun f2 c2 A2 o2 s2 H2 E2 ρ2 hrL hgdL => (fe_cl0 d_rule_names (hrL.mono (by decide)) hgdL lam_takes)) (fa_cons (fe_tup (fa_cons fe_str (fa_cons (fe_cl0 d__law_kd_rules (hr.mono (by decide)) hgd tk) fa_nil))) fa_nil)))))))
abbrev st__law_pool : Stmt := top 36
theorem sc__law_pool : FnScope ["script", "digits", "stirred", "at", "cell"] ["script"] (defScope st__law_pool) := ⟨rfl, rfl, rfl, by decide +kernel, rfl, by decide +kernel, by decide +kernel⟩
theorem w__law_pool (F : FnP K "_law_pool" st__law_pool f fd) (n_int : mg "int" = none) (n_len : mg "len" = none) (n_range : mg "range" = none) : FnF P w K mg base 1 f fd ["script"] g__law_pool := by
  refine fnF_of (N := ["script", "digits", "stirred", "at", "cell"]) (k := 0) (ev := e__law_pool) F sc__law_pool fun cdv A outer s H E ρ hr hgd hcd => ?_
  have hu := hr.units
  have hu1 : _ + 1 < cLine := Nat.lt_of_le_of_lt (Nat.add_le_add_left (by decide) _) hu
  have hgd : (A.deeper (envOfC "_law_pool" (defScope st__law_pool) s.heap.objs.size f cdv)).guards = some [] := hgd
  have hcalm : (cxD P w K mg base ["script", "digits", "stirred", "at", "cell"] "_law_pool" (defScope st__law_pool) f cdv A outer s H E).calm = true := rfl
  have hN : (cxD P w K mg base ["script", "digits", "stirred", "at", "cell"] "_law_pool" (defScope st__law_pool) f cdv A outer s H E).N.Nodup := sc__law_pool.nd
  have tk := L2N.takes_of (X := cxD P w K mg base ["script", "digits", "stirred", "at", "cell"] "_law_pool" (defScope st__law_pool) f cdv A outer s H E) (E := E) rfl rfl rfl rfl
  have po := passes_of (X := cxD P w K mg base ["script", "digits", "stirred", "at", "cell"] "_law_pool" (defScope st__law_pool) f cdv A outer s H E) rfl
  exact (fss_cons (fs_asgT (fe_tup (fa_cons fe_int (fa_cons fe_int fa_nil))) (fg_tup hcalm (fgs_cons (fg_nm 1 hN) (fgs_cons (fg_nm 2 hN) fgs_nil))))
    (fss_cons (fs_for po hcalm (fi_rng1 n_range (fa_cons (fe_callB of_len n_len rfl (fa_cons (fe_var 0) fa_nil)) fa_nil)) (fg_nm 3 hN) (fss_cons (fs_asg 4 (fe_ifExp (ft_cmp of_ge (fe_ix hu1 (fe_var 0) (fe_var 3)) fe_int) (fe_callTy of_int n_int rfl (fa_cons (fe_ix hu1 (fe_var 0) (fe_var 3)) fa_nil)) (fe_callTy of_int n_int rfl (fa_cons (fe_bin of_sub (fe_neg fe_int) (fe_ix hu1 (fe_var 0) (fe_var 3))) fa_nil))) hN)
    (fss_cons (fs_asg 2 (fe_bin of_mod (fe_callTy of_int n_int rfl (fa_cons (fe_bin of_add (fe_bin of_add (fe_bin of_mul (fe_var 2) fe_int) (fe_bin of_mod (fe_var 4) fe_int)) fe_int) fa_nil)) fe_int) hN)
    (fss_one (fs_asg 1 (fe_ifExp (ft_w (fw_and (ft_cmp of_ge (fe_var 4) (fe_bin of_pow fe_int fe_int)) (fw_and1 (ft_cmp of_lt (fe_var 1) (fe_bin of_pow fe_int fe_int))))) (fe_callTy of_int n_int rfl (fa_cons (fe_bin of_add (fe_bin of_mul (fe_var 1) (fe_bin of_pow fe_int fe_int)) (fe_bin of_mod (fe_var 4) (fe_bin of_pow fe_int fe_int))) fa_nil)) (fe_var 1)) hN)))))
    (fss_one (fs_ret (fe_lst (fa_cons (fe_var 1) (fa_cons (fe_var 2) (fa_cons fe_int fa_nil))))))))
abbrev st_law : Stmt := top 60
theorem sc_law : FnScope ["script", "jar", "go"] ["script"] (defScope st_law) := ⟨rfl, rfl, rfl, by decide +kernel, rfl, by decide +kernel, by decide +kernel⟩
theorem w_law (F : FnP K "law" st_law f fd) (d__law_all_right : Kn P w K mg base 8 "_law_all_right" [] g__law_all_right) (d__law_beside_right : Kn P w K mg base 8 "_law_beside_right" ["jar"] g__law_beside_right) (d__law_carries_right : Kn P w K mg base 8 "_law_carries_right" ["jar"] g__law_carries_right) (d__law_divides_right : Kn P w K mg base 8 "_law_divides_right" ["jar"] g__law_divides_right) (d__law_names_right : Kn P w K mg base 5 "_law_names_right" [] g__law_names_right) (d__law_pool : Kn P w K mg base 1 "_law_pool" ["script"] g__law_pool) (n_range : mg "range" = none) : FnF P w K mg base 9 f fd ["script"] g_law := by
  refine fnF_of (N := ["script", "jar", "go"]) (k := 8) (ev := e_law) F sc_law fun cdv A outer s H E ρ hr hgd hcd => ?_
  have hu := hr.units
  have hu1 : _ + 1 < cLine := Nat.lt_of_le_of_lt (Nat.add_le_add_left (by decide) _) hu
  have hgd : (A.deeper (envOfC "law" (defScope st_law) s.heap.objs.size f cdv)).guards = some [] := hgd
  have hcalm : (cxD P w K mg base ["script", "jar", "go"] "law" (defScope st_law) f cdv A outer s H E).calm = true := rfl
  have hN : (cxD P w K mg base ["script", "jar", "go"] "law" (defScope st_law) f cdv A outer s H E).N.Nodup := sc_law.nd
  have tk := L2N.takes_of (X := cxD P w K mg base ["script", "jar", "go"] "law" (defScope st_law) f cdv A outer s H E) (E := E) rfl rfl rfl rfl
  have po := passes_of (X := cxD P w K mg base ["script", "jar", "go"] "law" (defScope st_law) f cdv A outer s H E) rfl
  exact (fss_cons (fs_asg 1 (fe_cl d__law_pool (hr.mono (by decide)) hgd tk (fa_cons (fe_var 0) fa_nil)) hN)
    (fss_cons (fs_for po hcalm (fi_rng1 n_range (fa_cons fe_int fa_nil)) (fg_nm 2 hN) (fss_one (fs_if (ft_w (fw_or (ft_not (ft_val (fe_cl d__law_divides_right (hr.mono (by decide)) hgd tk (fa_cons (fe_var 1) fa_nil)))) (fw_or (ft_not (ft_val (fe_cl d__law_carries_right (hr.mono (by decide)) hgd tk (fa_cons (fe_var 1) fa_nil)))) (fw_or1 (ft_not (ft_val (fe_cl d__law_beside_right (hr.mono (by decide)) hgd tk (fa_cons (fe_var 1) fa_nil)))))))) (fss_one (fs_ret fe_bl)) fss_nil)))
    (fss_one (fs_ret (fe_and (fe_cl0 d__law_all_right (hr.mono (by decide)) hgd tk) (fe_one (fe_cl0 d__law_names_right (hr.mono (by decide)) hgd tk)))))))
end
end LW_k01
set_option maxRecDepth 100000
set_option maxHeartbeats 0
namespace LW_k01
open PySem PySem.Spec PyProof.Rows L2 FX
def dd (i : Nat) (x : Str) : He.DefD := ⟨(x, none), x, x, defArgs (top i), defBody (top i), defScope (top i), [], []⟩
def di (s : Stmt) (x : Str) : He.DefD := ⟨(x, some "__init__"), "__init__", x ++ ".__init__", defArgs s, defBody s, defScope s, [], []⟩
def fn : List He.DefD := [dd 47 "_law_kh_heard", dd 30 "is_greater", dd 24 "sign_of", dd 33 "carried", dd 20 "is_integer", dd 22 "is_base", dd 21 "is_between", dd 23 "is_sign", dd 28 "is_rule", dd 29 "require_rule", dd 34 "carry", dd 52 "_law_carried", dd 40 "_law_kd_divide", dd 41 "_law_kd_carry", dd 42 "_law_kd_is_whole", dd 44 "_law_kd_is_base", dd 39 "_law_kd_rules", dd 43 "_law_kd_is_rule", dd 53 "_law_carry_due", dd 31 "divided", dd 32 "divide", dd 50 "_law_divided", dd 58 "_law_all_right", dd 37 "_law_take", dd 38 "_law_one", dd 45 "_law_kg_base", dd 57 "_law_beside_right", dd 49 "_law_any", dd 48 "_law_kh_says", dd 56 "_law_carries_right", dd 51 "_law_divide_due", dd 46 "_law_kg_integer", dd 54 "_law_drawn_args", dd 55 "_law_divides_right", dd 27 "rule_names", dd 59 "_law_names_right", dd 36 "_law_pool", dd 60 "law", di ini_InvalidBase "InvalidBase", di ini_InvalidNumber "InvalidNumber", di ini_InvalidRule "InvalidRule", di ini_InvalidSign "InvalidSign"]
def fa : List He.Fa := [.glo "_law_kh_heard", .glo "is_greater", .glo "sign_of", .glo "carried", .glo "is_integer", .glo "is_base", .glo "is_between", .glo "is_sign", .glo "is_rule", .glo "require_rule", .glo "carry", .glo "_law_carried", .glo "_law_kd_divide", .glo "_law_kd_carry", .glo "_law_kd_is_whole", .glo "_law_kd_is_base", .glo "_law_kd_rules", .glo "_law_kd_is_rule", .glo "_law_carry_due", .glo "divided", .glo "divide", .glo "_law_divided", .glo "_law_all_right", .glo "_law_take", .glo "_law_one", .glo "_law_kg_base", .glo "_law_beside_right", .glo "_law_any", .glo "_law_kh_says", .glo "_law_carries_right", .glo "_law_divide_due", .glo "_law_kg_integer", .glo "_law_drawn_args", .glo "_law_divides_right", .glo "rule_names", .glo "_law_names_right", .glo "_law_pool", .glo "law", .glo "InvalidRule", .glo "InvalidNumber", .glo "InvalidBase", .glo "InvalidName", .glo "InvalidRegisters", .glo "InvalidModes", .glo "InvalidRow", .glo "InvalidEnds", .glo "InvalidResult", .glo "InvalidProgram", .glo "InvalidFigures", .glo "InvalidState", .glo "InvalidText", .glo "InvalidSign", .glo "UnknownName", .glo "Endless", .glo "DivisionByZero", .glo "LimitExceeded", .free "ValueError", .free "abs", .free "bool", .free "divmod", .free "int", .free "isinstance", .free "len", .free "list", .free "range", .free "repr", .free "str", .free "tuple"]
def tf : List He.Defn := [("_law_carried", none), ("_law_divided", none), ("_law_carries_right", none), ("_law_divides_right", none), ("_law_names_right", none)]
abbrev lamT : LamT := ⟨tabsOfDefs tf, xname⟩
def ex (K : PySem.W.Frag) : Bool :=
  letI := lamT
  apartB tf K && kVar "RULES" v_RULES K && xfsB LX K && xsuB LX LFl K && veB K && xclB "InvalidBase" 2 ["value"] K && xclB "InvalidNumber" 1 ["value"] K && xclB "InvalidRule" 0 ["value"] K && xclB "InvalidSign" 18 ["value"] K
def loose0 : List Str := ["RULES", "InvalidRule", "InvalidNumber", "InvalidBase", "InvalidName", "InvalidRegisters", "InvalidModes", "InvalidRow", "InvalidEnds", "InvalidResult", "InvalidProgram", "InvalidFigures", "InvalidState", "InvalidText", "InvalidSign", "UnknownName", "Endless", "DivisionByZero", "LimitExceeded", "is_integer", "is_between", "is_base", "is_sign", "sign_of", "rule_names", "is_rule", "require_rule", "is_greater", "divided", "divide"]
def loose1 : List Str := ["carried", "carry", "_law_pool", "_law_take", "_law_one", "_law_kd_rules", "_law_kd_divide", "_law_kd_carry", "_law_kd_is_whole", "_law_kd_is_rule", "_law_kd_is_base", "_law_kg_base", "_law_kg_integer", "_law_kh_heard", "_law_kh_says", "_law_any", "_law_divided", "_law_divide_due", "_law_carried", "_law_carry_due", "_law_drawn_args", "_law_divides_right", "_law_carries_right", "_law_beside_right", "_law_all_right", "_law_names_right"]
def loose : List Str := loose0 ++ loose1
abbrev R : PySem.W.OpenRow := PySem.W.OpenLaw.row PySem.Challenge.rw_stillwords_k01_division_refused_and_told
abbrev hk : PySem.W.Hook := He.hookX 5 fa fn [] tf ex
def ob (s : PySem.W.SharedT) : He.AlX := He.obsX 5 fa fn [] tf ex (HandSHeadRun.getT s)
theorem ob_eq (s : PySem.W.SharedT) : ob s = hk.obs s.abs := He.obsX_eq (HandSHeadRun.getT_eq s)
theorem run (w : World) : HandSHeadRun.RunEq R (PySem.W.view R.prog [60]) hk ob 20000 loose w := by
  intro os
  kernel_rfl
end LW_k01
set_option maxRecDepth 100000
set_option maxHeartbeats 0
namespace LW_k01
open PySem PySem.Spec PyProof.Rows L2 FX
theorem facts {P : Program} {w : World} {K : PySem.W.Frag} {h : Heap} {mg : Str → Option Value} {fa0 : Addr} (X : K.In h) (G : h.Ns mainGlobals mg) (hfa : mg ("law" : Str) = some (.ref fa0)) (c : He.SaysX fa fn [] tf ex w h K)
    (pure : ∀ ns : List Int, ns.length ≤ 63 → (∀ i ∈ ns, Builtin.Int.intBits i ≤ 1048576) → ∃ h', g_law [.ref 0] [.ro (ns.map FV.int)] = .ok (.bl true) h') : @LawF lamT P w K 9 63 "script" mg fa0 h := by
  letI := lamT
  have cd : He.SaysD fa fn K := c.t.d
  have more := c.more
  unfold ex at more
  have ⟨more8, xb_InvalidSign⟩ := (Bool.and_eq_true _ _).mp more
  have ⟨more7, xb_InvalidRule⟩ := (Bool.and_eq_true _ _).mp more8
  have ⟨more6, xb_InvalidNumber⟩ := (Bool.and_eq_true _ _).mp more7
  have ⟨more5, xb_InvalidBase⟩ := (Bool.and_eq_true _ _).mp more6
  have ⟨more4, ve_⟩ := (Bool.and_eq_true _ _).mp more5
  have ⟨more3, u0_⟩ := (Bool.and_eq_true _ _).mp more4
  have ⟨more2, F0_⟩ := (Bool.and_eq_true _ _).mp more3
  have ⟨more1, m_RULES⟩ := (Bool.and_eq_true _ _).mp more2
  have apart : apartB tf K = true := more1
  have q_RULES : KnV K mg "RULES" v_RULES := knV_of X G m_RULES
  have F_ : XFs K LX := xfsB_ok F0_
  have u_ : XSu K LX LFl := xsuB_ok u0_
  obtain ⟨fd0, F0⟩ := cd.def_ 0 (d := dd 47 "_law_kh_heard") rfl
  have m0 : mg "_law_kh_heard" = some (.ref (He.fAd K ("_law_kh_heard", none))) := He.glo_ok X G (cd.fact 0 (f := .glo "_law_kh_heard") rfl)
  obtain ⟨fd1, F1⟩ := cd.def_ 1 (d := dd 30 "is_greater") rfl
  have m1 : mg "is_greater" = some (.ref (He.fAd K ("is_greater", none))) := He.glo_ok X G (cd.fact 1 (f := .glo "is_greater") rfl)
  obtain ⟨fd2, F2⟩ := cd.def_ 2 (d := dd 24 "sign_of") rfl
  have m2 : mg "sign_of" = some (.ref (He.fAd K ("sign_of", none))) := He.glo_ok X G (cd.fact 2 (f := .glo "sign_of") rfl)
  obtain ⟨fd3, F3⟩ := cd.def_ 3 (d := dd 33 "carried") rfl
  have m3 : mg "carried" = some (.ref (He.fAd K ("carried", none))) := He.glo_ok X G (cd.fact 3 (f := .glo "carried") rfl)
  obtain ⟨fd4, F4⟩ := cd.def_ 4 (d := dd 20 "is_integer") rfl
  have m4 : mg "is_integer" = some (.ref (He.fAd K ("is_integer", none))) := He.glo_ok X G (cd.fact 4 (f := .glo "is_integer") rfl)
  obtain ⟨fd5, F5⟩ := cd.def_ 5 (d := dd 22 "is_base") rfl
  have m5 : mg "is_base" = some (.ref (He.fAd K ("is_base", none))) := He.glo_ok X G (cd.fact 5 (f := .glo "is_base") rfl)
  obtain ⟨fd6, F6⟩ := cd.def_ 6 (d := dd 21 "is_between") rfl
  have m6 : mg "is_between" = some (.ref (He.fAd K ("is_between", none))) := He.glo_ok X G (cd.fact 6 (f := .glo "is_between") rfl)
  obtain ⟨fd7, F7⟩ := cd.def_ 7 (d := dd 23 "is_sign") rfl
  have m7 : mg "is_sign" = some (.ref (He.fAd K ("is_sign", none))) := He.glo_ok X G (cd.fact 7 (f := .glo "is_sign") rfl)
  obtain ⟨fd8, F8⟩ := cd.def_ 8 (d := dd 28 "is_rule") rfl
  have m8 : mg "is_rule" = some (.ref (He.fAd K ("is_rule", none))) := He.glo_ok X G (cd.fact 8 (f := .glo "is_rule") rfl)
  obtain ⟨fd9, F9⟩ := cd.def_ 9 (d := dd 29 "require_rule") rfl
  have m9 : mg "require_rule" = some (.ref (He.fAd K ("require_rule", none))) := He.glo_ok X G (cd.fact 9 (f := .glo "require_rule") rfl)
  obtain ⟨fd10, F10⟩ := cd.def_ 10 (d := dd 34 "carry") rfl
  have m10 : mg "carry" = some (.ref (He.fAd K ("carry", none))) := He.glo_ok X G (cd.fact 10 (f := .glo "carry") rfl)
  obtain ⟨fd11, F11⟩ := cd.def_ 11 (d := dd 52 "_law_carried") rfl
  have m11 : mg "_law_carried" = some (.ref (He.fAd K ("_law_carried", none))) := He.glo_ok X G (cd.fact 11 (f := .glo "_law_carried") rfl)
  obtain ⟨fd12, F12⟩ := cd.def_ 12 (d := dd 40 "_law_kd_divide") rfl
  have m12 : mg "_law_kd_divide" = some (.ref (He.fAd K ("_law_kd_divide", none))) := He.glo_ok X G (cd.fact 12 (f := .glo "_law_kd_divide") rfl)
  obtain ⟨fd13, F13⟩ := cd.def_ 13 (d := dd 41 "_law_kd_carry") rfl
  have m13 : mg "_law_kd_carry" = some (.ref (He.fAd K ("_law_kd_carry", none))) := He.glo_ok X G (cd.fact 13 (f := .glo "_law_kd_carry") rfl)
  obtain ⟨fd14, F14⟩ := cd.def_ 14 (d := dd 42 "_law_kd_is_whole") rfl
  have m14 : mg "_law_kd_is_whole" = some (.ref (He.fAd K ("_law_kd_is_whole", none))) := He.glo_ok X G (cd.fact 14 (f := .glo "_law_kd_is_whole") rfl)
  obtain ⟨fd15, F15⟩ := cd.def_ 15 (d := dd 44 "_law_kd_is_base") rfl
  have m15 : mg "_law_kd_is_base" = some (.ref (He.fAd K ("_law_kd_is_base", none))) := He.glo_ok X G (cd.fact 15 (f := .glo "_law_kd_is_base") rfl)
  obtain ⟨fd16, F16⟩ := cd.def_ 16 (d := dd 39 "_law_kd_rules") rfl
  have m16 : mg "_law_kd_rules" = some (.ref (He.fAd K ("_law_kd_rules", none))) := He.glo_ok X G (cd.fact 16 (f := .glo "_law_kd_rules") rfl)
  obtain ⟨fd17, F17⟩ := cd.def_ 17 (d := dd 43 "_law_kd_is_rule") rfl
  have m17 : mg "_law_kd_is_rule" = some (.ref (He.fAd K ("_law_kd_is_rule", none))) := He.glo_ok X G (cd.fact 17 (f := .glo "_law_kd_is_rule") rfl)
  obtain ⟨fd18, F18⟩ := cd.def_ 18 (d := dd 53 "_law_carry_due") rfl
  have m18 : mg "_law_carry_due" = some (.ref (He.fAd K ("_law_carry_due", none))) := He.glo_ok X G (cd.fact 18 (f := .glo "_law_carry_due") rfl)
  obtain ⟨fd19, F19⟩ := cd.def_ 19 (d := dd 31 "divided") rfl
  have m19 : mg "divided" = some (.ref (He.fAd K ("divided", none))) := He.glo_ok X G (cd.fact 19 (f := .glo "divided") rfl)
  obtain ⟨fd20, F20⟩ := cd.def_ 20 (d := dd 32 "divide") rfl
  have m20 : mg "divide" = some (.ref (He.fAd K ("divide", none))) := He.glo_ok X G (cd.fact 20 (f := .glo "divide") rfl)
  obtain ⟨fd21, F21⟩ := cd.def_ 21 (d := dd 50 "_law_divided") rfl
  have m21 : mg "_law_divided" = some (.ref (He.fAd K ("_law_divided", none))) := He.glo_ok X G (cd.fact 21 (f := .glo "_law_divided") rfl)
  obtain ⟨fd22, F22⟩ := cd.def_ 22 (d := dd 58 "_law_all_right") rfl
  have m22 : mg "_law_all_right" = some (.ref (He.fAd K ("_law_all_right", none))) := He.glo_ok X G (cd.fact 22 (f := .glo "_law_all_right") rfl)
  obtain ⟨fd23, F23⟩ := cd.def_ 23 (d := dd 37 "_law_take") rfl
  have m23 : mg "_law_take" = some (.ref (He.fAd K ("_law_take", none))) := He.glo_ok X G (cd.fact 23 (f := .glo "_law_take") rfl)
  obtain ⟨fd24, F24⟩ := cd.def_ 24 (d := dd 38 "_law_one") rfl
  have m24 : mg "_law_one" = some (.ref (He.fAd K ("_law_one", none))) := He.glo_ok X G (cd.fact 24 (f := .glo "_law_one") rfl)
  obtain ⟨fd25, F25⟩ := cd.def_ 25 (d := dd 45 "_law_kg_base") rfl
  have m25 : mg "_law_kg_base" = some (.ref (He.fAd K ("_law_kg_base", none))) := He.glo_ok X G (cd.fact 25 (f := .glo "_law_kg_base") rfl)
  obtain ⟨fd26, F26⟩ := cd.def_ 26 (d := dd 57 "_law_beside_right") rfl
  have m26 : mg "_law_beside_right" = some (.ref (He.fAd K ("_law_beside_right", none))) := He.glo_ok X G (cd.fact 26 (f := .glo "_law_beside_right") rfl)
  obtain ⟨fd27, F27⟩ := cd.def_ 27 (d := dd 49 "_law_any") rfl
  have m27 : mg "_law_any" = some (.ref (He.fAd K ("_law_any", none))) := He.glo_ok X G (cd.fact 27 (f := .glo "_law_any") rfl)
  obtain ⟨fd28, F28⟩ := cd.def_ 28 (d := dd 48 "_law_kh_says") rfl
  have m28 : mg "_law_kh_says" = some (.ref (He.fAd K ("_law_kh_says", none))) := He.glo_ok X G (cd.fact 28 (f := .glo "_law_kh_says") rfl)
  obtain ⟨fd29, F29⟩ := cd.def_ 29 (d := dd 56 "_law_carries_right") rfl
  have m29 : mg "_law_carries_right" = some (.ref (He.fAd K ("_law_carries_right", none))) := He.glo_ok X G (cd.fact 29 (f := .glo "_law_carries_right") rfl)
  obtain ⟨fd30, F30⟩ := cd.def_ 30 (d := dd 51 "_law_divide_due") rfl
  have m30 : mg "_law_divide_due" = some (.ref (He.fAd K ("_law_divide_due", none))) := He.glo_ok X G (cd.fact 30 (f := .glo "_law_divide_due") rfl)
  obtain ⟨fd31, F31⟩ := cd.def_ 31 (d := dd 46 "_law_kg_integer") rfl
  have m31 : mg "_law_kg_integer" = some (.ref (He.fAd K ("_law_kg_integer", none))) := He.glo_ok X G (cd.fact 31 (f := .glo "_law_kg_integer") rfl)
  obtain ⟨fd32, F32⟩ := cd.def_ 32 (d := dd 54 "_law_drawn_args") rfl
  have m32 : mg "_law_drawn_args" = some (.ref (He.fAd K ("_law_drawn_args", none))) := He.glo_ok X G (cd.fact 32 (f := .glo "_law_drawn_args") rfl)
  obtain ⟨fd33, F33⟩ := cd.def_ 33 (d := dd 55 "_law_divides_right") rfl
  have m33 : mg "_law_divides_right" = some (.ref (He.fAd K ("_law_divides_right", none))) := He.glo_ok X G (cd.fact 33 (f := .glo "_law_divides_right") rfl)
  obtain ⟨fd34, F34⟩ := cd.def_ 34 (d := dd 27 "rule_names") rfl
  have m34 : mg "rule_names" = some (.ref (He.fAd K ("rule_names", none))) := He.glo_ok X G (cd.fact 34 (f := .glo "rule_names") rfl)
  obtain ⟨fd35, F35⟩ := cd.def_ 35 (d := dd 59 "_law_names_right") rfl
  have m35 : mg "_law_names_right" = some (.ref (He.fAd K ("_law_names_right", none))) := He.glo_ok X G (cd.fact 35 (f := .glo "_law_names_right") rfl)
  obtain ⟨fd36, F36⟩ := cd.def_ 36 (d := dd 36 "_law_pool") rfl
  have m36 : mg "_law_pool" = some (.ref (He.fAd K ("_law_pool", none))) := He.glo_ok X G (cd.fact 36 (f := .glo "_law_pool") rfl)
  obtain ⟨fd37, F37⟩ := cd.def_ 37 (d := dd 60 "law") rfl
  have m37 : mg "law" = some (.ref (He.fAd K ("law", none))) := He.glo_ok X G (cd.fact 37 (f := .glo "law") rfl)
  have k_InvalidRule : mg "InvalidRule" = some (.ref (xA K 0)) := He.glo_ok X G (cd.fact 38 (f := .glo "InvalidRule") rfl)
  have k_InvalidNumber : mg "InvalidNumber" = some (.ref (xA K 1)) := He.glo_ok X G (cd.fact 39 (f := .glo "InvalidNumber") rfl)
  have k_InvalidBase : mg "InvalidBase" = some (.ref (xA K 2)) := He.glo_ok X G (cd.fact 40 (f := .glo "InvalidBase") rfl)
  have k_InvalidName : mg "InvalidName" = some (.ref (xA K 3)) := He.glo_ok X G (cd.fact 41 (f := .glo "InvalidName") rfl)
  have k_InvalidRegisters : mg "InvalidRegisters" = some (.ref (xA K 4)) := He.glo_ok X G (cd.fact 42 (f := .glo "InvalidRegisters") rfl)
  have k_InvalidModes : mg "InvalidModes" = some (.ref (xA K 5)) := He.glo_ok X G (cd.fact 43 (f := .glo "InvalidModes") rfl)
  have k_InvalidRow : mg "InvalidRow" = some (.ref (xA K 6)) := He.glo_ok X G (cd.fact 44 (f := .glo "InvalidRow") rfl)
  have k_InvalidEnds : mg "InvalidEnds" = some (.ref (xA K 7)) := He.glo_ok X G (cd.fact 45 (f := .glo "InvalidEnds") rfl)
  have k_InvalidResult : mg "InvalidResult" = some (.ref (xA K 8)) := He.glo_ok X G (cd.fact 46 (f := .glo "InvalidResult") rfl)
  have k_InvalidProgram : mg "InvalidProgram" = some (.ref (xA K 9)) := He.glo_ok X G (cd.fact 47 (f := .glo "InvalidProgram") rfl)
  have k_InvalidFigures : mg "InvalidFigures" = some (.ref (xA K 10)) := He.glo_ok X G (cd.fact 48 (f := .glo "InvalidFigures") rfl)
  have k_InvalidState : mg "InvalidState" = some (.ref (xA K 11)) := He.glo_ok X G (cd.fact 49 (f := .glo "InvalidState") rfl)
  have k_InvalidText : mg "InvalidText" = some (.ref (xA K 12)) := He.glo_ok X G (cd.fact 50 (f := .glo "InvalidText") rfl)
  have k_InvalidSign : mg "InvalidSign" = some (.ref (xA K 18)) := He.glo_ok X G (cd.fact 51 (f := .glo "InvalidSign") rfl)
  have k_UnknownName : mg "UnknownName" = some (.ref (xA K 20)) := He.glo_ok X G (cd.fact 52 (f := .glo "UnknownName") rfl)
  have k_Endless : mg "Endless" = some (.ref (xA K 21)) := He.glo_ok X G (cd.fact 53 (f := .glo "Endless") rfl)
  have k_DivisionByZero : mg "DivisionByZero" = some (.ref (xA K 22)) := He.glo_ok X G (cd.fact 54 (f := .glo "DivisionByZero") rfl)
  have k_LimitExceeded : mg "LimitExceeded" = some (.ref (xA K 30)) := He.glo_ok X G (cd.fact 55 (f := .glo "LimitExceeded") rfl)
  have n_ValueError : mg "ValueError" = none := He.free_ok X G (cd.fact 56 (f := .free "ValueError") rfl)
  have n_abs : mg "abs" = none := He.free_ok X G (cd.fact 57 (f := .free "abs") rfl)
  have n_bool : mg "bool" = none := He.free_ok X G (cd.fact 58 (f := .free "bool") rfl)
  have n_divmod : mg "divmod" = none := He.free_ok X G (cd.fact 59 (f := .free "divmod") rfl)
  have n_int : mg "int" = none := He.free_ok X G (cd.fact 60 (f := .free "int") rfl)
  have n_isinstance : mg "isinstance" = none := He.free_ok X G (cd.fact 61 (f := .free "isinstance") rfl)
  have n_len : mg "len" = none := He.free_ok X G (cd.fact 62 (f := .free "len") rfl)
  have n_list : mg "list" = none := He.free_ok X G (cd.fact 63 (f := .free "list") rfl)
  have n_range : mg "range" = none := He.free_ok X G (cd.fact 64 (f := .free "range") rfl)
  have n_repr : mg "repr" = none := He.free_ok X G (cd.fact 65 (f := .free "repr") rfl)
  have n_str : mg "str" = none := He.free_ok X G (cd.fact 66 (f := .free "str") rfl)
  have n_tuple : mg "tuple" = none := He.free_ok X G (cd.fact 67 (f := .free "tuple") rfl)
  have e := hfa.symm.trans m37
  cases e
  have bl := FunD.bindsA (ps := ["script"]) F37 fun _ _ _ _ _ _ us hl => match us, hl with | [_], _ => rfl
  refine law_of_says (fd := fd37) (g := g_law) X c rfl (fun s u => bl s [u] rfl) pure fun base inB nsB tB => ?_
  obtain ⟨fi0, I0⟩ := cd.def_ 38 (d := di ini_InvalidBase "InvalidBase") rfl
  have x_InvalidBase : XCl P w K mg base 1 "InvalidBase" 2 ["value"] := xcl_of xb_InvalidBase k_InvalidBase (i_InvalidBase I0 (xcl_oex xb_InvalidBase) (xcl_no xb_InvalidBase (by decide)) (veB_ok ve_) n_ValueError) (I0.bindsN fun _ _ _ _ _ _ us hl => match us, hl with | [_, _], _ => rfl) rfl
  obtain ⟨fi1, I1⟩ := cd.def_ 39 (d := di ini_InvalidNumber "InvalidNumber") rfl
  have x_InvalidNumber : XCl P w K mg base 1 "InvalidNumber" 1 ["value"] := xcl_of xb_InvalidNumber k_InvalidNumber (i_InvalidNumber I1 (xcl_oex xb_InvalidNumber) (xcl_no xb_InvalidNumber (by decide)) (veB_ok ve_) n_ValueError) (I1.bindsN fun _ _ _ _ _ _ us hl => match us, hl with | [_, _], _ => rfl) rfl
  obtain ⟨fi2, I2⟩ := cd.def_ 40 (d := di ini_InvalidRule "InvalidRule") rfl
  have x_InvalidRule : XCl P w K mg base 1 "InvalidRule" 0 ["value"] := xcl_of xb_InvalidRule k_InvalidRule (i_InvalidRule I2 (xcl_oex xb_InvalidRule) (xcl_no xb_InvalidRule (by decide)) (veB_ok ve_) n_ValueError) (I2.bindsN fun _ _ _ _ _ _ us hl => match us, hl with | [_, _], _ => rfl) rfl
  obtain ⟨fi3, I3⟩ := cd.def_ 41 (d := di ini_InvalidSign "InvalidSign") rfl
  have x_InvalidSign : XCl P w K mg base 1 "InvalidSign" 18 ["value"] := xcl_of xb_InvalidSign k_InvalidSign (i_InvalidSign I3 (xcl_oex xb_InvalidSign) (xcl_no xb_InvalidSign (by decide)) (veB_ok ve_) n_ValueError) (I3.bindsN fun _ _ _ _ _ _ us hl => match us, hl with | [_, _], _ => rfl) rfl
  have D__law_kh_heard_2 : KnH P w K mg base (2 + 1) 2 "_law_kh_heard" ["call"] g__law_kh_heard := ⟨_, _, m0, F0.kp, F0.bindsN fun _ _ _ _ _ _ us hl => match us, hl with | [_], _ => rfl, w__law_kh_heard 2 F0 n_isinstance k_InvalidRule k_InvalidNumber k_InvalidBase k_InvalidName k_InvalidRegisters k_InvalidModes k_InvalidRow k_InvalidEnds k_InvalidResult k_InvalidProgram k_InvalidFigures k_InvalidState k_InvalidText k_InvalidSign k_UnknownName k_Endless k_DivisionByZero k_LimitExceeded F_ u_⟩
  have D__law_kh_heard_5 : KnH P w K mg base (5 + 1) 5 "_law_kh_heard" ["call"] g__law_kh_heard := ⟨_, _, m0, F0.kp, F0.bindsN fun _ _ _ _ _ _ us hl => match us, hl with | [_], _ => rfl, w__law_kh_heard 5 F0 n_isinstance k_InvalidRule k_InvalidNumber k_InvalidBase k_InvalidName k_InvalidRegisters k_InvalidModes k_InvalidRow k_InvalidEnds k_InvalidResult k_InvalidProgram k_InvalidFigures k_InvalidState k_InvalidText k_InvalidSign k_UnknownName k_Endless k_DivisionByZero k_LimitExceeded F_ u_⟩
  have D_is_greater : Kn P w K mg base 1 "is_greater" ["rule", "sign", "divisor_sign", "part", "size"] g_is_greater := ⟨_, _, m1, F1.kp, F1.bindsN fun _ _ _ _ _ _ us hl => match us, hl with | [_, _, _, _, _], _ => rfl, w_is_greater F1⟩
  have D_sign_of : Kn P w K mg base 1 "sign_of" ["number"] g_sign_of := ⟨_, _, m2, F2.kp, F2.bindsN fun _ _ _ _ _ _ us hl => match us, hl with | [_], _ => rfl, w_sign_of F2 n_int⟩
  have D_carried : Kn P w K mg base 2 "carried" ["rule", "sign", "base", "figure"] g_carried := ⟨_, _, m3, F3.kp, F3.bindsN fun _ _ _ _ _ _ us hl => match us, hl with | [_, _, _, _], _ => rfl, w_carried F3 D_is_greater D_sign_of n_abs⟩
  have D_is_integer : Kn P w K mg base 1 "is_integer" ["value"] g_is_integer := ⟨_, _, m4, F4.kp, F4.bindsN fun _ _ _ _ _ _ us hl => match us, hl with | [_], _ => rfl, w_is_integer F4 n_bool n_int n_isinstance⟩
  have D_is_base : Kn P w K mg base 2 "is_base" ["value"] g_is_base := ⟨_, _, m5, F5.kp, F5.bindsN fun _ _ _ _ _ _ us hl => match us, hl with | [_], _ => rfl, w_is_base F5 D_is_integer n_abs⟩
  have D_is_between : Kn P w K mg base 2 "is_between" ["value", "least", "greatest"] g_is_between := ⟨_, _, m6, F6.kp, F6.bindsN fun _ _ _ _ _ _ us hl => match us, hl with | [_, _, _], _ => rfl, w_is_between F6 D_is_integer⟩
  have D_is_sign : Kn P w K mg base 2 "is_sign" ["value"] g_is_sign := ⟨_, _, m7, F7.kp, F7.bindsN fun _ _ _ _ _ _ us hl => match us, hl with | [_], _ => rfl, w_is_sign F7 D_is_integer⟩
  have D_is_rule : Kn P w K mg base 1 "is_rule" ["value"] g_is_rule := ⟨_, _, m8, F8.kp, F8.bindsN fun _ _ _ _ _ _ us hl => match us, hl with | [_], _ => rfl, w_is_rule F8 n_isinstance n_str q_RULES⟩
  have D_require_rule : Kn P w K mg base 3 "require_rule" ["value"] g_require_rule := ⟨_, _, m9, F9.kp, F9.bindsN fun _ _ _ _ _ _ us hl => match us, hl with | [_], _ => rfl, w_require_rule F9 D_is_rule x_InvalidRule⟩
  have D_carry : Kn P w K mg base 4 "carry" ["rule", "sign", "base", "figure"] g_carry := ⟨_, _, m10, F10.kp, F10.bindsN fun _ _ _ _ _ _ us hl => match us, hl with | [_, _, _, _], _ => rfl, w_carry F10 D_carried D_is_base D_is_between D_is_sign D_require_rule n_abs x_InvalidBase x_InvalidNumber x_InvalidSign⟩
  have D0_carry : KnW P w K mg base 4 "carry" ["rule", "sign", "base", "figure"] 0 ["figure", "base", "rule", "sign"] [2, 3, 1, 0] g_carry := ⟨_, _, m10, F10.kp, FunD.bindsW F10 fun _ _ _ _ _ _ us ws a b => match us, ws, a, b with | [], [_, _, _, _], _, _ => rfl, w_carry F10 D_carried D_is_base D_is_between D_is_sign D_require_rule n_abs x_InvalidBase x_InvalidNumber x_InvalidSign⟩
  have D__law_carried : Kn P w K mg base 7 "_law_carried" ["rule", "sign", "base", "figure"] g__law_carried := ⟨_, _, m11, F11.kp, F11.bindsN fun _ _ _ _ _ _ us hl => match us, hl with | [_, _, _, _], _ => rfl, w__law_carried F11 D__law_kh_heard_5 D_carry (code_of_def (p := ("_law_carried", none)) F11) (tB _ (by decide)) (tabs_mem (by decide)) (tabs_one apart (by decide))⟩
  have D__law_kd_divide : Kn P w K mg base 1 "_law_kd_divide" ["rule", "x", "base"] g__law_kd_divide := ⟨_, _, m12, F12.kp, F12.bindsN fun _ _ _ _ _ _ us hl => match us, hl with | [_, _, _], _ => rfl, w__law_kd_divide F12 n_abs⟩
  have D__law_kd_carry : Kn P w K mg base 2 "_law_kd_carry" ["rule", "sign", "base", "figure"] g__law_kd_carry := ⟨_, _, m13, F13.kp, F13.bindsN fun _ _ _ _ _ _ us hl => match us, hl with | [_, _, _, _], _ => rfl, w__law_kd_carry F13 D__law_kd_divide n_abs⟩
  have D__law_kd_is_whole : Kn P w K mg base 1 "_law_kd_is_whole" ["thing"] g__law_kd_is_whole := ⟨_, _, m14, F14.kp, F14.bindsN fun _ _ _ _ _ _ us hl => match us, hl with | [_], _ => rfl, w__law_kd_is_whole F14 n_bool n_int n_isinstance⟩
  have D__law_kd_is_base : Kn P w K mg base 2 "_law_kd_is_base" ["thing"] g__law_kd_is_base := ⟨_, _, m15, F15.kp, F15.bindsN fun _ _ _ _ _ _ us hl => match us, hl with | [_], _ => rfl, w__law_kd_is_base F15 D__law_kd_is_whole n_abs⟩
  have D__law_kd_rules : Kn P w K mg base 1 "_law_kd_rules" [] g__law_kd_rules := ⟨_, _, m16, F16.kp, F16.bindsN fun _ _ _ _ _ _ us hl => match us, hl with | [], _ => rfl, w__law_kd_rules F16⟩
  have D__law_kd_is_rule : Kn P w K mg base 2 "_law_kd_is_rule" ["thing"] g__law_kd_is_rule := ⟨_, _, m17, F17.kp, F17.bindsN fun _ _ _ _ _ _ us hl => match us, hl with | [_], _ => rfl, w__law_kd_is_rule F17 D__law_kd_rules n_isinstance n_str⟩
  have D__law_carry_due : Kn P w K mg base 3 "_law_carry_due" ["rule", "sign", "base", "figure"] g__law_carry_due := ⟨_, _, m18, F18.kp, F18.bindsN fun _ _ _ _ _ _ us hl => match us, hl with | [_, _, _, _], _ => rfl, w__law_carry_due F18 D__law_kd_carry D__law_kd_is_base D__law_kd_is_rule D__law_kd_is_whole n_abs⟩
  have D_divided : Kn P w K mg base 2 "divided" ["rule", "x", "divisor"] g_divided := ⟨_, _, m19, F19.kp, F19.bindsN fun _ _ _ _ _ _ us hl => match us, hl with | [_, _, _], _ => rfl, w_divided F19 D_is_greater D_sign_of n_abs n_divmod⟩
  have D_divide : Kn P w K mg base 4 "divide" ["rule", "x", "base"] g_divide := ⟨_, _, m20, F20.kp, F20.bindsN fun _ _ _ _ _ _ us hl => match us, hl with | [_, _, _], _ => rfl, w_divide F20 D_divided D_is_integer D_require_rule x_InvalidBase x_InvalidNumber⟩
  have D1_divide : KnW P w K mg base 4 "divide" ["rule", "x", "base"] 0 ["base", "x", "rule"] [2, 1, 0] g_divide := ⟨_, _, m20, F20.kp, FunD.bindsW F20 fun _ _ _ _ _ _ us ws a b => match us, ws, a, b with | [], [_, _, _], _, _ => rfl, w_divide F20 D_divided D_is_integer D_require_rule x_InvalidBase x_InvalidNumber⟩
  have D__law_divided : Kn P w K mg base 7 "_law_divided" ["rule", "x", "base"] g__law_divided := ⟨_, _, m21, F21.kp, F21.bindsN fun _ _ _ _ _ _ us hl => match us, hl with | [_, _, _], _ => rfl, w__law_divided F21 D__law_kh_heard_5 D_divide (code_of_def (p := ("_law_divided", none)) F21) (tB _ (by decide)) (tabs_mem (by decide)) (tabs_one apart (by decide))⟩
  have D__law_all_right : Kn P w K mg base 8 "_law_all_right" [] g__law_all_right := ⟨_, _, m22, F22.kp, F22.bindsN fun _ _ _ _ _ _ us hl => match us, hl with | [], _ => rfl, w__law_all_right F22 D__law_carried D__law_carry_due D__law_divided D__law_kd_rules n_range n_repr⟩
  have D__law_take : Kn P w K mg base 1 "_law_take" ["jar", "many"] g__law_take := ⟨_, _, m23, F23.kp, F23.bindsN fun _ _ _ _ _ _ us hl => match us, hl with | [_, _], _ => rfl, w__law_take F23 n_int⟩
  have D__law_one : Kn P w K mg base 2 "_law_one" ["jar", "things"] g__law_one := ⟨_, _, m24, F24.kp, F24.bindsN fun _ _ _ _ _ _ us hl => match us, hl with | [_, _], _ => rfl, w__law_one F24 D__law_take n_len⟩
  have D__law_kg_base : Kn P w K mg base 3 "_law_kg_base" ["jar"] g__law_kg_base := ⟨_, _, m25, F25.kp, F25.bindsN fun _ _ _ _ _ _ us hl => match us, hl with | [_], _ => rfl, w__law_kg_base F25 D__law_one D__law_take⟩
  have D__law_beside_right : Kn P w K mg base 8 "_law_beside_right" ["jar"] g__law_beside_right := ⟨_, _, m26, F26.kp, F26.bindsN fun _ _ _ _ _ _ us hl => match us, hl with | [_], _ => rfl, w__law_beside_right F26 D__law_carried D__law_divided D__law_kd_rules D__law_kg_base D__law_one D__law_take n_abs n_isinstance n_len n_repr n_tuple⟩
  have D__law_any : Kn P w K mg base 3 "_law_any" ["jar"] g__law_any := ⟨_, _, m27, F27.kp, F27.bindsN fun _ _ _ _ _ _ us hl => match us, hl with | [_], _ => rfl, w__law_any F27 D__law_one⟩
  have D__law_kh_says_2 : KnH P w K mg base (2 + 2) 2 "_law_kh_says" ["call", "due"] g__law_kh_says := ⟨_, _, m28, F28.kp, F28.bindsN fun _ _ _ _ _ _ us hl => match us, hl with | [_, _], _ => rfl, w__law_kh_says 2 F28 D__law_kh_heard_2 n_repr⟩
  have D__law_kh_says_5 : KnH P w K mg base (5 + 2) 5 "_law_kh_says" ["call", "due"] g__law_kh_says := ⟨_, _, m28, F28.kp, F28.bindsN fun _ _ _ _ _ _ us hl => match us, hl with | [_, _], _ => rfl, w__law_kh_says 5 F28 D__law_kh_heard_5 n_repr⟩
  have D__law_carries_right : Kn P w K mg base 8 "_law_carries_right" ["jar"] g__law_carries_right := ⟨_, _, m29, F29.kp, F29.bindsN fun _ _ _ _ _ _ us hl => match us, hl with | [_], _ => rfl, w__law_carries_right F29 D__law_any D__law_carried D__law_carry_due D__law_kd_rules D__law_kg_base D__law_kh_says_5 D__law_one D__law_take D0_carry n_abs n_repr (code_of_def (p := ("_law_carries_right", none)) F29) (tB _ (by decide)) (tabs_mem (by decide)) (tabs_one apart (by decide))⟩
  have D__law_divide_due : Kn P w K mg base 3 "_law_divide_due" ["rule", "x", "base"] g__law_divide_due := ⟨_, _, m30, F30.kp, F30.bindsN fun _ _ _ _ _ _ us hl => match us, hl with | [_, _, _], _ => rfl, w__law_divide_due F30 D__law_kd_divide D__law_kd_is_rule D__law_kd_is_whole⟩
  have D__law_kg_integer : Kn P w K mg base 3 "_law_kg_integer" ["jar"] g__law_kg_integer := ⟨_, _, m31, F31.kp, F31.bindsN fun _ _ _ _ _ _ us hl => match us, hl with | [_], _ => rfl, w__law_kg_integer F31 D__law_one D__law_take⟩
  have D__law_drawn_args : Kn P w K mg base 4 "_law_drawn_args" ["jar", "odd"] g__law_drawn_args := ⟨_, _, m32, F32.kp, F32.bindsN fun _ _ _ _ _ _ us hl => match us, hl with | [_, _], _ => rfl, w__law_drawn_args F32 D__law_any D__law_kd_rules D__law_kg_base D__law_kg_integer D__law_one D__law_take⟩
  have D__law_divides_right : Kn P w K mg base 8 "_law_divides_right" ["jar"] g__law_divides_right := ⟨_, _, m33, F33.kp, F33.bindsN fun _ _ _ _ _ _ us hl => match us, hl with | [_], _ => rfl, w__law_divides_right F33 D__law_divide_due D__law_divided D__law_drawn_args D__law_kh_says_5 D1_divide n_repr (code_of_def (p := ("_law_divides_right", none)) F33) (tB _ (by decide)) (tabs_mem (by decide)) (tabs_one apart (by decide))⟩
  have D_rule_names : Kn P w K mg base 1 "rule_names" [] g_rule_names := ⟨_, _, m34, F34.kp, F34.bindsN fun _ _ _ _ _ _ us hl => match us, hl with | [], _ => rfl, w_rule_names F34 n_list q_RULES⟩
  have D__law_names_right : Kn P w K mg base 5 "_law_names_right" [] g__law_names_right := ⟨_, _, m35, F35.kp, F35.bindsN fun _ _ _ _ _ _ us hl => match us, hl with | [], _ => rfl, w__law_names_right F35 D__law_kd_rules D__law_kh_heard_2 D__law_kh_says_2 D_rule_names n_repr (code_of_def (p := ("_law_names_right", none)) F35) (tB _ (by decide)) (tabs_mem (by decide)) (tabs_one apart (by decide))⟩
  have D__law_pool : Kn P w K mg base 1 "_law_pool" ["script"] g__law_pool := ⟨_, _, m36, F36.kp, F36.bindsN fun _ _ _ _ _ _ us hl => match us, hl with | [_], _ => rfl, w__law_pool F36 n_int n_len n_range⟩
  exact w_law F37 D__law_all_right D__law_beside_right D__law_carries_right D__law_divides_right D__law_names_right D__law_pool n_range
end LW_k01
set_option maxRecDepth 100000
set_option maxHeartbeats 4000000
namespace LW_k01
open PySem FX FX.J
theorem l_take : g__law_take = jTake := rfl
theorem l_one : g__law_one = jOne := rfl
theorem l_kgi : g__law_kg_integer = jKgi := rfl
theorem l_kgb : g__law_kg_base = jKgb := rfl
theorem l_divide : g_divide = RU.g_divide := rfl
theorem l_carry : g_carry = RU.g_carry := rfl
theorem l_ddue : g__law_divide_due = RU.g__law_divide_due := rfl
theorem l_cdue : g__law_carry_due = RU.g__law_carry_due := rfl
theorem l_rules : g__law_kd_rules = RU.g__law_kd_rules := rfl
theorem heard_eq : g__law_kh_heard = hHeard LX := rfl
section
variable {h : FH} {j n D : Nat} {v r x b s f : FV}
/-- a value that stays what it is, whatever is drawn -/
def Safe (D : Nat) (h : FH) (v : FV) : Prop := (∀ h : FH, Okv h v) ∨ ∃ (t : Nat) (xs : List FV), D < t ∧ v = .ref t ∧ h[t]? = some (.lst xs) ∧ (xs = [] ∨ xs = [.int 2])
theorem Safe.okv (a : Safe D h v) : Okv h v := by
  rcases a with o | ⟨t, xs, l, rfl, q, e⟩
  · exact o h
  · refine ok_lst q ?_ ?_
    · rcases e with rfl | rfl <;> simp
    · intro x hx
      rcases e with rfl | rfl
      · cases hx
      · rw [List.mem_singleton.mp hx]
        exact (vl_int (by decide +kernel)).mono (by decide) (by decide)
theorem Safe.bes {h' : FH} (a : Safe D h v) (B : Bes j h h') (l : j ≤ D) : Safe D h' v := by
  rcases a with o | ⟨t, xs, l2, rfl, q, e⟩
  · exact .inl o
  · exact .inr ⟨t, xs, l2, rfl, B.at_ (by omega) q, e⟩
theorem Safe.set {k : Nat} {o : FO} (a : Safe D h v) (l : k ≤ D) : Safe D (h.set k o) v := by
  rcases a with o | ⟨t, xs, l2, rfl, q, e⟩
  · exact .inl o
  · exact .inr ⟨t, xs, l2, rfl, by rw [List.getElem?_set_ne (by omega)]; exact q, e⟩
theorem any_ok (J : Jar j n h) (hn : n < 10 ^ 11) (l : D < h.length) : ∃ (v : FV) (h' : FH), g__law_any [.ref j] h = .ok v h' ∧ Safe D h' v ∧ Jar j (n + 1) h' ∧ Bes j h h' := by
  have lj := J.lt
  obtain ⟨h1, e1⟩ : ∃ h1, h1 = h ++ [FO.lst []] := ⟨_, rfl⟩
  obtain ⟨h2, e2⟩ : ∃ h2, h2 = h1 ++ [FO.lst [.int 2]] := ⟨_, rfl⟩
  have g1 : Grw h h1 := by rw [e1]; exact .app
  have g2 : Grw h1 h2 := by rw [e2]; exact .app
  have a1 : h2[h.length]? = some (.lst []) := g2.at_ (by rw [e1]; simp)
  have a2 : h2[h1.length]? = some (.lst [.int 2]) := by rw [e2]; simp
  obtain ⟨L, eL⟩ : ∃ L : List FV, L = [.non, .bl true, .bl false, .str "2", .str "", .tup [.int 2], .ref h.length, .str "Down", .str "down ", .tup [.str "down"], .ref h1.length] := ⟨_, rfl⟩
  have lL : L.length = 11 := by rw [eL]; rfl
  obtain ⟨v, h3, e3, mv, J3, B3⟩ := one_new (J.grw (g1.trans g2)) (by omega) (xs := L) (by rw [eL]; simp) (by omega)
  refine ⟨v, h3, cDef_rt (ev := e__law_any) ?_, ?_, J3, (g1.trans g2).bes.trans B3⟩
  · rw [← l_one] at e3
    simp only [e__law_any, List.map_cons, List.map_nil, List.length_cons, List.length_nil, List.cons_append, List.nil_append, Nat.reduceAdd, Nat.reduceSub, List.replicate, a_sRet, a_cCall, a_cCons, a_cVar, a_cLst, a_cTup, a_cC, a_cNil, List.getElem?_cons_zero, r_bind_ok, if_true, small_ok (show 0 ≤ 1000 by decide), small_ok (show 1 ≤ 1000 by decide), small_ok (show 11 ≤ 1000 by decide), ← e1, ← e2, ← eL, lL, e3, r_toS_ok]
  · rw [eL] at mv
    simp only [List.mem_cons, List.not_mem_nil, or_false] at mv
    rcases mv with rfl | rfl | rfl | rfl | rfl | rfl | rfl | rfl | rfl | rfl | rfl
    · exact .inl fun _ => ok_non
    · exact .inl fun _ => ok_bl
    · exact .inl fun _ => ok_bl
    · exact .inl fun _ => ok_str
    · exact .inl fun _ => ok_str
    · exact .inl fun _ => ok_tup (by simp) fun x hx => by rw [List.mem_singleton.mp hx]; exact (vl_int (by decide +kernel)).mono (by decide) (by decide)
    · exact .inr ⟨_, _, l, rfl, B3.at_ (by omega) a1, .inl rfl⟩
    · exact .inl fun _ => ok_str
    · exact .inl fun _ => ok_str
    · exact .inl fun _ => ok_tup (by simp) fun x hx => by rw [List.mem_singleton.mp hx]; exact (vl_word (by decide +kernel) (by decide +kernel) (by decide +kernel) (by decide +kernel)).mono (by decide) (by decide)
    · have := g1.1
      exact .inr ⟨_, _, by omega, rfl, B3.at_ (by omega) a2, .inr rfl⟩
/-- [any(jar) if take(jar, odd) == 0 else one for one in made] -/
theorem mix_ok {ei : EvI} {σ : FSt} {h1 : FH} {c t : Nat} {odd : Int} {xs : List FV} (J : Jar j n h1) (hn : n < 10 ^ 10) (e : ei σ h = .ok (.own t) h1) (at_ : h1[t]? = some (.lst xs)) (nt : t ≠ j) (lx : xs.length ≤ 10) (hx : ∀ x ∈ xs, ∀ h : FH, Okv h x) (o0 : 0 < odd) (o1 : odd ≤ 1000)
    (hg : ∀ x : FV, ((wipeF σ [c]).set c (some x))[0]? = some (some (.ref j)) ∧ ((wipeF σ [c]).set c (some x))[1]? = some (some (.int odd)) ∧ ((wipeF σ [c]).set c (some x))[c]? = some (some x)) :
    ∃ (acc : List FV) (h' : FH), cLc ei (.nm c) [c] cYes (cIf (cTb (cBin eqF (cCall 2 g__law_take (cCons (cVar 0) (cCons (cVar 1) cNil))) (cC (.int 0)))) (cCall 1 g__law_any (cCons (cVar 0) cNil)) (cVar c)) σ h = .ok (.ref h1.length) h' ∧ h'[h1.length]? = some (.lst acc) ∧ acc.length = xs.length ∧ (∀ y ∈ acc, Safe h1.length h' y) ∧ Jar j (n + 2 * xs.length) h' ∧ Bes j h1 h' := by
  have lj := J.lt
  have tl : t < h1.length := (List.getElem?_eq_some_iff.mp at_).1
  have nx : ∀ (h2 : FH) (i : Nat), Bes j h1 h2 → nextI (.own t) i h2 = some xs[i]? := fun h2 i B => by
    simp only [nextI, lstF, B.at_ nt at_]
    rfl
  obtain ⟨acc, h', q, J', B', at', len, sf⟩ := cLc_loop (ei := ei) (s := .own t) (t := .nm c) (vs := [c]) (tt := cYes) (te := cIf (cTb (cBin eqF (cCall 2 g__law_take (cCons (cVar 0) (cCons (cVar 1) cNil))) (cC (.int 0)))) (cCall 1 g__law_any (cCons (cVar 0) cNil)) (cVar c)) (σ := σ) (h := h) (h1 := h1)
    (fun i acc h => Jar j (n + 2 * i) h ∧ Bes j h1 h ∧ h[h1.length]? = some (.lst acc) ∧ acc.length = i ∧ ∀ y ∈ acc, Safe h1.length h y) xs.length e (len_own at_) ⟨J.grw .app, .app, by simp, rfl, fun y hy => by cases hy⟩ (fun i acc h p => p.2.2.1) (fun acc h p => by rw [nx h _ p.2.1]; simp) (fun i acc h2 hi ⟨J2, B2, at2, len, sf⟩ => by
      have hxi : xs[i]? = some xs[i] := List.getElem?_eq_getElem hi
      obtain ⟨k, h3, e3, k0, k1, J3, B3⟩ := take_ok J2 (by omega) (m := odd) o0 (by omega)
      have at3 := B3.at_ (by omega) at2
      have g := hg xs[i]
      by_cases kz : k = 0
      · obtain ⟨v, h4, e4, s4, J4, B4⟩ := any_ok (D := h1.length) J3 (by omega) (List.getElem?_eq_some_iff.mp at3).1
        have at4 := B4.at_ (by omega) at3
        have ll : h1.length < h4.length := (List.getElem?_eq_some_iff.mp at4).1
        refine ⟨xs[i], _, true, h2, by rw [nx h2 i B2, hxi], rfl, rfl, .inr ⟨rfl, v, h4, ?_, at4, by omega, jar_set (J4.mono (by omega)) (by omega), behind (B2.trans (B3.trans B4)) (Nat.le_refl _), by simp [ll], by simp [len], ?_⟩⟩
        · rw [← l_take] at e3
          simp only [a_cIf, a_cTb, a_cBin, a_cCall, a_cCons, a_cVar, a_cC, a_cNil, g.1, g.2.1, r_bind_ok, List.length_cons, List.length_nil, Nat.reduceAdd, if_true, e3, r_of_some, eq_int, kz, decide_true, e4]
        · intro y hy
          rcases List.mem_append.mp hy with z | z
          · exact ((sf y z).bes (B3.trans B4) (by omega)).set (Nat.le_refl _)
          · rw [List.mem_singleton.mp z]; exact s4.set (Nat.le_refl _)
      · have ll : h1.length < h3.length := (List.getElem?_eq_some_iff.mp at3).1
        refine ⟨xs[i], _, true, h2, by rw [nx h2 i B2, hxi], rfl, rfl, .inr ⟨rfl, xs[i], h3, ?_, at3, by omega, jar_set (J3.mono (by omega)) (by omega), behind (B2.trans B3) (Nat.le_refl _), by simp [ll], by simp [len], ?_⟩⟩
        · rw [← l_take] at e3
          simp only [a_cIf, a_cTb, a_cBin, a_cCall, a_cCons, a_cVar, a_cC, a_cNil, g.1, g.2.1, g.2.2, r_bind_ok, List.length_cons, List.length_nil, Nat.reduceAdd, if_true, e3, r_of_some, eq_int, decide_eq_false kz, Bool.false_eq_true, if_false]
        · intro y hy
          rcases List.mem_append.mp hy with z | z
          · exact ((sf y z).bes B3 (by omega)).set (Nat.le_refl _)
          · rw [List.mem_singleton.mp z]
            exact .inl (hx _ (List.getElem_mem hi)))
  exact ⟨acc, h', q, at', len, sf, J', B'⟩
theorem rules_ok : g__law_kd_rules [] h = .ok (.ref h.length) (h ++ [.lst RU.ruL]) := rfl
theorem rule_mem (m : v ∈ RU.ruL) : ∃ R : RU.Ru, v = .str R.s := by
  simp only [RU.ruL, List.mem_cons, List.not_mem_nil, or_false] at m
  rcases m with rfl | rfl | rfl | rfl | rfl
  · exact ⟨.down, rfl⟩
  · exact ⟨.up, rfl⟩
  · exact ⟨.zero, rfl⟩
  · exact ⟨.positive, rfl⟩
  · exact ⟨.near, rfl⟩
theorem ok_rule (R : RU.Ru) : Okv h (.str R.s) := by cases R <;> exact ok_str
/-- one of the rules -/
theorem one_rule (J : Jar j n h) (hn : n < 10 ^ 11) : ∃ (R : RU.Ru) (h' : FH), g__law_one [.ref j, .ref h.length] (h ++ [.lst RU.ruL]) = .ok (.str R.s) h' ∧ Jar j (n + 1) h' ∧ Bes j h h' := by
  obtain ⟨v, h1, e1, mv, J1, B1⟩ := one_new J (by omega) (xs := RU.ruL) (by simp [RU.ruL]) (Nat.le_of_ble_eq_true rfl)
  obtain ⟨R, rfl⟩ := rule_mem mv
  exact ⟨R, h1, e1, J1, B1⟩
theorem divided_ok (o1 : Okv h r) (o2 : Okv h x) (o3 : Okv h b) : ∃ h' : FH, g__law_divided [r, x, b] h = .ok (RU.divA r x b) h' ∧ Grw h h' := by
  have g0 : Grw h (h ++ [.opq]) := .app
  obtain ⟨h', q, g⟩ := RU.hear_div (L := LX) (n := h.length) (d := fun h2 => cCall 3 g_divide (cCons (cVar 0) (cCons (cVar 1) (cCons (cVar 2) cNil))) [some r, some x, some b] h2) rfl rfl rfl (o1.grw g0) (o2.grw g0) (o3.grw g0) (by simp [l_divide])
  refine ⟨h', cDef_rt (ev := e__law_divided) ?_, g0.trans g⟩
  show sRet _ [some r, some x, some b] h = _
  rw [a_sRet, heard_eq, lam_ok rfl q]
  rfl
theorem carried_ok (o1 : Okv h r) (o2 : Okv h s) (o3 : Okv h b) (o4 : Okv h f) : ∃ h' : FH, g__law_carried [r, s, b, f] h = .ok (RU.carA r s b f) h' ∧ Grw h h' := by
  have g0 : Grw h (h ++ [.opq]) := .app
  obtain ⟨h', q, g⟩ := RU.hear_car (L := LX) (n := h.length) (d := fun h2 => cCall 4 g_carry (cCons (cVar 0) (cCons (cVar 1) (cCons (cVar 2) (cCons (cVar 3) cNil)))) [some r, some s, some b, some f] h2) rfl rfl rfl rfl (o1.grw g0) (o2.grw g0) (o3.grw g0) (o4.grw g0) (by simp [l_carry])
  refine ⟨h', cDef_rt (ev := e__law_carried) ?_, g0.trans g⟩
  show sRet _ [some r, some s, some b, some f] h = _
  rw [a_sRet, heard_eq, lam_ok rfl q]
  rfl
/-- heard, and shown as is due -/
theorem says_ok {A : FV} {k m : Nat} {d : Cl} {h' : FH} (q : hHeard LX m d [.ref m] h = .ok A h') (vl : Vl h' k 12000 A) (k60 : k ≤ 60) : g__law_kh_says m d [.ref m, A] h = .ok (.bl true) h' := by
  obtain ⟨S, S1, S2⟩ := repr_vl vl k60 (by decide)
  have r1 := S2 h' .refl
  have e := eq_same S1 h'
  refine cDef_rt (ev := e__law_kh_says m d) ?_
  have p : cPass 0 m d 1 g__law_kh_heard cNil [some (.ref m), some A] h = .ok A h' := by
    rw [heard_eq, ← q]
    simp [cPass, goC]
  show sRet _ [some (.ref m), some A] h = _
  simp only [a_sRet, a_cBin, a_cCB, a_cCons, a_cNil, a_cVar, p, r_bind_ok, r1, r_of_some, List.getElem?_cons_succ, List.getElem?_cons_zero, e, r_toS_ok]
theorem lam2_ok {el ea : EvE} {σ : FSt} {A : FV} {h1 h2 : FH} (e1 : ea σ (h ++ [.opq]) = .ok A h1) (e2 : g__law_kh_says h.length (fun h2 => el σ h2) [.ref h.length, A] h1 = .ok (.bl true) h2) : cLam 2 g__law_kh_says el (cCons ea cNil) σ h = .ok (.bl true) h2 := by
  unfold cLam
  rw [a_cCons, e1]
  simp only [r_bind_ok, a_cNil, List.length_cons, List.length_nil, Nat.reduceAdd, if_true, e2]
end
end LW_k01
set_option maxRecDepth 100000
set_option maxHeartbeats 4000000
namespace LW_k01
open PySem FX FX.J
theorem l_rules2 {σ : FSt} {h : FH} : cCall 0 g__law_kd_rules cNil σ h = .ok (.ref h.length) (h ++ [.lst RU.ruL]) := rfl
theorem three {α : Type} : ∀ {xs : List α}, xs.length = 3 → ∃ a b c, xs = [a, b, c]
  | [a, b, c], _ => ⟨a, b, c, rfl⟩
theorem four {α : Type} : ∀ {xs : List α}, xs.length = 4 → ∃ a b c d, xs = [a, b, c, d]
  | [a, b, c, d], _ => ⟨a, b, c, d, rfl⟩
section
variable {h : FH} {j n D : Nat} {v r x b s f : FV}
theorem int_ok {i : Int} (l : i.natAbs ≤ 10 ^ 60) : ∀ h : FH, Okv h (.int i) := fun _ => ok_int (Nat.le_trans l (Nat.pow_le_pow_right (by decide) (by decide)))
theorem drawn_ok {odd : Int} (J : Jar j n h) (hn : n < 10 ^ 9) (o0 : 0 < odd) (o1 : odd ≤ 1000) : ∃ (D : Nat) (a b c : FV) (h' : FH), g__law_drawn_args [.ref j, .int odd] h = .ok (.ref D) h' ∧ h'[D]? = some (.lst [a, b, c]) ∧ j < D ∧ Safe D h' a ∧ Safe D h' b ∧ Safe D h' c ∧ Jar j (n + 30) h' ∧ Bes j h h' := by
  obtain ⟨R, h1, e1, J1, B1⟩ := one_rule J (by omega)
  obtain ⟨c, h2, e2, c2, c10, J2, B2⟩ := kgb_ok J1 (by omega)
  obtain ⟨i, h3, e3, il, J3, B3⟩ := kgi_ok J2 (by omega)
  obtain ⟨k, h4, e4, kl, J4, B4⟩ := kgi_ok J3 (by omega)
  obtain ⟨y, h5, e5, my, J5, B5⟩ := one_new J4 (by omega) (xs := [.int c, .int 0, .int 1, .int (-1), .int 11, .int (-12), .int k]) (by simp) (by simp)
  obtain ⟨d, rfl, dl⟩ : ∃ d : Int, y = .int d ∧ d.natAbs ≤ 10 ^ 60 := by
    simp only [List.mem_cons, List.not_mem_nil, or_false] at my
    rcases my with rfl | rfl | rfl | rfl | rfl | rfl | rfl <;> exact ⟨_, rfl, by omega⟩
  obtain ⟨M, eM⟩ : ∃ M : List FV, M = [.str R.s, .int i, .int d] := ⟨_, rfl⟩
  obtain ⟨h6, e6⟩ : ∃ h6, h6 = h5 ++ [FO.lst M] := ⟨_, rfl⟩
  have at6 : h6[h5.length]? = some (.lst M) := by rw [e6]; simp
  have g6 : Grw h5 h6 := by rw [e6]; exact .app
  have lj := J5.lt
  obtain ⟨acc, h7, q, at7, len, sf, J7, B7⟩ := mix_ok (ei := cIt (cVar 4)) (σ := [some (.ref j), some (.int odd), some (.str R.s), some (.int c), some (.ref h5.length), none]) (h := h6) (c := 5) (t := h5.length) (odd := odd) (xs := M) (J5.grw g6) (by omega) (by simp [cIt, lst_at at6]) at6 (by omega) (by rw [eM]; simp) (fun x hx h => by
      rw [eM] at hx
      simp only [List.mem_cons, List.not_mem_nil, or_false] at hx
      rcases hx with rfl | rfl | rfl
      · exact ok_rule R
      · exact int_ok il h
      · exact int_ok dl h) o0 o1 (fun x => ⟨rfl, rfl, rfl⟩)
  have lM : M.length = 3 := by rw [eM]; rfl
  rw [lM] at len
  obtain ⟨a, b, c', rfl⟩ := three len
  have gl := g6.1
  refine ⟨h6.length, a, b, c', h7, cDef_rt (ev := e__law_drawn_args) ?_, at7, by omega, sf a (by simp), sf b (by simp), sf c' (by simp), J7.mono (by omega), B1.trans (B2.trans (B3.trans (B4.trans (B5.trans (g6.bes.trans B7)))))⟩
  rw [← l_kgb] at e2
  rw [← l_kgi] at e3 e4
  rw [← l_one] at e5
  simp only [e__law_drawn_args, List.map_cons, List.map_nil, List.length_cons, List.length_nil, List.cons_append, List.nil_append, Nat.reduceAdd, Nat.reduceSub, List.replicate]
  rw [a_sSeq]
  simp only [a_sPar, rules_ok, a_cCall, a_cCons, a_cVar, a_cNil, List.getElem?_cons_zero, r_bind_ok, List.length_cons, List.length_nil, Nat.reduceAdd, if_true, e1, e2, r_toS_ok, List.set_cons_succ, List.set_cons_zero, then_nx]
  rw [a_sSeq]
  simp only [a_sAsg, a_cLst, a_cCall, a_cCons, a_cVar, a_cC, a_cNeg, a_cNil, List.getElem?_cons_zero, List.getElem?_cons_succ, r_bind_ok, List.length_cons, List.length_nil, Nat.reduceAdd, if_true, e3, e4, small_ok (show 7 ≤ 1000 by decide), e5, small_ok (show 3 ≤ 1000 by decide), r_toS_ok, List.set_cons_succ, List.set_cons_zero, then_nx]
  rw [← eM, ← e6, a_sRet, q]
  rfl
/-- the comparison of what is said and what is due -/
theorem ne_one {A : FV} (vl : Vl h 4 12000 A) : ∃ S : Str, PyData.strOk S = true ∧ ∀ h', Grw h h' → reprF [A] h' = some (.str S, h') := repr_vl vl (by decide) (by decide)
theorem div_body {odd : Int} {x2 x3 x4 : Option FV} (J : Jar j n h) (hn : n < 10 ^ 8) (o0 : 0 < odd) (o1 : odd ≤ 1000) : ∃ (y2 y3 y4 : Option FV) (h' : FH), (sSeq (sAsgT (.tp [(.nm 3), (.nm 4), (.nm 2)]) (cCall 2 g__law_drawn_args (cCons (cVar 0) (cCons (cVar 1) cNil))))
    (sSeq (sIf (cTb (cBin neF (cCB reprF (cCons (cCall 3 g__law_divided (cCons (cVar 3) (cCons (cVar 4) (cCons (cVar 2) cNil)))) cNil)) (cCB reprF (cCons (cCall 3 g__law_divide_due (cCons (cVar 3) (cCons (cVar 4) (cCons (cVar 2) cNil)))) cNil)))) (sRet (cC (.bl false))) sSkip)
    (sIf (cNotT (cTru (cLam 2 g__law_kh_says (cCallW 0 3 3 [2, 1, 0] g_divide cNil (cCons (cVar 2) (cCons (cVar 4) (cCons (cVar 3) cNil)))) (cCons (cCall 3 g__law_divide_due (cCons (cVar 3) (cCons (cVar 4) (cCons (cVar 2) cNil)))) cNil)))) (sRet (cC (.bl false))) sSkip))) [some (.ref j), some (.int odd), x2, x3, x4] h = .nx [some (.ref j), some (.int odd), y2, y3, y4] h' ∧ Jar j (n + 30) h' ∧ Bes j h h' := by
  obtain ⟨D, r, x, b, h1, e1, at1, jD, s1, s2, s3, J1, B1⟩ := drawn_ok J (by omega) o0 o1
  have o1 := s1.okv
  have o2 := s2.okv
  have o3 := s3.okv
  obtain ⟨A, eA⟩ : ∃ A, A = RU.divA r x b := ⟨_, rfl⟩
  have vl : Vl h1 4 12000 A := by rw [eA]; exact RU.divA_vl o1 o2 o3
  obtain ⟨h2, e2, g2⟩ := divided_ok o1 o2 o3
  obtain ⟨h3, e3, g3⟩ := RU.div_due (o1.grw g2) (o2.grw g2) (o3.grw g2)
  have g13 := g2.trans g3
  have g0 : Grw h3 (h3 ++ [FO.opq]) := .app
  have g14 := g13.trans g0
  obtain ⟨h4, e4, g4⟩ := RU.div_due (o1.grw g14) (o2.grw g14) (o3.grw g14)
  have g15 := g14.trans g4
  rw [← eA] at e2 e3 e4
  obtain ⟨h5, e5, g5⟩ := RU.hear_div (L := LX) (n := h3.length) (d := fun h2 => cCallW 0 3 3 [2, 1, 0] g_divide cNil (cCons (cVar 2) (cCons (cVar 4) (cCons (cVar 3) cNil))) [some (.ref j), some (.int odd), some b, some r, some x] h2) rfl rfl rfl (o1.grw g15) (o2.grw g15) (o3.grw g15) rfl
  rw [← eA] at e5
  have sy := says_ok e5 (vl.grw (g15.trans g5)) (by decide)
  obtain ⟨S, S1, S2⟩ := ne_one vl
  have r2 := S2 h2 g2
  have r3 := S2 h3 g13
  have ne := ne_same S1 h3
  rw [← l_ddue] at e3 e4
  have lam := lam2_ok (el := cCallW 0 3 3 [2, 1, 0] g_divide cNil (cCons (cVar 2) (cCons (cVar 4) (cCons (cVar 3) cNil)))) (ea := cCall 3 g__law_divide_due (cCons (cVar 3) (cCons (cVar 4) (cCons (cVar 2) cNil)))) (σ := [some (.ref j), some (.int odd), some b, some r, some x]) (h := h3) (A := A) (h1 := h4) (h2 := h5) (by simp only [a_cCall, a_cCons, a_cVar, a_cNil, List.getElem?_cons_zero, List.getElem?_cons_succ, r_bind_ok, List.length_cons, List.length_nil, Nat.reduceAdd, if_true, e4]) sy
  have gx : Grw h1 h5 := g15.trans g5
  refine ⟨some b, some r, some x, h5, ?_, J1.grw gx, B1.trans gx.bes⟩
  rw [a_sSeq]
  simp only [a_sAsgT, a_cCall, a_cCons, a_cVar, a_cNil, List.getElem?_cons_zero, List.getElem?_cons_succ, r_bind_ok, List.length_cons, List.length_nil, Nat.reduceAdd, if_true, e1, r_toS_ok, setT_ls at1, setTs_cons, setT_nm, setTs_nil, List.set_cons_succ, List.set_cons_zero, then_nx]
  rw [a_sSeq]
  simp only [a_sIf, a_cTb, a_cBin, a_cCB, a_cCall, a_cCons, a_cVar, a_cNil, List.getElem?_cons_zero, List.getElem?_cons_succ, r_bind_ok, List.length_cons, List.length_nil, Nat.reduceAdd, if_true, e2, r2, r_of_some, e3, r3, ne, r_toS_ok, Bool.false_eq_true, if_false, a_sSkip, then_nx]
  rw [a_cNotT, a_cTru, lam]
  simp only [r_bind_ok, truF_bl, Bool.not_true, r_toS_ok, Bool.false_eq_true, if_false]
def odds : List FV := [.int 1000, .int 1000, .int 4, .int 2, .int 1]
theorem odds_src {σ : FSt} : cIt (cLst (cCons (cC (.int 1000)) (cCons (cC (.int 1000)) (cCons (cC (.int 4)) (cCons (cC (.int 2)) (cCons (cC (.int 1)) cNil)))))) σ h = .ok (.own h.length) (h ++ [.lst odds]) := by
  have l : lstF h.length (h ++ [FO.lst odds]) = some odds := lst_at (by simp)
  show (match lstF h.length (h ++ [FO.lst odds]) with
    | some _ => Res.ok (Src.own h.length) (h ++ [FO.lst odds])
    | none => .stuck) = _
  rw [l]
theorem odds_mem (m : v ∈ odds) : ∃ o : Int, v = .int o ∧ 0 < o ∧ o ≤ 1000 := by
  simp only [odds, List.mem_cons, List.not_mem_nil, or_false] at m
  rcases m with rfl | rfl | rfl | rfl | rfl <;> exact ⟨_, rfl, by decide, by decide⟩
theorem divides_ok (J : Jar j n h) (hn : n < 10 ^ 7) : ∃ h' : FH, g__law_divides_right [.ref j] h = .ok (.bl true) h' ∧ Jar j (n + 150) h' ∧ Bes j h h' := by
  have lj := J.lt
  obtain ⟨σ', h', q, r⟩ := sFor_loop (ei := cIt (cLst (cCons (cC (.int 1000)) (cCons (cC (.int 1000)) (cCons (cC (.int 4)) (cCons (cC (.int 2)) (cCons (cC (.int 1)) cNil))))))) (s := .own h.length) (t := .nm 1) (b := (sSeq (sAsgT (.tp [(.nm 3), (.nm 4), (.nm 2)]) (cCall 2 g__law_drawn_args (cCons (cVar 0) (cCons (cVar 1) cNil))))
    (sSeq (sIf (cTb (cBin neF (cCB reprF (cCons (cCall 3 g__law_divided (cCons (cVar 3) (cCons (cVar 4) (cCons (cVar 2) cNil)))) cNil)) (cCB reprF (cCons (cCall 3 g__law_divide_due (cCons (cVar 3) (cCons (cVar 4) (cCons (cVar 2) cNil)))) cNil)))) (sRet (cC (.bl false))) sSkip)
    (sIf (cNotT (cTru (cLam 2 g__law_kh_says (cCallW 0 3 3 [2, 1, 0] g_divide cNil (cCons (cVar 2) (cCons (cVar 4) (cCons (cVar 3) cNil)))) (cCons (cCall 3 g__law_divide_due (cCons (cVar 3) (cCons (cVar 4) (cCons (cVar 2) cNil)))) cNil)))) (sRet (cC (.bl false))) sSkip)))) (σ := [some (.ref j), none, none, none, none]) (h := h) (h1 := h ++ [.lst odds])
    (fun i σ h2 => Jar j (n + 30 * i) h2 ∧ Bes j (h ++ [.lst odds]) h2 ∧ ∃ a b c d, σ = [some (.ref j), a, b, c, d]) (fun _ _ => False) 5 odds_src (len_own (xs := odds) (by simp)) ⟨J.grw .app, .refl, none, none, none, none, rfl⟩ (fun σ h2 ⟨_, B, _⟩ => by
      have := B.at_ (i := h.length) (by omega) (by simp : (h ++ [FO.lst odds])[h.length]? = some (.lst odds))
      simp only [nextI, lstF, this]
      rfl) (fun i σ h2 hi ⟨J2, B2, a, b, c, d, e⟩ => by
      subst e
      have at_ := B2.at_ (i := h.length) (by omega) (by simp : (h ++ [FO.lst odds])[h.length]? = some (.lst odds))
      have hx : odds[i]? = some odds[i] := List.getElem?_eq_getElem hi
      obtain ⟨o, eo, o0, o1⟩ := odds_mem (List.getElem_mem (l := odds) (n := i) hi)
      obtain ⟨y2, y3, y4, h3, e3, J3, B3⟩ := div_body (odd := o) (x2 := b) (x3 := c) (x4 := d) J2 (by omega) o0 o1
      refine ⟨odds[i], _, _, h3, by simp only [nextI, lstF, at_]; rw [← hx]; rfl, rfl, .inl ⟨?_, J3.mono (by omega), B2.trans B3, some (.int o), y2, y3, y4, rfl⟩⟩
      simp only [List.set_cons_succ, List.set_cons_zero, eo]
      exact e3)
  rcases r with ⟨J2, B2, a, b, c, d, rfl⟩ | f
  · refine ⟨h', cDef_rt (ev := e__law_divides_right) ?_, J2.mono (by omega), Bes.app.trans B2⟩
    simp only [e__law_divides_right, List.map_cons, List.map_nil, List.length_cons, List.length_nil, List.cons_append, List.nil_append, Nat.reduceAdd, Nat.reduceSub, List.replicate]
    rw [a_sSeq, q, then_nx]
    rfl
  · exact f.elim
end
end LW_k01
set_option maxRecDepth 100000
set_option maxHeartbeats 4000000
namespace LW_k01
open PySem FX FX.J
def cb1 : EvS := (sAsg 5 (cCall 1 g__law_kg_base (cCons (cVar 0) cNil)))
def cb2 : EvS := (sAsg 6 (cCall 2 g__law_one (cCons (cVar 0) (cCons (cLst (cCons (cC (.int 0)) (cCons (cCB absF (cCons (cVar 5) cNil)) (cCons (cBin subF (cCB absF (cCons (cVar 5) cNil)) (cC (.int 1))) (cCons (cCall 2 g__law_take (cCons (cVar 0) (cCons (cBin addF (cCB absF (cCons (cVar 5) cNil)) (cC (.int 1))) cNil))) (cCons (cNeg (cC (.int 1))) (cCons (cBin addF (cCB absF (cCons (cVar 5) cNil)) (cC (.int 1))) cNil))))))) cNil))))
def cb3 : EvS := (sAsg 2 (cLst (cCons (cVar 5) (cCons (cVar 5) (cCons (cVar 5) (cCons (cC (.int 1)) (cCons (cC (.int 0)) (cCons (cNeg (cC (.int 1))) (cCons (cC (.int 11)) (cCons (cNeg (cC (.int 11))) cNil))))))))))
def cb4 : EvS := (sAsg 3 (cLst (cCons (cCall 2 g__law_one (cCons (cVar 0) (cCons (cCall 0 g__law_kd_rules cNil) cNil))) (cCons (cCall 2 g__law_one (cCons (cVar 0) (cCons (cLst (cCons (cC (.int 1)) (cCons (cNeg (cC (.int 1))) cNil))) cNil))) (cCons (cCall 2 g__law_one (cCons (cVar 0) (cCons (cVar 2) cNil))) cNil)))))
def cb5 : EvS := (sAsg 3 (cLc (cIt (cBin addF (cVar 3) (cLst (cCons (cVar 6) cNil)))) (.nm 9) [9] cYes (cIf (cTb (cBin eqF (cCall 2 g__law_take (cCons (cVar 0) (cCons (cVar 1) cNil))) (cC (.int 0)))) (cCall 1 g__law_any (cCons (cVar 0) cNil)) (cVar 9))))
def cb6 : EvS := (sAsgT (.tp [(.nm 7), (.nm 8), (.nm 5), (.nm 6)]) (cVar 3))
def cb7 : EvS := (sAsg 8 (cCall 2 g__law_one (cCons (cVar 0) (cCons (cLst (cCons (cVar 8) (cCons (cVar 8) (cCons (cVar 8) (cCons (cVar 8) (cCons (cC (.int 0)) (cCons (cC (.int 2)) cNil))))))) cNil))))
def cb8 : EvS := (sAsg 4 (cCall 4 g__law_carry_due (cCons (cVar 7) (cCons (cVar 8) (cCons (cVar 5) (cCons (cVar 6) cNil))))))
def cb9 : EvS := (sIf (cTb (cBin neF (cCB reprF (cCons (cCall 4 g__law_carried (cCons (cVar 7) (cCons (cVar 8) (cCons (cVar 5) (cCons (cVar 6) cNil))))) cNil)) (cCB reprF (cCons (cVar 4) cNil)))) (sRet (cC (.bl false))) sSkip)
def cb10 : EvS := (sIf (cNotT (cTru (cLam 2 g__law_kh_says (cCallW 0 4 4 [2, 3, 1, 0] g_carry cNil (cCons (cVar 6) (cCons (cVar 5) (cCons (cVar 7) (cCons (cVar 8) cNil))))) (cCons (cVar 4) cNil)))) (sRet (cC (.bl false))) sSkip)
def cbody : EvS := (sSeq cb1 (sSeq cb2 (sSeq cb3 (sSeq cb4 (sSeq cb5 (sSeq cb6 (sSeq cb7 (sSeq cb8 (sSeq cb9 cb10)))))))))
section
variable {h : FH} {j n D : Nat} {v r x b s f : FV}
theorem car_body {odd : Int} {x2 x3 x4 x5 x6 x7 x8 : Option FV} (J : Jar j n h) (hn : n < 10 ^ 8) (o0 : 0 < odd) (o1 : odd ≤ 1000) : ∃ (y2 y3 y4 y5 y6 y7 y8 : Option FV) (h' : FH), cbody [some (.ref j), some (.int odd), x2, x3, x4, x5, x6, x7, x8, none] h = .nx [some (.ref j), some (.int odd), y2, y3, y4, y5, y6, y7, y8, none] h' ∧ Jar j (n + 30) h' ∧ Bes j h h' := by
  obtain ⟨c, h1, e1, c2, c10, J1, B1⟩ := kgb_ok J (by omega)
  obtain ⟨k, h2, e2, k0, k1, J2, B2⟩ := take_ok J1 (by omega) (m := (c.natAbs : Int) + 1) (by omega) (by omega)
  obtain ⟨y, h3, e3, my, J3, B3⟩ := one_new J2 (by omega) (xs := [.int 0, .int c.natAbs, .int ((c.natAbs : Int) - 1), .int k, .int (-1), .int ((c.natAbs : Int) + 1)]) (by simp) (by simp)
  obtain ⟨g, rfl, gl⟩ : ∃ g : Int, y = .int g ∧ g.natAbs ≤ 11 := by
    simp only [List.mem_cons, List.not_mem_nil, or_false] at my
    rcases my with rfl | rfl | rfl | rfl | rfl | rfl <;> exact ⟨_, rfl, by omega⟩
  obtain ⟨L, eL⟩ : ∃ L : List FV, L = [.int c, .int c, .int c, .int 1, .int 0, .int (-1), .int 11, .int (-11)] := ⟨_, rfl⟩
  have lL : L.length = 8 := by rw [eL]; rfl
  obtain ⟨h4, e4⟩ : ∃ h4, h4 = h3 ++ [FO.lst L] := ⟨_, rfl⟩
  have at4 : h4[h3.length]? = some (.lst L) := by rw [e4]; simp
  have g4 : Grw h3 h4 := by rw [e4]; exact .app
  have nj : h3.length ≠ j := by have := J3.lt; omega
  obtain ⟨R, h5, e5, J5, B5⟩ := one_rule (J3.grw g4) (by omega)
  obtain ⟨w, h6, e6, mw, J6, B6⟩ := one_new J5 (by omega) (xs := [.int 1, .int (-1)]) (by simp) (by simp)
  obtain ⟨i, rfl, il⟩ : ∃ i : Int, w = .int i ∧ i.natAbs ≤ 1 := by
    simp only [List.mem_cons, List.not_mem_nil, or_false] at mw
    rcases mw with rfl | rfl <;> exact ⟨_, rfl, by omega⟩
  obtain ⟨u, h7, e7, mu, J7, B7⟩ := one_ok J6 (by omega) ((B5.trans B6).at_ nj at4) nj (by rw [eL]; simp) (by omega)
  obtain ⟨d, rfl, dl⟩ : ∃ d : Int, u = .int d ∧ d.natAbs ≤ 11 := by
    rw [eL] at mu
    simp only [List.mem_cons, List.not_mem_nil, or_false] at mu
    rcases mu with rfl | rfl | rfl | rfl | rfl | rfl | rfl | rfl <;> exact ⟨_, rfl, by omega⟩
  obtain ⟨M, eM⟩ : ∃ M : List FV, M = [.str R.s, .int i, .int d] := ⟨_, rfl⟩
  obtain ⟨M2, eM2⟩ : ∃ M2 : List FV, M2 = M ++ [.int g] := ⟨_, rfl⟩
  obtain ⟨h8, e8⟩ : ∃ h8, h8 = h7 ++ [FO.lst M] := ⟨_, rfl⟩
  obtain ⟨h9, e9⟩ : ∃ h9, h9 = h8 ++ [FO.lst [.int g]] := ⟨_, rfl⟩
  obtain ⟨h10, e10⟩ : ∃ h10, h10 = h9 ++ [FO.lst M2] := ⟨_, rfl⟩
  have g8 : Grw h7 h8 := by rw [e8]; exact .app
  have g9 : Grw h8 h9 := by rw [e9]; exact .app
  have g10 : Grw h9 h10 := by rw [e10]; exact .app
  have lM2 : M2.length = 4 := by rw [eM2, eM]; rfl
  have ad : addF (.ref h7.length) (.ref h8.length) h9 = some (.ref h9.length, h10) := by
    rw [e10, eM2]
    exact add_lst (g9.at_ (by rw [e8]; simp)) (by rw [e9]; simp) (by rw [eM]; exact Nat.le_of_ble_eq_true rfl)
  have at10 : h10[h9.length]? = some (.lst M2) := by rw [e10]; simp
  have g710 : Grw h7 h10 := g8.trans (g9.trans g10)
  have J10 := J7.grw g710
  have nj9 : h9.length ≠ j := by have := J7.lt; have := g8.1; have := g9.1; omega
  have src : cIt (cBin addF (cVar 3) (cLst (cCons (cVar 6) cNil))) [some (.ref j), some (.int odd), some (.ref h3.length), some (.ref h7.length), x4, some (.int c), some (.int g), x7, x8, none] h8 = .ok (.own h9.length) h10 := by
    simp only [cIt, a_cBin, a_cLst, a_cCons, a_cVar, a_cNil, List.getElem?_cons_zero, List.getElem?_cons_succ, r_bind_ok, List.length_cons, List.length_nil, Nat.reduceAdd, small_ok (show 1 ≤ 1000 by decide), if_true, ← e9, ad, r_of_some, lst_at at10]
  obtain ⟨acc, h11, q11, at11, len, sf, J11, B11⟩ := mix_ok (σ := [some (.ref j), some (.int odd), some (.ref h3.length), some (.ref h7.length), x4, some (.int c), some (.int g), x7, x8, none]) (c := 9) (t := h9.length) (odd := odd) (xs := M2) J10 (by omega) src at10 nj9 (by omega) (fun x hx h => by
      rw [eM2, eM] at hx
      simp only [List.cons_append, List.nil_append, List.mem_cons, List.not_mem_nil, or_false] at hx
      rcases hx with rfl | rfl | rfl | rfl
      · exact ok_rule R
      · exact int_ok (by omega) h
      · exact int_ok (by omega) h
      · exact int_ok (by omega) h) o0 o1 (fun x => ⟨rfl, rfl, rfl⟩)
  rw [lM2] at len
  obtain ⟨r, s, b, f, rfl⟩ := four len
  have jD : j < h10.length := J10.lt
  have sr := sf r (by simp)
  have ss := sf s (by simp)
  have sb := sf b (by simp)
  have sff := sf f (by simp)
  obtain ⟨t, h12, e12, mt, J12, B12⟩ := one_new J11 (by omega) (xs := [s, s, s, s, .int 0, .int 2]) (by simp) (by simp)
  have st : Safe h10.length h12 t := by
    simp only [List.mem_cons, List.not_mem_nil, or_false] at mt
    rcases mt with rfl | rfl | rfl | rfl | rfl | rfl
    · exact ss.bes B12 (by omega)
    · exact ss.bes B12 (by omega)
    · exact ss.bes B12 (by omega)
    · exact ss.bes B12 (by omega)
    · exact .inl (int_ok (by decide))
    · exact .inl (int_ok (by decide))
  have O1 := (sr.bes B12 (Nat.le_of_lt jD)).okv
  have O2 := st.okv
  have O3 := (sb.bes B12 (Nat.le_of_lt jD)).okv
  have O4 := (sff.bes B12 (Nat.le_of_lt jD)).okv
  obtain ⟨A, eA⟩ : ∃ A, A = RU.carA r t b f := ⟨_, rfl⟩
  have vl : Vl h12 4 12000 A := by rw [eA]; exact RU.carA_vl O1 O2 O3 O4
  obtain ⟨h13, e13, g13⟩ := RU.car_due O1 O2 O3 O4
  obtain ⟨h14, e14, g14⟩ := carried_ok (O1.grw g13) (O2.grw g13) (O3.grw g13) (O4.grw g13)
  have g0 : Grw h14 (h14 ++ [FO.opq]) := .app
  have gg := (g13.trans g14).trans g0
  obtain ⟨h15, e15, g15⟩ := RU.hear_car (L := LX) (n := h14.length) (d := fun h2 => cCallW 0 4 4 [2, 3, 1, 0] g_carry cNil (cCons (cVar 6) (cCons (cVar 5) (cCons (cVar 7) (cCons (cVar 8) cNil)))) [some (.ref j), some (.int odd), some (.ref h3.length), some (.ref h10.length), some A, some b, some f, some r, some t, none] h2) rfl rfl rfl rfl (O1.grw gg) (O2.grw gg) (O3.grw gg) (O4.grw gg) rfl
  rw [← eA] at e13 e14 e15
  have sy := says_ok e15 (vl.grw (gg.trans g15)) (by decide)
  obtain ⟨S, S1, S2⟩ := ne_one vl
  have r2 := S2 h14 (g13.trans g14)
  have ne := ne_same S1 h14
  have lam := lam2_ok (el := cCallW 0 4 4 [2, 3, 1, 0] g_carry cNil (cCons (cVar 6) (cCons (cVar 5) (cCons (cVar 7) (cCons (cVar 8) cNil))))) (ea := cVar 4) (σ := [some (.ref j), some (.int odd), some (.ref h3.length), some (.ref h10.length), some A, some b, some f, some r, some t, none]) (h := h14) (A := A) rfl sy
  rw [← l_cdue] at e13
  rw [← l_kgb] at e1
  rw [← l_take] at e2
  rw [← l_one] at e3 e12 e7 e6
  have f1 : cb1 [some (.ref j), some (.int odd), x2, x3, x4, x5, x6, x7, x8, none] h = .nx [some (.ref j), some (.int odd), x2, x3, x4, some (.int c), x6, x7, x8, none] h1 := by
    simp only [cb1, a_sAsg, a_cCall, a_cCons, a_cVar, a_cNil, List.getElem?_cons_zero, r_bind_ok, List.length_cons, List.length_nil, Nat.reduceAdd, if_true, e1, r_toS_ok, List.set_cons_succ, List.set_cons_zero]
  have f2 : cb2 [some (.ref j), some (.int odd), x2, x3, x4, some (.int c), x6, x7, x8, none] h1 = .nx [some (.ref j), some (.int odd), x2, x3, x4, some (.int c), some (.int g), x7, x8, none] h3 := by
    simp only [cb2, a_sAsg, a_cCall, a_cLst, a_cCB, a_cBin, a_cNeg, a_cC, a_cCons, a_cVar, a_cNil, List.getElem?_cons_zero, List.getElem?_cons_succ, r_bind_ok, abs_int, r_of_some, sub_int, add_int, List.length_cons, List.length_nil, Nat.reduceAdd, if_true, e2, small_ok (show 6 ≤ 1000 by decide), e3, r_toS_ok, List.set_cons_succ, List.set_cons_zero]
  have f3 : cb3 [some (.ref j), some (.int odd), x2, x3, x4, some (.int c), some (.int g), x7, x8, none] h3 = .nx [some (.ref j), some (.int odd), some (.ref h3.length), x3, x4, some (.int c), some (.int g), x7, x8, none] h4 := by
    simp only [cb3, a_sAsg, a_cLst, a_cNeg, a_cC, a_cCons, a_cVar, a_cNil, List.getElem?_cons_zero, List.getElem?_cons_succ, r_bind_ok, List.length_cons, List.length_nil, Nat.reduceAdd, if_true, small_ok (show 8 ≤ 1000 by decide), r_toS_ok, List.set_cons_succ, List.set_cons_zero, ← eL, lL, ← e4]
  have f4 : cb4 [some (.ref j), some (.int odd), some (.ref h3.length), x3, x4, some (.int c), some (.int g), x7, x8, none] h4 = .nx [some (.ref j), some (.int odd), some (.ref h3.length), some (.ref h7.length), x4, some (.int c), some (.int g), x7, x8, none] h8 := by
    simp only [cb4, a_sAsg, a_cLst, rules_ok, a_cCall, a_cNeg, a_cC, a_cCons, a_cVar, a_cNil, List.getElem?_cons_zero, List.getElem?_cons_succ, r_bind_ok, List.length_cons, List.length_nil, Nat.reduceAdd, if_true, e5, e6, e7, small_ok (show 2 ≤ 1000 by decide), small_ok (show 3 ≤ 1000 by decide), r_toS_ok, List.set_cons_succ, List.set_cons_zero]
    rw [← eM, ← e8]
  have f5 : cb5 [some (.ref j), some (.int odd), some (.ref h3.length), some (.ref h7.length), x4, some (.int c), some (.int g), x7, x8, none] h8 = .nx [some (.ref j), some (.int odd), some (.ref h3.length), some (.ref h10.length), x4, some (.int c), some (.int g), x7, x8, none] h11 := by
    unfold cb5
    rw [a_sAsg, q11]
    rfl
  have f6 : cb6 [some (.ref j), some (.int odd), some (.ref h3.length), some (.ref h10.length), x4, some (.int c), some (.int g), x7, x8, none] h11 = .nx [some (.ref j), some (.int odd), some (.ref h3.length), some (.ref h10.length), x4, some b, some f, some r, some s, none] h11 := by
    simp only [cb6, a_sAsgT, a_cVar, List.getElem?_cons_zero, List.getElem?_cons_succ, r_toS_ok, setT_ls at11, setTs_cons, setT_nm, setTs_nil, List.set_cons_succ, List.set_cons_zero]
  have f7 : cb7 [some (.ref j), some (.int odd), some (.ref h3.length), some (.ref h10.length), x4, some b, some f, some r, some s, none] h11 = .nx [some (.ref j), some (.int odd), some (.ref h3.length), some (.ref h10.length), x4, some b, some f, some r, some t, none] h12 := by
    simp only [cb7, a_sAsg, a_cCall, a_cLst, a_cC, a_cCons, a_cVar, a_cNil, List.getElem?_cons_zero, List.getElem?_cons_succ, r_bind_ok, List.length_cons, List.length_nil, Nat.reduceAdd, if_true, small_ok (show 6 ≤ 1000 by decide), e12, r_toS_ok, List.set_cons_succ, List.set_cons_zero]
  have f8 : cb8 [some (.ref j), some (.int odd), some (.ref h3.length), some (.ref h10.length), x4, some b, some f, some r, some t, none] h12 = .nx [some (.ref j), some (.int odd), some (.ref h3.length), some (.ref h10.length), some A, some b, some f, some r, some t, none] h13 := by
    simp only [cb8, a_sAsg, a_cCall, a_cCons, a_cVar, a_cNil, List.getElem?_cons_zero, List.getElem?_cons_succ, r_bind_ok, List.length_cons, List.length_nil, Nat.reduceAdd, if_true, e13, r_toS_ok, List.set_cons_succ, List.set_cons_zero]
  have f9 : cb9 [some (.ref j), some (.int odd), some (.ref h3.length), some (.ref h10.length), some A, some b, some f, some r, some t, none] h13 = .nx [some (.ref j), some (.int odd), some (.ref h3.length), some (.ref h10.length), some A, some b, some f, some r, some t, none] h14 := by
    simp only [cb9, a_sIf, a_cTb, a_cBin, a_cCB, a_cCall, a_cCons, a_cVar, a_cNil, List.getElem?_cons_zero, List.getElem?_cons_succ, r_bind_ok, List.length_cons, List.length_nil, Nat.reduceAdd, if_true, e14, r2, r_of_some, ne, r_toS_ok, Bool.false_eq_true, if_false, a_sSkip]
  have f10 : cb10 [some (.ref j), some (.int odd), some (.ref h3.length), some (.ref h10.length), some A, some b, some f, some r, some t, none] h14 = .nx [some (.ref j), some (.int odd), some (.ref h3.length), some (.ref h10.length), some A, some b, some f, some r, some t, none] h15 := by
    unfold cb10
    rw [a_sIf, a_cNotT, a_cTru, lam]
    simp only [r_bind_ok, truF_bl, Bool.not_true, r_toS_ok, Bool.false_eq_true, if_false, a_sSkip]
  have gx : Grw h12 h15 := gg.trans g15
  refine ⟨some (.ref h3.length), some (.ref h10.length), some A, some b, some f, some r, some t, h15, ?_, (J12.grw gx).mono (by omega), B1.trans (B2.trans (B3.trans (g4.bes.trans (B5.trans (B6.trans (B7.trans (g710.bes.trans (B11.trans (B12.trans gx.bes)))))))))⟩
  unfold cbody
  rw [a_sSeq, f1, then_nx, a_sSeq, f2, then_nx, a_sSeq, f3, then_nx, a_sSeq, f4, then_nx, a_sSeq, f5, then_nx, a_sSeq, f6, then_nx, a_sSeq, f7, then_nx, a_sSeq, f8, then_nx, a_sSeq, f9, then_nx, f10]
theorem carries_ok (J : Jar j n h) (hn : n < 10 ^ 7) : ∃ h' : FH, g__law_carries_right [.ref j] h = .ok (.bl true) h' ∧ Jar j (n + 150) h' ∧ Bes j h h' := by
  have lj := J.lt
  obtain ⟨σ', h', q, r⟩ := sFor_loop (ei := cIt (cLst (cCons (cC (.int 1000)) (cCons (cC (.int 1000)) (cCons (cC (.int 4)) (cCons (cC (.int 2)) (cCons (cC (.int 1)) cNil))))))) (s := .own h.length) (t := .nm 1) (b := cbody) (σ := [some (.ref j), none, none, none, none, none, none, none, none, none]) (h := h) (h1 := h ++ [.lst odds])
    (fun i σ h2 => Jar j (n + 30 * i) h2 ∧ Bes j (h ++ [.lst odds]) h2 ∧ ∃ x1 x2 x3 x4 x5 x6 x7 x8, σ = [some (.ref j), x1, x2, x3, x4, x5, x6, x7, x8, none]) (fun _ _ => False) 5 odds_src (len_own (xs := odds) (by simp)) ⟨J.grw .app, .refl, none, none, none, none, none, none, none, none, rfl⟩ (fun σ h2 ⟨_, B, _⟩ => by
      have := B.at_ (i := h.length) (by omega) (by simp : (h ++ [FO.lst odds])[h.length]? = some (.lst odds))
      simp only [nextI, lstF, this]
      rfl) (fun i σ h2 hi ⟨J2, B2, x1, x2, x3, x4, x5, x6, x7, x8, e⟩ => by
      subst e
      have at_ := B2.at_ (i := h.length) (by omega) (by simp : (h ++ [FO.lst odds])[h.length]? = some (.lst odds))
      have hx : odds[i]? = some odds[i] := List.getElem?_eq_getElem hi
      obtain ⟨o, eo, o0, o1⟩ := odds_mem (List.getElem_mem (l := odds) (n := i) hi)
      obtain ⟨y2, y3, y4, y5, y6, y7, y8, h3, e3, J3, B3⟩ := car_body (odd := o) (x2 := x2) (x3 := x3) (x4 := x4) (x5 := x5) (x6 := x6) (x7 := x7) (x8 := x8) J2 (by omega) o0 o1
      refine ⟨odds[i], _, _, h3, by simp only [nextI, lstF, at_]; rw [← hx]; rfl, rfl, .inl ⟨?_, J3.mono (by omega), B2.trans B3, some (.int o), y2, y3, y4, y5, y6, y7, y8, rfl⟩⟩
      simp only [List.set_cons_succ, List.set_cons_zero, eo]
      exact e3)
  rcases r with ⟨J2, B2, x1, x2, x3, x4, x5, x6, x7, x8, rfl⟩ | f
  · refine ⟨h', cDef_rt (ev := e__law_carries_right) ?_, J2.mono (by omega), Bes.app.trans B2⟩
    show sSeq (sFor (cIt (cLst (cCons (cC (.int 1000)) (cCons (cC (.int 1000)) (cCons (cC (.int 4)) (cCons (cC (.int 2)) (cCons (cC (.int 1)) cNil))))))) (.nm 1) cbody) (sRet (cC (.bl true))) [some (.ref j), none, none, none, none, none, none, none, none, none] h = _
    rw [a_sSeq, q, then_nx]
    rfl
  · exact f.elim
end
end LW_k01
set_option maxRecDepth 100000
set_option maxHeartbeats 4000000
namespace LW_k01
open PySem FX FX.J
theorem p10_50 {h : FH} : powF (.int 10) (.int 50) h = some (.int (10 ^ 50), h) := pow_int (by decide) (by decide) (by decide)
theorem isi_tup {xs : List FV} {h : FH} : isiF [.tup xs, .ty "tuple"] h = some (.bl true, h) := rfl
section
variable {h : FH} {j n D : Nat} {v r x b s f : FV}
theorem cC_rule {R : RU.Ru} : Okv h (.str R.s) := ok_rule R
theorem beside_ok (J : Jar j n h) (hn : n < 10 ^ 7) : ∃ h' : FH, g__law_beside_right [.ref j] h = .ok (.bl true) h' ∧ Jar j (n + 20) h' ∧ Bes j h h' := by
  obtain ⟨R, h1, e1, J1, B1⟩ := one_rule J (by omega)
  obtain ⟨w, h2, e2, mw, J2, B2⟩ := one_new J1 (by omega) (xs := [.int 1, .int (-1)]) (by simp) (by simp)
  obtain ⟨i, rfl, i1⟩ : ∃ i : Int, w = .int i ∧ (i = 1 ∨ i = -1) := by
    simp only [List.mem_cons, List.not_mem_nil, or_false] at mw
    rcases mw with rfl | rfl
    · exact ⟨1, rfl, .inl rfl⟩
    · exact ⟨-1, rfl, .inr rfl⟩
  obtain ⟨c, h3, e3, c2, c10, J3, B3⟩ := kgb_ok J2 (by omega)
  obtain ⟨k, h4, e4, k0, k1, J4, B4⟩ := take_ok J3 (by omega) (m := (c.natAbs : Int) + 1) (by omega) (by omega)
  obtain ⟨u1, h5, e5, u10, u11, J5, B5⟩ := take_ok J4 (by omega) (m := 10 ^ 50) (by decide) (by decide)
  obtain ⟨u2, h6, e6, u20, u21, J6, B6⟩ := take_ok J5 (by omega) (m := 99) (by decide) (by decide)
  obtain ⟨y, h7, e7, my, J7, B7⟩ := one_new J6 (by omega) (xs := [.int 0, .int 1, .int u1, .int u2]) (by simp) (by simp)
  obtain ⟨a, rfl, a0, a1⟩ : ∃ a : Int, y = .int a ∧ 0 ≤ a ∧ a ≤ 10 ^ 50 := by
    simp only [List.mem_cons, List.not_mem_nil, or_false] at my
    rcases my with rfl | rfl | rfl | rfl <;> exact ⟨_, rfl, by omega, by omega⟩
  have kc : k ≤ c.natAbs := by omega
  have row := RU.cry_row R (i := i) (d := c) (g := k) (A := a) i1 c2 k0 kc a0
  obtain ⟨z1, z2⟩ := RU.cry_small R i1 c10 k0 kc
  obtain ⟨p, ep⟩ : ∃ p, p = (RU.cry R i c k).1 := ⟨_, rfl⟩
  obtain ⟨l, el⟩ : ∃ l, l = (RU.cry R i c k).2 := ⟨_, rfl⟩
  have m1 : ∀ h, mulF (.int a) (.int (c.natAbs : Int)) h = some (.int (a * (c.natAbs : Int)), h) := fun h => x_mul (sm_of (n := 10 ^ 50) (by omega) (by decide +kernel)) (sm_of (n := 10) (by omega) (by decide +kernel))
  have ac : 0 ≤ a * (c.natAbs : Int) ∧ a * (c.natAbs : Int) ≤ 10 ^ 50 * 10 := ⟨Int.mul_nonneg a0 (by omega), Int.mul_le_mul a1 (by omega) (by omega) (by omega)⟩
  have m2 : ∀ h, mulF (.int i) (.int (a * (c.natAbs : Int) + k)) h = some (.int (i * (a * (c.natAbs : Int) + k)), h) := fun h => x_mul (sm_of (n := 1) (by omega) (by decide +kernel)) (sm_of (n := 10 ^ 52) (by omega) (by decide +kernel))
  have xl : (i * (a * (c.natAbs : Int) + k)).natAbs ≤ 10 ^ 60 := by rcases i1 with rfl | rfl <;> omega
  obtain ⟨h8, e8, g8⟩ := carried_ok (h := h7) (r := .str R.s) (s := .int i) (b := .int c) (f := .int k) (ok_rule R) (int_ok (by omega) _) (int_ok (by omega) _) (int_ok (by omega) _)
  rw [RU.carA_told R i1 c2 c10 k0 kc, ← ep, ← el] at e8
  obtain ⟨h9, e9, g9⟩ := divided_ok (h := h8) (r := .str R.s) (x := .int (i * (a * (c.natAbs : Int) + k))) (b := .int c) (ok_rule R) (int_ok xl _) (int_ok (by omega) _)
  rw [RU.divA_told R _ (show c ≠ 0 by intro q; rw [q] at c2; cases c2), row, ← ep, ← el] at e9
  obtain ⟨t, et⟩ : ∃ t : Int, t = if 0 < c then i else -i := ⟨_, rfl⟩
  have ts : t = i * c.sign := by
    rw [et]
    by_cases q : 0 < c
    · rw [if_pos q, Int.sign_eq_one_of_pos q, Int.mul_one]
    · rw [if_neg q, Int.sign_eq_neg_one_of_neg (by omega)]; omega
  have t1 : t = 1 ∨ t = -1 := by
    rw [et]
    by_cases q : 0 < c
    · rw [if_pos q]; exact i1
    · rw [if_neg q]; omega
  simp only [] at e9
  rw [← ts] at e9
  rw [← ep] at z1
  rw [← el] at z2
  obtain ⟨L, eL⟩ : ∃ L : List FV, L = [.tup [.str "told", .tup [.int p, .int l]], .tup [.str "told", .tup [.int (t * (a + p)), .int l]]] := ⟨_, rfl⟩
  have lL : L.length = 2 := by rw [eL]; rfl
  obtain ⟨h10, e10⟩ : ∃ h10, h10 = h9 ++ [FO.lst L] := ⟨_, rfl⟩
  have at10 : h10[h9.length]? = some (.lst L) := by rw [e10]; simp
  have i0 := ix_lst (h := h10) (i := 0) (v := .tup [.str "told", .tup [.int p, .int l]]) at10 (by rw [eL]; rfl)
  have i1' := ix_lst (h := h10) (i := 1) (v := .tup [.str "told", .tup [.int (t * (a + p)), .int l]]) at10 (by rw [eL]; rfl)
  have m3 : mulF (.int t) (.int (a + p)) h10 = some (.int (t * (a + p)), h10) := x_mul (sm_of (n := 1) (by omega) (by decide +kernel)) (sm_of (n := 10 ^ 51) (by omega) (by decide +kernel))
  have tb : (t * (a + p)).natAbs ≤ 10 ^ 51 := by rcases t1 with q | q <;> rw [q] <;> omega
  obtain ⟨S, S1, S2⟩ := repr_vl (h := h10) (k := 2) (n := 2000) (v := .tup [.int (t * (a + p)), .int l]) (vl_pair (Nat.lt_of_le_of_lt tb (by decide +kernel)) (Nat.lt_of_le_of_lt z2 (by decide +kernel))) (by decide) (by decide)
  have r1 := S2 h10 .refl
  have eq1 := eq_same S1 h10
  have nt : neF (.str "told") (.str "told") h10 = some (.bl false, h10) := ne_same (by decide +kernel) h10
  have gx : Grw h7 h10 := g8.trans (g9.trans (by rw [e10]; exact .app))
  rw [← l_kgb] at e3
  rw [← l_take] at e4 e5 e6
  rw [← l_one] at e2 e7
  refine ⟨h10, cDef_rt (ev := e__law_beside_right) ?_, (J7.grw gx).mono (by omega), B1.trans (B2.trans (B3.trans (B4.trans (B5.trans (B6.trans (B7.trans gx.bes))))))⟩
  simp only [e__law_beside_right, List.map_cons, List.map_nil, List.length_cons, List.length_nil, List.cons_append, List.nil_append, Nat.reduceAdd, Nat.reduceSub, List.replicate]
  rw [a_sSeq]
  simp only [a_sPar3, rules_ok, a_cCall, a_cLst, a_cCons, a_cVar, a_cC, a_cNeg, a_cNil, List.getElem?_cons_zero, List.getElem?_cons_succ, r_bind_ok, List.length_cons, List.length_nil, Nat.reduceAdd, if_true, e1, small_ok (show 2 ≤ 1000 by decide), e2, e3, r_toS_ok, List.set_cons_succ, List.set_cons_zero, then_nx]
  rw [a_sSeq]
  simp only [a_sPar, a_cCall, a_cCB, a_cBin, a_cLst, a_cCons, a_cVar, a_cC, a_cNeg, a_cNil, List.getElem?_cons_zero, List.getElem?_cons_succ, r_bind_ok, abs_int, r_of_some, add_int, List.length_cons, List.length_nil, Nat.reduceAdd, if_true, e4, p10_50, e5, e6, small_ok (show 4 ≤ 1000 by decide), e7, r_toS_ok, List.set_cons_succ, List.set_cons_zero, then_nx]
  rw [a_sSeq]
  simp only [a_sAsg, a_cLst, a_cCall, a_cCB, a_cBin, a_cCons, a_cVar, a_cNil, List.getElem?_cons_zero, List.getElem?_cons_succ, r_bind_ok, abs_int, r_of_some, m1, add_int, m2, List.length_cons, List.length_nil, Nat.reduceAdd, if_true, e8, e9, small_ok (show 2 ≤ 1000 by decide), r_toS_ok, List.set_cons_succ, List.set_cons_zero, then_nx]
  rw [← eL, ← e10, a_sSeq]
  simp only [a_sIf, a_cOrT, a_cNotT, a_cTru, a_cTb, a_cCB, a_cBin, a_cCons, a_cVar, a_cC, a_cNil, List.getElem?_cons_zero, List.getElem?_cons_succ, r_bind_ok, i0, i1', at0_tup, at1_tup, r_of_some, nt, isi_tup, truF_bl, len_tup, ne_int, List.length_cons, List.length_nil, Nat.reduceAdd, Bool.not_true, Bool.false_eq_true, if_false, r_toS_ok, a_sSkip, then_nx]
  have two : (!decide (((2 : Nat) : Int) = 2)) = false := rfl
  simp only [two, r_toS_ok, Bool.false_eq_true, if_false, then_nx]
  rw [a_sSeq]
  simp only [a_sAsgT, a_cBin, a_cVar, a_cC, List.getElem?_cons_zero, List.getElem?_cons_succ, r_bind_ok, i0, at1_tup, r_of_some, r_toS_ok, setT_tp, setTs_cons, setT_nm, setTs_nil, List.set_cons_succ, List.set_cons_zero, then_nx]
  have ift : cIf (cTb (cBin gtF (cVar 3) (cC (.int 0)))) (cVar 2) (cNeg (cVar 2)) [some (.ref j), some (.str R.s), some (.int i), some (.int c), some (.int k), some (.int a), some (.ref h9.length), some (.int p), some (.int l), none] h10 = .ok (.int t) h10 := by
    rw [et]
    by_cases q : 0 < c <;> simp [q]
  rw [a_sSeq, a_sAsg, ift, r_toS_ok, then_nx, a_sRet]
  simp only [List.set_cons_succ, List.set_cons_zero, a_cBin, a_cCB, a_cTup, a_cCons, a_cVar, a_cC, a_cNil, List.getElem?_cons_zero, List.getElem?_cons_succ, r_bind_ok, i1', at1_tup, r_of_some, r1, add_int, m3, List.length_cons, List.length_nil, Nat.reduceAdd, small_ok (show 2 ≤ 1000 by decide), if_true, eq1, r_toS_ok]
end
end LW_k01
set_option maxRecDepth 100000
set_option maxHeartbeats 4000000
namespace LW_k01
open PySem FX FX.J
/-- [F(x) for x in a row], by calls that make things anew alone -/
theorem map_ok {ei : EvI} {σ : FSt} {te : EvE} {c : Nat} {h h1 : FH} {xs : List FV} (F : FV → FV) (e : ei σ h = .ok (.seq xs) h1) (lx : xs.length ≤ 10) (step : ∀ x ∈ xs, ∀ h2, Grw h1 h2 → ∃ h3, te ((wipeF σ [c]).set c (some x)) h2 = .ok (F x) h3 ∧ Grw h2 h3) :
    ∃ h', cLc ei (.nm c) [c] cYes te σ h = .ok (.ref h1.length) h' ∧ h'[h1.length]? = some (.lst (xs.map F)) ∧ Grw h1 h' := by
  obtain ⟨acc, h', q, at_, ea, g⟩ := cLc_loop (ei := ei) (s := .seq xs) (t := .nm c) (vs := [c]) (tt := cYes) (te := te) (σ := σ) (h := h) (h1 := h1)
    (fun i acc h2 => h2[h1.length]? = some (.lst acc) ∧ acc = (xs.take i).map F ∧ Grw h1 h2) xs.length e rfl ⟨by simp, rfl, .app⟩ (fun i acc h2 p => p.1) (fun acc h2 p => by rw [seq_next]; simp) (fun i acc h2 hi ⟨at2, ea, g2⟩ => by
      have hx : xs[i]? = some xs[i] := List.getElem?_eq_getElem hi
      obtain ⟨h3, e3, g3⟩ := step xs[i] (List.getElem_mem hi) h2 g2
      have at3 := g3.at_ at2
      have ll : h1.length < h3.length := (List.getElem?_eq_some_iff.mp at3).1
      have la : acc.length ≤ 10 := by rw [ea, List.length_map, List.length_take]; omega
      refine ⟨xs[i], _, true, h2, by rw [seq_next, hx], rfl, rfl, .inr ⟨rfl, F xs[i], h3, e3, at3, by omega, by simp [ll], ?_, (g2.trans g3).behind (Nat.le_refl _)⟩⟩
      rw [ea, List.take_succ, hx, List.map_append]
      rfl)
  rw [List.take_length] at ea
  exact ⟨h', q, by rw [← ea]; exact at_, g⟩
def ab1 : EvS := (sAsg 4 (cLc (cIt (cTup (cCons (cVar 0) (cCons (cNeg (cVar 0)) cNil)))) (.nm 6) [6] cYes (cCall 4 g__law_carried (cCons (cVar 1) (cCons (cVar 2) (cCons (cVar 6) (cCons (cVar 3) cNil)))))))
def ab2 : EvS := (sAsg 5 (cLc (cIt (cTup (cCons (cVar 0) (cCons (cNeg (cVar 0)) cNil)))) (.nm 6) [6] cYes (cCall 4 g__law_carry_due (cCons (cVar 1) (cCons (cVar 2) (cCons (cVar 6) (cCons (cVar 3) cNil)))))))
def ab3 : EvS := (sIf (cTb (cBin neF (cCB reprF (cCons (cVar 4) cNil)) (cCB reprF (cCons (cVar 5) cNil)))) (sRet (cC (.bl false))) sSkip)
def ab : EvS := (sSeq ab1 (sSeq ab2 ab3))
def al3 : EvS := (sFor (cRng1 (cCons (cBin addF (cVar 0) (cC (.int 1))) cNil)) (.nm 3) ab)
def al2 : EvS := (sFor (cIt (cTup (cCons (cC (.int 1)) (cCons (cNeg (cC (.int 1))) cNil)))) (.nm 2) al3)
def al1 : EvS := (sFor (cIt (cCall 0 g__law_kd_rules cNil)) (.nm 1) al2)
def al0 : EvS := (sFor (cRng2 (cCons (cC (.int 2)) (cCons (cC (.int 11)) cNil))) (.nm 0) al1)
section
variable {h : FH} {z s f : Int} {R : RU.Ru}
theorem ab_ok {x4 x5 : Option FV} (hz : z.natAbs ≤ 20) (hs : s.natAbs ≤ 1) (hf : f.natAbs ≤ 20) : ∃ (y4 y5 : Option FV) (h' : FH), ab [some (.int z), some (.str R.s), some (.int s), some (.int f), x4, x5, none] h = .nx [some (.int z), some (.str R.s), some (.int s), some (.int f), y4, y5, none] h' ∧ Grw h h' := by
  have oz : ∀ x ∈ [FV.int z, .int (-z)], ∀ h, Okv h x := fun x hx => by
    simp only [List.mem_cons, List.not_mem_nil, or_false] at hx
    rcases hx with rfl | rfl <;> exact int_ok (by omega)
  have os : ∀ h, Okv h (.int s) := int_ok (by omega)
  have of_ : ∀ h, Okv h (.int f) := int_ok (by omega)
  have src : ∀ (a b : Option FV) (h : FH), cIt (cTup (cCons (cVar 0) (cCons (cNeg (cVar 0)) cNil))) [some (.int z), some (.str R.s), some (.int s), some (.int f), a, b, none] h = .ok (.seq [.int z, .int (-z)]) h := fun a b h => by
    simp only [cIt, a_cTup, a_cCons, a_cVar, a_cNeg, a_cNil, List.getElem?_cons_zero, r_bind_ok, List.length_cons, List.length_nil, Nat.reduceAdd, small_ok (show 2 ≤ 1000 by decide), if_true]
  obtain ⟨h1, q1, at1, g1⟩ := map_ok (c := 6) (te := cCall 4 g__law_carried (cCons (cVar 1) (cCons (cVar 2) (cCons (cVar 6) (cCons (cVar 3) cNil))))) (fun b => RU.carA (.str R.s) (.int s) b (.int f)) (src x4 x5 h) (by simp) (fun x hx h2 g => by
    obtain ⟨h3, e, g3⟩ := carried_ok (h := h2) (ok_rule R) (os h2) (oz x hx h2) (of_ h2)
    exact ⟨h3, e, g3⟩)
  obtain ⟨h2, q2, at2, g2⟩ := map_ok (c := 6) (te := cCall 4 g__law_carry_due (cCons (cVar 1) (cCons (cVar 2) (cCons (cVar 6) (cCons (cVar 3) cNil))))) (fun b => RU.carA (.str R.s) (.int s) b (.int f)) (src (some (.ref h.length)) x5 h1) (by simp) (fun x hx h2 g => by
    obtain ⟨h3, e, g3⟩ := RU.car_due (h := h2) (ok_rule R) (os h2) (oz x hx h2) (of_ h2)
    exact ⟨h3, e, g3⟩)
  obtain ⟨S, S1, S2⟩ := repr_two (k := 4) (n := 12000) (m := 2) (g2.at_ at1) at2 (fun y hy => by
    obtain ⟨x, hx, rfl⟩ := List.mem_map.mp hy
    exact RU.carA_vl (ok_rule R) (os _) (oz x hx _) (of_ _)) (by simp) (by decide) (by decide)
  have r1 := (S2 h2 .refl).1
  have r2 := (S2 h2 .refl).2
  have ne := ne_same S1 h2
  refine ⟨some (.ref h.length), some (.ref h1.length), h2, ?_, g1.trans g2⟩
  have f1 : ab1 [some (.int z), some (.str R.s), some (.int s), some (.int f), x4, x5, none] h = .nx [some (.int z), some (.str R.s), some (.int s), some (.int f), some (.ref h.length), x5, none] h1 := by
    unfold ab1
    rw [a_sAsg, q1]
    rfl
  have f2 : ab2 [some (.int z), some (.str R.s), some (.int s), some (.int f), some (.ref h.length), x5, none] h1 = .nx [some (.int z), some (.str R.s), some (.int s), some (.int f), some (.ref h.length), some (.ref h1.length), none] h2 := by
    unfold ab2
    rw [a_sAsg, q2]
    rfl
  unfold ab
  rw [a_sSeq, f1, then_nx, a_sSeq, f2, then_nx]
  simp only [ab3, a_sIf, a_cTb, a_cBin, a_cCB, a_cCons, a_cVar, a_cNil, List.getElem?_cons_zero, List.getElem?_cons_succ, r_bind_ok, r1, r2, r_of_some, ne, r_toS_ok, Bool.false_eq_true, if_false, a_sSkip]
theorem al3_ok {x3 x4 x5 : Option FV} (z0 : 0 ≤ z) (hz : z ≤ 10) (hs : s.natAbs ≤ 1) : ∃ (y3 y4 y5 : Option FV) (h' : FH), al3 [some (.int z), some (.str R.s), some (.int s), x3, x4, x5, none] h = .nx [some (.int z), some (.str R.s), some (.int s), y3, y4, y5, none] h' ∧ Grw h h' := by
  obtain ⟨σ', h', q, r⟩ := sFor_loop (ei := cRng1 (cCons (cBin addF (cVar 0) (cC (.int 1))) cNil)) (s := .rng 0 (z + 1).toNat) (t := .nm 3) (b := ab) (σ := [some (.int z), some (.str R.s), some (.int s), x3, x4, x5, none]) (h := h) (h1 := h)
    (fun i σ h2 => Grw h h2 ∧ ∃ y3 y4 y5, σ = [some (.int z), some (.str R.s), some (.int s), y3, y4, y5, none]) (fun _ _ => False) (z + 1).toNat (cRng1_int (by simp) (by omega) (by omega)) rfl ⟨.refl, x3, x4, x5, rfl⟩ (fun _ _ _ => rng_none) (fun i σ h2 hi ⟨g, y3, y4, y5, e⟩ => by
      subst e
      obtain ⟨w4, w5, h3, e3, g3⟩ := ab_ok (h := h2) (z := z) (s := s) (f := 0 + (i : Int)) (R := R) (x4 := y4) (x5 := y5) (by omega) hs (by omega)
      exact ⟨.int (0 + (i : Int)), _, _, h3, rng_some hi, rfl, .inl ⟨e3, g.trans g3, _, w4, w5, rfl⟩⟩)
  rcases r with ⟨g, y3, y4, y5, rfl⟩ | f
  · exact ⟨y3, y4, y5, h', q, g⟩
  · exact f.elim
theorem al2_ok {x2 x3 x4 x5 : Option FV} (z0 : 0 ≤ z) (hz : z ≤ 10) : ∃ (y2 y3 y4 y5 : Option FV) (h' : FH), al2 [some (.int z), some (.str R.s), x2, x3, x4, x5, none] h = .nx [some (.int z), some (.str R.s), y2, y3, y4, y5, none] h' ∧ Grw h h' := by
  obtain ⟨σ', h', q, r⟩ := sFor_loop (ei := cIt (cTup (cCons (cC (.int 1)) (cCons (cNeg (cC (.int 1))) cNil)))) (s := .seq [.int 1, .int (-1)]) (t := .nm 2) (b := al3) (σ := [some (.int z), some (.str R.s), x2, x3, x4, x5, none]) (h := h) (h1 := h)
    (fun i σ h2 => Grw h h2 ∧ ∃ y2 y3 y4 y5, σ = [some (.int z), some (.str R.s), y2, y3, y4, y5, none]) (fun _ _ => False) 2 (by
      simp only [cIt, a_cTup, a_cCons, a_cC, a_cNeg, a_cNil, r_bind_ok, List.length_cons, List.length_nil, Nat.reduceAdd, small_ok (show 2 ≤ 1000 by decide), if_true]) rfl ⟨.refl, x2, x3, x4, x5, rfl⟩ (fun _ _ _ => rfl) (fun i σ h2 hi ⟨g, y2, y3, y4, y5, e⟩ => by
      subst e
      obtain ⟨s, es, sl⟩ : ∃ s : Int, [FV.int 1, .int (-1)][i]? = some (.int s) ∧ s.natAbs ≤ 1 := by
        rcases (show i = 0 ∨ i = 1 by omega) with rfl | rfl
        · exact ⟨1, rfl, by decide⟩
        · exact ⟨-1, rfl, by decide⟩
      obtain ⟨w3, w4, w5, h3, e3, g3⟩ := al3_ok (h := h2) (z := z) (s := s) (R := R) (x3 := y3) (x4 := y4) (x5 := y5) z0 hz sl
      exact ⟨.int s, _, _, h3, by rw [seq_next, es], rfl, .inl ⟨e3, g.trans g3, _, w3, w4, w5, rfl⟩⟩)
  rcases r with ⟨g, y2, y3, y4, y5, rfl⟩ | f
  · exact ⟨y2, y3, y4, y5, h', q, g⟩
  · exact f.elim
theorem al1_ok {x1 x2 x3 x4 x5 : Option FV} (z0 : 0 ≤ z) (hz : z ≤ 10) : ∃ (y1 y2 y3 y4 y5 : Option FV) (h' : FH), al1 [some (.int z), x1, x2, x3, x4, x5, none] h = .nx [some (.int z), y1, y2, y3, y4, y5, none] h' ∧ Grw h h' := by
  have at0 : (h ++ [FO.lst RU.ruL])[h.length]? = some (.lst RU.ruL) := by simp
  obtain ⟨σ', h', q, r⟩ := sFor_loop (ei := cIt (cCall 0 g__law_kd_rules cNil)) (s := .own h.length) (t := .nm 1) (b := al2) (σ := [some (.int z), x1, x2, x3, x4, x5, none]) (h := h) (h1 := h ++ [.lst RU.ruL])
    (fun i σ h2 => Grw (h ++ [.lst RU.ruL]) h2 ∧ ∃ y1 y2 y3 y4 y5, σ = [some (.int z), y1, y2, y3, y4, y5, none]) (fun _ _ => False) 5 (by
      unfold cIt
      rw [l_rules2, r_bind_ok]
      simp only [lst_at at0]) (len_own at0) ⟨.refl, x1, x2, x3, x4, x5, rfl⟩ (fun σ h2 ⟨g, _⟩ => by rw [own_next at0 g]; rfl) (fun i σ h2 hi ⟨g, y1, y2, y3, y4, y5, e⟩ => by
      subst e
      have hx : RU.ruL[i]? = some RU.ruL[i] := List.getElem?_eq_getElem hi
      obtain ⟨R, eR⟩ := rule_mem (List.getElem_mem (l := RU.ruL) (n := i) hi)
      obtain ⟨w2, w3, w4, w5, h3, e3, g3⟩ := al2_ok (h := h2) (z := z) (R := R) (x2 := y2) (x3 := y3) (x4 := y4) (x5 := y5) z0 hz
      exact ⟨.str R.s, _, _, h3, by rw [own_next at0 g, hx, eR], rfl, .inl ⟨e3, g.trans g3, _, w2, w3, w4, w5, rfl⟩⟩)
  rcases r with ⟨g, y1, y2, y3, y4, y5, rfl⟩ | f
  · exact ⟨y1, y2, y3, y4, y5, h', q, Grw.app.trans g⟩
  · exact f.elim
theorem al0_ok : ∃ (y0 y1 y2 y3 y4 y5 : Option FV) (h' : FH), al0 [none, none, none, none, none, none, none] h = .nx [y0, y1, y2, y3, y4, y5, none] h' ∧ Grw h h' := by
  have src : cRng2 (cCons (cC (.int 2)) (cCons (cC (.int 11)) cNil)) [none, none, none, none, none, none, none] h = .ok (.rng 2 9) h := (cRng2_int (i := 2) (j := 11) rfl (by decide) (by decide) (by decide) (by decide)).trans rfl
  obtain ⟨σ', h', q, r⟩ := sFor_loop (ei := cRng2 (cCons (cC (.int 2)) (cCons (cC (.int 11)) cNil))) (s := .rng 2 9) (t := .nm 0) (b := al1) (σ := [none, none, none, none, none, none, none]) (h := h) (h1 := h)
    (fun i σ h2 => Grw h h2 ∧ ∃ y0 y1 y2 y3 y4 y5, σ = [y0, y1, y2, y3, y4, y5, none]) (fun _ _ => False) 9 src rfl ⟨.refl, none, none, none, none, none, none, rfl⟩ (fun _ _ _ => rng_none) (fun i σ h2 hi ⟨g, y0, y1, y2, y3, y4, y5, e⟩ => by
      subst e
      obtain ⟨w1, w2, w3, w4, w5, h3, e3, g3⟩ := al1_ok (h := h2) (z := 2 + (i : Int)) (x1 := y1) (x2 := y2) (x3 := y3) (x4 := y4) (x5 := y5) (by omega) (by omega)
      exact ⟨.int (2 + (i : Int)), _, _, h3, rng_some hi, rfl, .inl ⟨e3, g.trans g3, _, w1, w2, w3, w4, w5, rfl⟩⟩)
  rcases r with ⟨g, y0, y1, y2, y3, y4, y5, rfl⟩ | f
  · exact ⟨y0, y1, y2, y3, y4, y5, h', q, g⟩
  · exact f.elim
end
end LW_k01
set_option maxRecDepth 100000
set_option maxHeartbeats 4000000
namespace LW_k01
open PySem FX FX.J
theorem ext_at {h : FH} {n m : Nat} {xs zs : List FV} (e : h[n]? = some (.lst xs)) (e2 : h[m]? = some (.lst zs)) (l : (xs ++ zs).length ≤ 1000) : extendF (.ref n) [.ref m] h = some (.non, h.set n (.lst (xs ++ zs))) := by
  have := sz
  simp only [List.length_append] at l
  unfold extendF
  simp only [e, e2]
  rw [if_pos (by omega)]
def T (x : Str) (v : FV) : FV := .tup [.str x, v]
def S0 : List FV := [T "InvalidRule" (.str "Down"), T "InvalidNumber" (.bl true), T "InvalidBase" (.int 0)]
def S1 : List FV := [T "InvalidBase" (.bl true), T "InvalidSign" (.int 0), T "InvalidNumber" (.int 3)]
def S2 : List FV := [T "InvalidBase" (.int 11), T "InvalidBase" (.int 1)]
def U0 : List FV := [T "InvalidRule" (.str "Down"), T "InvalidNumber" (.bl true), T "InvalidBase" (.int 0), T "InvalidBase" (.bl true)]
def U1 : List FV := [T "InvalidSign" (.int 0), T "InvalidNumber" (.int 3), T "InvalidBase" (.int 11), T "InvalidBase" (.int 1)]
theorem SU : S0 ++ S1 ++ S2 = U0 ++ U1 := rfl
theorem SU_vl {h : FH} : ∀ x ∈ U0 ++ U1, Vl h 4 12000 x := fun x hx => by
  have i : ∀ i : Int, i.natAbs ≤ 100 → Vl h 3 5000 (.int i) := fun i l => (int_ok (by omega) h).vl
  simp only [U0, U1, T, List.cons_append, List.nil_append, List.mem_cons, List.not_mem_nil, or_false] at hx
  rcases hx with rfl | rfl | rfl | rfl | rfl | rfl | rfl | rfl
  · exact (vl_two (ok_str : Okv h (.str "Down")).vl (by decide) (by decide)).mono (by decide) (by decide)
  · exact (vl_two (ok_bl : Okv h (.bl true)).vl (by decide) (by decide)).mono (by decide) (by decide)
  · exact (vl_two (i 0 (by decide)) (by decide) (by decide)).mono (by decide) (by decide)
  · exact (vl_two (ok_bl : Okv h (.bl true)).vl (by decide) (by decide)).mono (by decide) (by decide)
  · exact (vl_two (i 0 (by decide)) (by decide) (by decide)).mono (by decide) (by decide)
  · exact (vl_two (i 3 (by decide)) (by decide) (by decide)).mono (by decide) (by decide)
  · exact (vl_two (i 11 (by decide)) (by decide) (by decide)).mono (by decide) (by decide)
  · exact (vl_two (i 1 (by decide)) (by decide) (by decide)).mono (by decide) (by decide)
def tb1 : EvS := (sAsg 4 (cLst (cCons (cCall 3 g__law_divided (cCons (cC (.str "Down")) (cCons (cC (.bl true)) (cCons (cC (.int 0)) cNil)))) (cCons (cCall 3 g__law_divided (cCons (cC (.str "down")) (cCons (cC (.bl true)) (cCons (cC (.int 0)) cNil)))) (cCons (cCall 3 g__law_divided (cCons (cC (.str "down")) (cCons (cC (.int 7)) (cCons (cC (.int 0)) cNil)))) cNil)))))
def tb2 : EvS := (sExpr (cLM extendF (cVar 4) (cCons (cLst (cCons (cCall 3 g__law_divided (cCons (cC (.str "up")) (cCons (cC (.int 7)) (cCons (cC (.bl true)) cNil)))) (cCons (cCall 4 g__law_carried (cCons (cC (.str "near")) (cCons (cC (.int 0)) (cCons (cC (.int 2)) (cCons (cC (.int 1)) cNil))))) (cCons (cCall 4 g__law_carried (cCons (cC (.str "up")) (cCons (cC (.int 1)) (cCons (cC (.int 2)) (cCons (cC (.int 3)) cNil))))) cNil)))) cNil)))
def tb3 : EvS := (sExpr (cLM extendF (cVar 4) (cCons (cLst (cCons (cCall 4 g__law_carried (cCons (cC (.str "up")) (cCons (cC (.int 1)) (cCons (cC (.int 11)) (cCons (cC (.int 9)) cNil))))) (cCons (cCall 4 g__law_carried (cCons (cC (.str "up")) (cCons (cC (.int 1)) (cCons (cC (.int 1)) (cCons (cC (.int 9)) cNil))))) cNil))) cNil)))
def tb4 : EvS := (sAsg 5 (cLst (cCons (cTup (cCons (cC (.str "InvalidRule")) (cCons (cC (.str "Down")) cNil))) (cCons (cTup (cCons (cC (.str "InvalidNumber")) (cCons (cC (.bl true)) cNil))) (cCons (cTup (cCons (cC (.str "InvalidBase")) (cCons (cC (.int 0)) cNil))) (cCons (cTup (cCons (cC (.str "InvalidBase")) (cCons (cC (.bl true)) cNil))) cNil))))))
def tb5 : EvS := (sExpr (cLM extendF (cVar 5) (cCons (cLst (cCons (cTup (cCons (cC (.str "InvalidSign")) (cCons (cC (.int 0)) cNil))) (cCons (cTup (cCons (cC (.str "InvalidNumber")) (cCons (cC (.int 3)) cNil))) (cCons (cTup (cCons (cC (.str "InvalidBase")) (cCons (cC (.int 11)) cNil))) (cCons (cTup (cCons (cC (.str "InvalidBase")) (cCons (cC (.int 1)) cNil))) cNil))))) cNil)))
def tb6 : EvS := (sRet (cBin eqF (cCB reprF (cCons (cVar 4) cNil)) (cCB reprF (cCons (cVar 5) cNil))))
section
variable {h : FH} {y0 y1 y2 y3 y4 y5 : Option FV}
theorem okb {x : Str} (a : PyData.strOk x = true := by decide +kernel) (b : (PyData.str x).shown.length ≤ 200 := by decide +kernel) (c : PyData.strOk (PyData.str x).shown = true := by decide +kernel) (d : (PyData.str x).showable = true := by decide +kernel) : Okv h (.str x) := ok_str a b c d
theorem oki {i : Int} (l : i.natAbs ≤ 10 ^ 60 := by decide +kernel) : Okv h (.int i) := int_ok l h
theorem d3 {r x b A : FV} (o1 : Okv h r) (o2 : Okv h x) (o3 : Okv h b) (e : RU.divA r x b = A) : ∃ h' : FH, g__law_divided [r, x, b] h = .ok A h' ∧ Grw h h' := by rw [← e]; exact divided_ok o1 o2 o3
theorem c4 {r s b f A : FV} (o1 : Okv h r) (o2 : Okv h s) (o3 : Okv h b) (o4 : Okv h f) (e : RU.carA r s b f = A) : ∃ h' : FH, g__law_carried [r, s, b, f] h = .ok A h' ∧ Grw h h' := by rw [← e]; exact carried_ok o1 o2 o3 o4
theorem t1_ok : ∃ h' : FH, tb1 [y0, y1, y2, y3, y4, y5, none] h = .nx [y0, y1, y2, y3, some (.ref h'.length), y5, none] (h' ++ [.lst S0]) := by
  obtain ⟨h1, e1, g1⟩ := d3 (h := h) (r := .str "Down") (x := .bl true) (b := .int 0) okb ok_bl oki (RU.divA_r (by decide +kernel))
  obtain ⟨h2, e2, g2⟩ := d3 (h := h1) (r := .str "down") (x := .bl true) (b := .int 0) okb ok_bl oki (RU.divA_x (by decide +kernel) rfl)
  obtain ⟨h3, e3, g3⟩ := d3 (h := h2) (r := .str "down") (x := .int 7) (b := .int 0) okb oki oki (RU.divA_b (by decide +kernel) rfl rfl)
  refine ⟨h3, ?_⟩
  simp only [tb1, a_sAsg, a_cLst, a_cCall, a_cC, a_cCons, a_cNil, r_bind_ok, List.length_cons, List.length_nil, Nat.reduceAdd, if_true, e1, e2, e3, small_ok (show 3 ≤ 1000 by decide), r_toS_ok, List.set_cons_succ, List.set_cons_zero]
  rfl
theorem t2_ok {t : Nat} {xs : List FV} (at_ : h[t]? = some (.lst xs)) (l : xs.length ≤ 10) : ∃ h' : FH, tb2 [y0, y1, y2, y3, some (.ref t), y5, none] h = .nx [y0, y1, y2, y3, some (.ref t), y5, none] h' ∧ h'[t]? = some (.lst (xs ++ S1)) := by
  obtain ⟨h1, e1, g1⟩ := d3 (h := h) (r := .str "up") (x := .int 7) (b := .bl true) okb oki ok_bl (RU.divA_b (by decide +kernel) rfl rfl)
  obtain ⟨h2, e2, g2⟩ := c4 (h := h1) (r := .str "near") (s := .int 0) (b := .int 2) (f := .int 1) okb oki oki oki (RU.carA_s (by decide +kernel) rfl)
  obtain ⟨h3, e3, g3⟩ := c4 (h := h2) (r := .str "up") (s := .int 1) (b := .int 2) (f := .int 3) okb oki oki oki (RU.carA_f (by decide +kernel) rfl rfl rfl)
  obtain ⟨h4, e4⟩ : ∃ h4, h4 = h3 ++ [FO.lst S1] := ⟨_, rfl⟩
  have at4 : h4[t]? = some (.lst xs) := by rw [e4]; exact Grw.app.at_ (g3.at_ (g2.at_ (g1.at_ at_)))
  have lt : t < h4.length := (List.getElem?_eq_some_iff.mp at4).1
  have ex := ext_at (h := h4) (n := t) (m := h3.length) (xs := xs) (zs := S1) at4 (by rw [e4]; simp) (by simp [S1]; omega)
  refine ⟨h4.set t (.lst (xs ++ S1)), ?_, by simp [lt]⟩
  simp only [tb2, a_sExpr, a_cLM, a_cVar, a_cLst, a_cCall, a_cC, a_cCons, a_cNil, List.getElem?_cons_zero, List.getElem?_cons_succ, r_bind_ok, List.length_cons, List.length_nil, Nat.reduceAdd, if_true, isLst_of at_, e1, e2, e3, small_ok (show 3 ≤ 1000 by decide)]
  have eS : [FV.tup [.str "InvalidBase", .bl true], .tup [.str "InvalidSign", .int 0], .tup [.str "InvalidNumber", .int 3]] = S1 := rfl
  rw [eS, ← e4]
  simp only [r_bind_ok, ex, r_of_some, r_toS_ok]
theorem t3_ok {t : Nat} {xs : List FV} (at_ : h[t]? = some (.lst xs)) (l : xs.length ≤ 10) : ∃ h' : FH, tb3 [y0, y1, y2, y3, some (.ref t), y5, none] h = .nx [y0, y1, y2, y3, some (.ref t), y5, none] h' ∧ h'[t]? = some (.lst (xs ++ S2)) := by
  obtain ⟨h2, e2, g2⟩ := c4 (h := h) (r := .str "up") (s := .int 1) (b := .int 11) (f := .int 9) okb oki oki oki (RU.carA_b (by decide +kernel) rfl rfl)
  obtain ⟨h3, e3, g3⟩ := c4 (h := h2) (r := .str "up") (s := .int 1) (b := .int 1) (f := .int 9) okb oki oki oki (RU.carA_b (by decide +kernel) rfl rfl)
  obtain ⟨h4, e4⟩ : ∃ h4, h4 = h3 ++ [FO.lst S2] := ⟨_, rfl⟩
  have at4 : h4[t]? = some (.lst xs) := by rw [e4]; exact Grw.app.at_ (g3.at_ (g2.at_ at_))
  have lt : t < h4.length := (List.getElem?_eq_some_iff.mp at4).1
  have ex := ext_at (h := h4) (n := t) (m := h3.length) (xs := xs) (zs := S2) at4 (by rw [e4]; simp) (by simp [S2]; omega)
  refine ⟨h4.set t (.lst (xs ++ S2)), ?_, by simp [lt]⟩
  simp only [tb3, a_sExpr, a_cLM, a_cVar, a_cLst, a_cCall, a_cC, a_cCons, a_cNil, List.getElem?_cons_zero, List.getElem?_cons_succ, r_bind_ok, List.length_cons, List.length_nil, Nat.reduceAdd, if_true, isLst_of at_, e2, e3, small_ok (show 2 ≤ 1000 by decide)]
  have eS : [FV.tup [.str "InvalidBase", .int 11], .tup [.str "InvalidBase", .int 1]] = S2 := rfl
  rw [eS, ← e4]
  simp only [r_bind_ok, ex, r_of_some, r_toS_ok]
theorem all_ok : ∃ h' : FH, g__law_all_right [] h = .ok (.bl true) h' ∧ True := by
  obtain ⟨y0, y1, y2, y3, y4, y5, h1, e1, _⟩ := al0_ok (h := h)
  obtain ⟨h2, e2⟩ := t1_ok (h := h1) (y0 := y0) (y1 := y1) (y2 := y2) (y3 := y3) (y4 := y4) (y5 := y5)
  obtain ⟨h3, e3, at3⟩ := t2_ok (h := h2 ++ [.lst S0]) (y0 := y0) (y1 := y1) (y2 := y2) (y3 := y3) (y5 := y5) (t := h2.length) (xs := S0) (by simp) (by simp [S0])
  obtain ⟨h4, e4, at4⟩ := t3_ok (h := h3) (y0 := y0) (y1 := y1) (y2 := y2) (y3 := y3) (y5 := y5) at3 (by simp [S0, S1])
  obtain ⟨t, et⟩ : ∃ t, t = h2.length := ⟨_, rfl⟩
  rw [← et] at e2 e3 e4 at4
  have lt : t < h4.length := (List.getElem?_eq_some_iff.mp at4).1
  obtain ⟨h5, e5⟩ : ∃ h5, h5 = h4 ++ [FO.lst U0] := ⟨_, rfl⟩
  have f5 : tb4 [y0, y1, y2, y3, some (.ref t), y5, none] h4 = .nx [y0, y1, y2, y3, some (.ref t), some (.ref h4.length), none] h5 := by
    rw [e5]
    simp only [tb4, a_sAsg, a_cLst, a_cTup, a_cC, a_cCons, a_cNil, r_bind_ok, List.length_cons, List.length_nil, Nat.reduceAdd, if_true, small_ok (show 2 ≤ 1000 by decide), small_ok (show 4 ≤ 1000 by decide), r_toS_ok, List.set_cons_succ, List.set_cons_zero]
    rfl
  have at5 : h5[h4.length]? = some (.lst U0) := by rw [e5]; simp
  obtain ⟨h6, e6⟩ : ∃ h6, h6 = h5 ++ [FO.lst U1] := ⟨_, rfl⟩
  have at6 : h6[h4.length]? = some (.lst U0) := by rw [e6]; exact Grw.app.at_ at5
  have l6 : h4.length < h6.length := (List.getElem?_eq_some_iff.mp at6).1
  obtain ⟨h7, e7⟩ : ∃ h7, h7 = h6.set h4.length (FO.lst (U0 ++ U1)) := ⟨_, rfl⟩
  have ex : extendF (.ref h4.length) [.ref h5.length] h6 = some (.non, h7) := by
    rw [e7]
    exact ext_at at6 (by rw [e6]; simp) (by simp [U0, U1])
  have f6 : tb5 [y0, y1, y2, y3, some (.ref t), some (.ref h4.length), none] h5 = .nx [y0, y1, y2, y3, some (.ref t), some (.ref h4.length), none] h7 := by
    simp only [tb5, a_sExpr, a_cLM, a_cVar, a_cLst, a_cTup, a_cC, a_cCons, a_cNil, List.getElem?_cons_zero, List.getElem?_cons_succ, r_bind_ok, List.length_cons, List.length_nil, Nat.reduceAdd, if_true, isLst_of at5, small_ok (show 2 ≤ 1000 by decide), small_ok (show 4 ≤ 1000 by decide)]
    have eS : [FV.tup [.str "InvalidSign", .int 0], .tup [.str "InvalidNumber", .int 3], .tup [.str "InvalidBase", .int 11], .tup [.str "InvalidBase", .int 1]] = U1 := rfl
    rw [eS, ← e6]
    simp only [r_bind_ok, ex, r_of_some, r_toS_ok]
  have at7 : h7[h4.length]? = some (.lst (U0 ++ U1)) := by rw [e7]; simp [l6]
  have at7' : h7[t]? = some (.lst (U0 ++ U1)) := by
    rw [e7, List.getElem?_set_ne (by omega), e6, e5, ← SU]
    exact Grw.app.at_ (Grw.app.at_ at4)
  obtain ⟨S, s1, s2⟩ := repr_two (k := 4) (n := 12000) (m := 8) at7' at7 SU_vl (by simp [U0, U1]) (by decide) (by decide)
  have r1 := (s2 h7 .refl).1
  have r2 := (s2 h7 .refl).2
  have eq1 := eq_same s1 h7
  refine ⟨h7, cDef_rt (ev := e__law_all_right) ?_, True.intro⟩
  show sSeq al0 (sSeq tb1 (sSeq tb2 (sSeq tb3 (sSeq tb4 (sSeq tb5 tb6))))) [none, none, none, none, none, none, none] h = _
  rw [a_sSeq, e1, then_nx, a_sSeq, e2, then_nx, a_sSeq, e3, then_nx, a_sSeq, e4, then_nx, a_sSeq, f5, then_nx, a_sSeq, f6, then_nx]
  simp only [tb6, a_sRet, a_cBin, a_cCB, a_cCons, a_cVar, a_cNil, List.getElem?_cons_zero, List.getElem?_cons_succ, r_bind_ok, r1, r2, r_of_some, eq1, r_toS_ok]
/-! ### the names -/
theorem repr_dt {v : FV} {d : PyData} {k m : Nat} (a : Dt h k v d) (s : Sh m d) (hk : k ≤ 60) (hm : m ≤ 16777216) : reprF [v] h = some (.str d.shown, h) := by
  have z := sz
  have e : datF h DEEP v = some d := a DEEP hk
  unfold reprF
  simp only [e]
  rw [if_pos ⟨s.sh, by rw [z]; exact Nat.le_trans s.len hm⟩]
def ND : PyData := .tuple [.str "told", .list RU.ruD]
theorem ND_sh : Sh 200 ND := ⟨by decide +kernel, by decide +kernel, by decide +kernel⟩
theorem rul_dt : Dts h 1 RU.ruL RU.ruD := .cons (dt_str (by decide +kernel)) (.cons (dt_str (by decide +kernel)) (.cons (dt_str (by decide +kernel)) (.cons (dt_str (by decide +kernel)) (.cons (dt_str (by decide +kernel)) .nil))))
theorem told_dt {t : Nat} (e : h[t]? = some (.lst RU.ruL)) : Dt h 3 (.tup [.str "told", .ref t]) ND := dt_tup (.cons ((dt_str (by decide +kernel)).mono (by decide)) (.cons (dt_lst e rul_dt) .nil))
theorem repr_told {t : Nat} (e : h[t]? = some (.lst RU.ruL)) : reprF [.tup [.str "told", .ref t]] h = some (.str ND.shown, h) := repr_dt (told_dt e) ND_sh (by decide) (by decide)
theorem names_fn : g_rule_names [] h = .ok (.ref h.length) (h ++ [.lst RU.ruL]) := rfl
theorem names_ok : ∃ h' : FH, g__law_names_right [] h = .ok (.bl true) h' := by
  obtain ⟨h1, e1⟩ : ∃ h1, h1 = h ++ [FO.opq] := ⟨_, rfl⟩
  obtain ⟨h2, e2⟩ : ∃ h2, h2 = h1 ++ [FO.lst RU.ruL] := ⟨_, rfl⟩
  obtain ⟨h3, e3⟩ : ∃ h3, h3 = h2 ++ [FO.lst RU.ruL] := ⟨_, rfl⟩
  have at2 : h2[h1.length]? = some (.lst RU.ruL) := by rw [e2]; simp
  have at3 : h3[h2.length]? = some (.lst RU.ruL) := by rw [e3]; simp
  have at3' : h3[h1.length]? = some (.lst RU.ruL) := by rw [e3]; exact Grw.app.at_ at2
  have hd : hHeard LX h.length (fun h2 => cCall 0 g_rule_names cNil [none] h2) [.ref h.length] (h ++ [.opq]) = .ok (.tup [.str "told", .ref h1.length]) h2 := by
    rw [← e1]
    exact heard_ok (by rw [e2]; rfl)
  rw [← heard_eq] at hd
  have r1 := repr_told at2
  have r2 := repr_told at3
  have ok : PyData.strOk ND.shown = true := ND_sh.ok
  have ne := ne_same ok h3
  obtain ⟨h4, e4⟩ : ∃ h4, h4 = h3.set h1.length (FO.lst []) := ⟨_, rfl⟩
  have cl : clearF (.ref h1.length) [] h3 = some (.non, h4) := by
    unfold clearF
    simp only [at3', e4]
  obtain ⟨h5, e5⟩ : ∃ h5, h5 = h4 ++ [FO.opq] := ⟨_, rfl⟩
  obtain ⟨h6, e6⟩ : ∃ h6, h6 = h5 ++ [FO.lst RU.ruL] := ⟨_, rfl⟩
  obtain ⟨h7, e7⟩ : ∃ h7, h7 = h6 ++ [FO.lst RU.ruL] := ⟨_, rfl⟩
  have at6 : h7[h5.length]? = some (.lst RU.ruL) := by rw [e7, e6]; exact Grw.app.at_ (by simp)
  have at7 : h7[h6.length]? = some (.lst RU.ruL) := by rw [e7]; simp
  have hd2 : hHeard LX h4.length (fun h2 => cCall 0 g_rule_names cNil [some (.tup [.str "told", .ref h1.length])] h2) [.ref h4.length] h6 = .ok (.tup [.str "told", .ref h6.length]) h7 := heard_ok (by rw [e7]; rfl)
  have s1 := repr_told at6
  have s2 := repr_told at7
  have eq1 := eq_same ok h7
  have sy : g__law_kh_says h4.length (fun h2 => cCall 0 g_rule_names cNil [some (.tup [.str "told", .ref h1.length])] h2) [.ref h4.length, .tup [.str "told", .ref h5.length]] h6 = .ok (.bl true) h7 := by
    refine cDef_rt (ev := e__law_kh_says h4.length _) ?_
    have p : cPass 0 h4.length (fun h2 => cCall 0 g_rule_names cNil [some (.tup [.str "told", .ref h1.length])] h2) 1 g__law_kh_heard cNil [some (.ref h4.length), some (.tup [.str "told", .ref h5.length])] h6 = .ok (.tup [.str "told", .ref h6.length]) h7 := by
      rw [heard_eq, ← hd2]
      simp [cPass, goC]
    show sRet _ [some (.ref h4.length), some (.tup [.str "told", .ref h5.length])] h6 = _
    simp only [a_sRet, a_cBin, a_cCB, a_cCons, a_cNil, a_cVar, p, r_bind_ok, s1, s2, r_of_some, List.getElem?_cons_succ, List.getElem?_cons_zero, eq1, r_toS_ok]
  have lam := lam2_ok (el := cCall 0 g_rule_names cNil) (ea := cTup (cCons (cC (.str "told")) (cCons (cCall 0 g__law_kd_rules cNil) cNil))) (σ := [some (.tup [.str "told", .ref h1.length])]) (h := h4) (A := .tup [.str "told", .ref h5.length]) (h1 := h6) (h2 := h7) (by
    rw [← e5]
    simp only [a_cTup, a_cCons, a_cC, a_cNil, l_rules2, r_bind_ok, List.length_cons, List.length_nil, Nat.reduceAdd, small_ok (show 2 ≤ 1000 by decide), if_true, e6]) sy
  refine ⟨h7, cDef_rt (ev := e__law_names_right) ?_⟩
  show sSeq (sAsg 0 (cLam 1 g__law_kh_heard (cCall 0 g_rule_names cNil) cNil)) (sSeq (sIf (cTb (cBin neF (cCB reprF (cCons (cVar 0) cNil)) (cCB reprF (cCons (cTup (cCons (cC (.str "told")) (cCons (cCall 0 g__law_kd_rules cNil) cNil))) cNil)))) (sRet (cC (.bl false))) sSkip)
    (sSeq (sExpr (cLM0 clearF (cBin ixF (cVar 0) (cC (.int 1))))) (sRet (cLam 2 g__law_kh_says (cCall 0 g_rule_names cNil) (cCons (cTup (cCons (cC (.str "told")) (cCons (cCall 0 g__law_kd_rules cNil) cNil))) cNil))))) [none] h = _
  rw [a_sSeq, a_sAsg, lam_ok rfl hd, r_toS_ok, then_nx]
  simp only [List.set_cons_zero]
  rw [a_sSeq]
  have c1 : cTup (cCons (cC (.str "told")) (cCons (cCall 0 g__law_kd_rules cNil) cNil)) [some (.tup [.str "told", .ref h1.length])] h2 = .ok (.tup [.str "told", .ref h2.length]) h3 := by
    simp only [a_cTup, a_cCons, a_cC, a_cNil, l_rules2, r_bind_ok, List.length_cons, List.length_nil, Nat.reduceAdd, small_ok (show 2 ≤ 1000 by decide), if_true, e3]
  simp only [a_sIf, a_cTb, a_cBin, a_cCB, a_cCons, a_cVar, a_cNil, List.getElem?_cons_zero, r_bind_ok, r1, r_of_some, c1, r2, ne, r_toS_ok, Bool.false_eq_true, if_false, a_sSkip, then_nx]
  have clr : sExpr (cLM0 clearF (cBin ixF (cVar 0) (cC (.int 1)))) [some (.tup [.str "told", .ref h1.length])] h3 = .nx [some (.tup [.str "told", .ref h1.length])] h4 := by
    simp only [a_sExpr, cLM0, a_cBin, a_cVar, a_cC, List.getElem?_cons_zero, r_bind_ok, at1_tup, r_of_some, isLst_of at3', if_true, cl, r_toS_ok]
  rw [a_sSeq, clr, then_nx, a_sRet, lam]
  rfl
end
/-! ### the law -/
theorem pool_eq : g__law_pool = jPool := rfl
theorem loop12 {j : Nat} {h0 : FH} (J0 : Jar j 0 h0) : ∃ (a : Option FV) (h' : FH), sFor (cRng1 (cCons (cC (.int 12)) cNil)) (.nm 2) (sIf (cOrT (cNotT (cTru (cCall 1 g__law_divides_right (cCons (cVar 1) cNil)))) (cOrT (cNotT (cTru (cCall 1 g__law_carries_right (cCons (cVar 1) cNil)))) (cNotT (cTru (cCall 1 g__law_beside_right (cCons (cVar 1) cNil)))))) (sRet (cC (.bl false))) sSkip) [some (.ref 0), some (.ref j), none] h0 = .nx [some (.ref 0), some (.ref j), a] h' := by
  obtain ⟨σ', h', q, r⟩ := sFor_loop (ei := cRng1 (cCons (cC (.int 12)) cNil)) (s := .rng 0 12) (t := .nm 2) (b := sIf (cOrT (cNotT (cTru (cCall 1 g__law_divides_right (cCons (cVar 1) cNil)))) (cOrT (cNotT (cTru (cCall 1 g__law_carries_right (cCons (cVar 1) cNil)))) (cNotT (cTru (cCall 1 g__law_beside_right (cCons (cVar 1) cNil)))))) (sRet (cC (.bl false))) sSkip) (σ := [some (.ref 0), some (.ref j), none]) (h := h0) (h1 := h0)
    (fun i σ h => i ≤ 12 ∧ Jar j (i * 320) h ∧ ∃ a, σ = [some (.ref 0), some (.ref j), a]) (fun _ _ => False) 12 (cRng1_nat (n := 12) rfl (by decide)) rfl ⟨by decide, J0.mono (Nat.zero_le _), none, rfl⟩ (fun _ _ _ => rng_none) (fun i σ h hi ⟨i12, J, a, e⟩ => by
      subst e
      obtain ⟨h2, e2, J2, _⟩ := divides_ok J (by omega)
      obtain ⟨h3, e3, J3, _⟩ := carries_ok J2 (by omega)
      obtain ⟨h4, e4, J4, _⟩ := beside_ok J3 (by omega)
      refine ⟨.int (0 + (i : Int)), [some (.ref 0), some (.ref j), some (.int (0 + (i : Int)))], [some (.ref 0), some (.ref j), some (.int (0 + (i : Int)))], h4, rng_some hi, rfl, .inl ⟨?_, hi, J4.mono (by omega), some (.int (0 + (i : Int))), rfl⟩⟩
      simp only [a_sIf, a_cOrT, a_cNotT, a_cTru, a_cCall, a_cCons, a_cVar, a_cNil, List.getElem?_cons_zero, List.getElem?_cons_succ, r_bind_ok, List.length_cons, List.length_nil, Nat.reduceAdd, if_true, e2, e3, e4, truF_bl, Bool.not_true, Bool.false_eq_true, if_false, r_toS_ok, a_sSkip])
  rcases r with ⟨_, J, a, rfl⟩ | f
  · exact ⟨a, h', q⟩
  · exact f.elim
theorem pure_law : ∀ ns : List Int, ns.length ≤ 63 → (∀ i ∈ ns, Builtin.Int.intBits i ≤ 1048576) → ∃ h', g_law [.ref 0] [.ro (ns.map FV.int)] = .ok (.bl true) h' := by
  intro ns l _
  obtain ⟨h0, e0, J0, l0⟩ := jPool_ok l
  obtain ⟨a, h', q⟩ := loop12 J0
  obtain ⟨h2, e2, _⟩ := all_ok (h := h')
  obtain ⟨h3, e3⟩ := names_ok (h := h2)
  refine ⟨h3, cDef_rt (ev := e_law) ?_⟩
  have p : ∀ G : Fn, G [.ref 0] [.ro (ns.map FV.int)] = .ok (.ref 1) h0 → (sAsg 1 (cCall 1 G (cCons (cVar 0) cNil))) [some (.ref 0), none, none] [.ro (ns.map FV.int)] = .nx [some (.ref 0), some (.ref 1), none] h0 := fun G e => by simp [e]
  have p0 := p g__law_pool (by rw [pool_eq]; exact e0)
  have p2 : ∀ G1 G2 : Fn, G1 [] h' = .ok (.bl true) h2 → G2 [] h2 = .ok (.bl true) h3 → (sRet (cAnd (cCall 0 G1 cNil) (cCall 0 G2 cNil))) [some (.ref 0), some (.ref 1), a] h' = .rt (.bl true) h3 := fun G1 G2 e1 e2 => by simp [e1, e2]
  have p3 := p2 g__law_all_right g__law_names_right e2 e3
  show e_law [some (.ref 0), none, none] [.ro (ns.map FV.int)] = _
  unfold e_law
  rw [a_sSeq, p0, then_nx, a_sSeq, q, then_nx, p3]
end LW_k01

set_option maxRecDepth 100000
set_option maxHeartbeats 0
namespace LW_k01
open PySem PySem.Spec PyProof.Rows L2 FX
end LW_k01
open PySem PySem.W PySem.Calls PyProof.Rows
theorem PySem.Challenge.cw_stillwords_k01_division_refused_and_told_holds : PySem.Challenge.rw_stillwords_k01_division_refused_and_told.Holds := by
  w_on; o_law
  refine HandSHeadRun.head_any (r := OpenLaw.row PySem.Challenge.rw_stillwords_k01_division_refused_and_told) (q := view (OpenLaw.row PySem.Challenge.rw_stillwords_k01_division_refused_and_told).prog [60]) (H := LW_k01.hk) (ob := LW_k01.ob) (M := 20000) (loose := LW_k01.loose) (d := HandSHeadRun.topDef (OpenLaw.row PySem.Challenge.rw_stillwords_k01_division_refused_and_told).prog 60) (kwd := []) LW_k01.ob_eq
    (by kernel_rfl) (fun s => by kernel_rfl) LW_k01.run (by kernel_rfl) (by kernel_rfl) (by kernel_rfl) (by rfl) (by first | assumption | decide +kernel) (by decide +kernel) ⟨rfl, rfl, rfl, rfl, rfl, by decide +kernel⟩ ?wit ?law
  case wit => w_witness2
  case law =>
    letI := LW_k01.lamT
    refine FX.walk_end (l := PySem.Challenge.rw_stillwords_k01_division_refused_and_told) (n := 63) (k := 9) (x := "script") rfl (by decide) (by kernel_rfl) ⟨rfl, by decide, by decide⟩ ?_
    intro w mg fa0 h Y G named
    obtain ⟨K, inK, c⟩ := Y
    have e : (HandSHeadRun.topDef (OpenLaw.row PySem.Challenge.rw_stillwords_k01_division_refused_and_told).prog 60).name = ("law" : PySem.Str) := by kernel_rfl
    rw [e] at named
    exact ⟨K, inK, LW_k01.facts inK G named c LW_k01.pure_law⟩
