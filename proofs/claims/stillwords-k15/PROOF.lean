import PyProof.Rows.All
import Wide.All
import OpenK.AllK
import Wide.FinOn
import HandS.ForMost
import HandS.Exc
import HandS.ExcOwn
import HandS.WordsExc
import HandS.Lambda
import HandS.IsInst
import HandS.Deep
import HandS.TupAny
import HandS.Wide
import HandS.WideBits
import HandS.RaiseMore
import HandS.Defaults
import PyProof.RulesMatch
import HandS.EndBits
import HandS.EndTab
import HandS.Codes
import HandS.Head0
import HandS.Head1
import HandS.Head2
import HandS.HeadEnd
import HandS.HeadHook1
import HandS.HeadHook2
import HandS.HeadHook3
import HandS.HeadHook4
import PySem.Challenge.RW_stillwords_k15_rules_beside_one_another
set_option Elab.async false
set_option linter.all false
set_option maxRecDepth 100000
set_option maxHeartbeats 4000000
/-! FX: a functional reading of the program's text, over the hand layer. -/
namespace FX
open PySem PySem.Spec PyProof.Rows L2

/-- the tables of code objects that lambdas of the text are put into, by their defs' -/
class LamT where
  T : PySem.W.Frag → List (Addr × Str)
variable [LamT]
/-! ### values, objects, results -/
inductive FV where
  | non
  | bl (b : Bool)
  | int (i : Int)
  | str (x : Str)
  | tup (xs : List FV)
  | ref (n : Nat)
  | adr (a : Addr)
  | ty (n : String)
inductive FO where
  | lst (xs : List FV)
  | ro (xs : List FV)
  | dic (kvs : List (Key × FV))
  | ins (C : Addr) (fs : List (Str × FV))
  | opq
abbrev FH := List FO
abbrev FSt := List (Option FV)
inductive Res (α : Type) where
  | ok (a : α) (h : FH)
  | exc (c : Addr) (fs : List (Str × FV)) (h : FH)
  | stuck
def Res.bind {α β : Type} (r : Res α) (k : α → FH → Res β) : Res β := match r with
  | .ok a h => k a h
  | .exc c fs h => .exc c fs h
  | .stuck => .stuck
/-- a statement's end -/
inductive SR where
  | nx (σ : FSt) (h : FH)
  | rt (v : FV) (h : FH)
  | bk (σ : FSt) (h : FH)
  | ct (σ : FSt) (h : FH)
  | ex (c : Addr) (fs : List (Str × FV)) (σ : FSt) (h : FH)
  | stuck
abbrev EvE := FSt → FH → Res FV
abbrev EvT := FSt → FH → Res Bool
abbrev EvA := FSt → FH → Res (List FV)
abbrev EvS := FSt → FH → SR

/-! ### what stands for what -/
mutual
inductive RV (K : PySem.W.Frag) (ρ : List Addr) (H : Hp) : FV → V → Prop
  | non : RV K ρ H .non .non
  | bl (b : Bool) : RV K ρ H (.bl b) (.bl b)
  | int (i : Int) : RV K ρ H (.int i) (.int i)
  | str (x : Str) : RV K ρ H (.str x) (.str x)
  | tup {xs : List FV} {a : Addr} {vs : List V} : SqT K H a vs → RVs K ρ H xs vs → RV K ρ H (.tup xs) (.ref a)
  | ref {n : Nat} {a : Addr} : ρ[n]? = some a → RV K ρ H (.ref n) (.ref a)
  | adr (a : Addr) : RV K ρ H (.adr a) (.ref a)
  | ty (n : String) : RV K ρ H (.ty n) (.ty n)
inductive RVs (K : PySem.W.Frag) (ρ : List Addr) (H : Hp) : List FV → List V → Prop
  | nil : RVs K ρ H [] []
  | cons {x : FV} {v : V} {xs : List FV} {vs : List V} : RV K ρ H x v → RVs K ρ H xs vs → RVs K ρ H (x :: xs) (v :: vs)
end
/-- the tuples stay, the numbering grows -/
structure Ev (K : PySem.W.Frag) (ρ : List Addr) (H : Hp) (ρ' : List Addr) (H' : Hp) : Prop where
  pre : ∃ more, ρ' = ρ ++ more
  tups : ∀ a vs, SqT K H a vs → SqT K H' a vs
  tabs : LamX.Tabs (LamT.T K) H → LamX.Tabs (LamT.T K) H'
  codes : ∀ c q, H c = some (LamX.CodeO c q) → H' c = some (LamX.CodeO c q)
theorem Ev.refl {K : PySem.W.Frag} {ρ : List Addr} {H : Hp} : Ev K ρ H ρ H := ⟨⟨[], (List.append_nil ρ).symm⟩, fun _ _ h => h, id, fun _ _ h => h⟩
theorem Ev.trans {K : PySem.W.Frag} {ρ ρ1 ρ2 : List Addr} {H H1 H2 : Hp} (a : Ev K ρ H ρ1 H1) (b : Ev K ρ1 H1 ρ2 H2) : Ev K ρ H ρ2 H2 := by
  obtain ⟨⟨m1, e1⟩, t1, u1, c1⟩ := a
  obtain ⟨⟨m2, e2⟩, t2, u2, c2⟩ := b
  exact ⟨⟨m1 ++ m2, by rw [e2, e1, List.append_assoc]⟩, fun x vs h => t2 x vs (t1 x vs h), fun h => u2 (u1 h), fun c q h => c2 c q (c1 c q h)⟩
theorem Ev.get {K : PySem.W.Frag} {ρ ρ1 : List Addr} {H H1 : Hp} (e : Ev K ρ H ρ1 H1) {n : Nat} {a : Addr} (h : ρ[n]? = some a) : ρ1[n]? = some a := by
  obtain ⟨⟨m, q⟩, _, _, _⟩ := e
  rw [q, List.getElem?_append_left (List.getElem?_eq_some_iff.mp h).1, h]
mutual
theorem RV.ev {K : PySem.W.Frag} {ρ ρ1 : List Addr} {H H1 : Hp} (e : Ev K ρ H ρ1 H1) : ∀ {x : FV} {v : V}, RV K ρ H x v → RV K ρ1 H1 x v
  | _, _, .non => .non
  | _, _, .bl b => .bl b
  | _, _, .int i => .int i
  | _, _, .str x => .str x
  | _, _, .tup s r => .tup (e.tups _ _ s) (RVs.ev e r)
  | _, _, .ref h => .ref (e.get h)
  | _, _, .adr a => .adr a
  | _, _, .ty n => .ty n
theorem RVs.ev {K : PySem.W.Frag} {ρ ρ1 : List Addr} {H H1 : Hp} (e : Ev K ρ H ρ1 H1) : ∀ {xs : List FV} {vs : List V}, RVs K ρ H xs vs → RVs K ρ1 H1 xs vs
  | _, _, .nil => .nil
  | _, _, .cons a b => .cons (RV.ev e a) (RVs.ev e b)
end
section
variable {K : PySem.W.Frag} {ρ : List Addr} {H : Hp}
theorem RVs.len : ∀ {xs : List FV} {vs : List V}, RVs K ρ H xs vs → xs.length = vs.length
  | _, _, .nil => rfl
  | _, _, .cons _ b => congrArg Nat.succ (RVs.len b)
theorem RVs.get : ∀ {xs : List FV} {vs : List V} {i : Nat} {x : FV}, RVs K ρ H xs vs → xs[i]? = some x → ∃ v, vs[i]? = some v ∧ RV K ρ H x v
  | _, _, 0, _, .cons a _, h => by
    cases (Option.some.inj h)
    exact ⟨_, rfl, a⟩
  | _, _, i + 1, _, .cons _ b, h => by
    obtain ⟨v, e, r⟩ := RVs.get (i := i) b (by simpa using h)
    exact ⟨v, by simpa using e, r⟩
theorem RVs.back : ∀ {xs : List FV} {vs : List V} {i : Nat} {v : V}, RVs K ρ H xs vs → vs[i]? = some v → ∃ x, xs[i]? = some x ∧ RV K ρ H x v
  | _, _, 0, _, .cons a _, h => by
    cases (Option.some.inj h)
    exact ⟨_, rfl, a⟩
  | _, _, i + 1, _, .cons _ b, h => by
    obtain ⟨v, e, r⟩ := RVs.back (i := i) b (by simpa using h)
    exact ⟨v, by simpa using e, r⟩
theorem RVs.app : ∀ {xs ys : List FV} {vs us : List V}, RVs K ρ H xs vs → RVs K ρ H ys us → RVs K ρ H (xs ++ ys) (vs ++ us)
  | _, _, _, _, .nil, h => h
  | _, _, _, _, .cons a b, h => .cons a (RVs.app b h)
theorem RVs.set {y : FV} {u : V} (r : RV K ρ H y u) : ∀ {xs : List FV} {vs : List V} (i : Nat), RVs K ρ H xs vs → RVs K ρ H (xs.set i y) (vs.set i u)
  | _, _, _, .nil => .nil
  | _, _, 0, .cons _ b => .cons r b
  | _, _, i + 1, .cons a b => .cons a (RVs.set r i b)
theorem RVs.take : ∀ {xs : List FV} {vs : List V} (n : Nat), RVs K ρ H xs vs → RVs K ρ H (xs.take n) (vs.take n)
  | _, _, 0, _ => .nil
  | _, _, _ + 1, .nil => .nil
  | _, _, n + 1, .cons a b => .cons a (RVs.take n b)
theorem RVs.drop : ∀ {xs : List FV} {vs : List V} (n : Nat), RVs K ρ H xs vs → RVs K ρ H (xs.drop n) (vs.drop n)
  | _, _, 0, h => h
  | _, _, _ + 1, .nil => .nil
  | _, _, n + 1, .cons _ b => RVs.drop n b
theorem RVs.rev {xs : List FV} {vs : List V} (h : RVs K ρ H xs vs) : RVs K ρ H xs.reverse vs.reverse := by
  induction xs generalizing vs with
  | nil => cases h; exact .nil
  | cons x xs ih =>
    cases h with
    | cons a b =>
      rw [List.reverse_cons, List.reverse_cons]
      exact (ih b).app (.cons a .nil)
theorem RVs.erase : ∀ {xs : List FV} {vs : List V} (i : Nat), RVs K ρ H xs vs → RVs K ρ H (xs.eraseIdx i) (vs.eraseIdx i)
  | _, _, _, .nil => .nil
  | _, _, 0, .cons _ b => b
  | _, _, i + 1, .cons a b => .cons a (RVs.erase i b)
end
/-- entries of a dict, of an instance -/
inductive RK (K : PySem.W.Frag) (ρ : List Addr) (H : Hp) {κ : Type} : List (κ × FV) → List (κ × V) → Prop
  | nil : RK K ρ H [] []
  | cons {k : κ} {x : FV} {v : V} {xs : List (κ × FV)} {vs : List (κ × V)} : RV K ρ H x v → RK K ρ H xs vs → RK K ρ H ((k, x) :: xs) ((k, v) :: vs)
theorem RK.ev {K : PySem.W.Frag} {ρ ρ1 : List Addr} {H H1 : Hp} {κ : Type} (e : Ev K ρ H ρ1 H1) : ∀ {xs : List (κ × FV)} {vs : List (κ × V)}, RK K ρ H xs vs → RK K ρ1 H1 xs vs
  | _, _, .nil => .nil
  | _, _, .cons a b => .cons (a.ev e) (RK.ev e b)
/-- a list of the written part -/
def KC (K : PySem.W.Frag) (ρ : List Addr) (H : Hp) (a : Addr) (xs : List FV) : Prop :=
  ∃ vs, (∃ (o : Obj) (its : Array Value) (n : Nat), K.lookup a = some o ∧ o.cls = .type "list" ∧ o.dict = none ∧ o.data = .seq its n ∧ its.size ≤ sizeLine ∧ Vals vs its.toList) ∧ RVs K ρ H xs vs
theorem KC.ev {K : PySem.W.Frag} {ρ ρ1 : List Addr} {H H1 : Hp} (e : Ev K ρ H ρ1 H1) {a : Addr} {xs : List FV} : KC K ρ H a xs → KC K ρ1 H1 a xs
  | ⟨vs, q, r⟩ => ⟨vs, q, r.ev e⟩
/-- an object -/
def RO (K : PySem.W.Frag) (ρ : List Addr) (H : Hp) (a : Addr) : FO → Prop
  | .lst xs => ∃ vs, H a = some (.lst vs) ∧ RVs K ρ H xs vs
  | .ro xs => KC K ρ H a xs ∨ ∃ vs, Rd H a (.lst vs) ∧ RVs K ρ H xs vs
  | .dic kvs => ∃ vs, H a = some (.dK vs) ∧ RK K ρ H kvs vs
  | .ins C fs => ∃ dx vs, H a = some (.ins C dx vs) ∧ RK K ρ H fs vs
  | .opq => True
/-- what stands whatever is written -/
def Soft (K : PySem.W.Frag) (ρ : List Addr) (H : Hp) (a : Addr) : FO → Prop
  | .ro xs => KC K ρ H a xs
  | .opq => True
  | _ => False
theorem Soft.ev {K : PySem.W.Frag} {ρ ρ1 : List Addr} {H H1 : Hp} (e : Ev K ρ H ρ1 H1) {a : Addr} : ∀ {u : FO}, Soft K ρ H a u → Soft K ρ1 H1 a u
  | .ro _, k => KC.ev e k
  | .opq, _ => trivial
theorem Soft.ro {K : PySem.W.Frag} {ρ : List Addr} {H : Hp} {a : Addr} : ∀ {u : FO}, Soft K ρ H a u → RO K ρ H a u
  | .ro _, k => .inl k
  | .opq, _ => trivial
structure RH (K : PySem.W.Frag) (ρ : List Addr) (h : FH) (H : Hp) : Prop where
  len : ρ.length = h.length
  nd : ∀ (i j : Nat) (a : Addr), ρ[i]? = some a → ρ[j]? = some a → i = j ∨ (∃ u : FO, h[i]? = some u ∧ Soft K ρ H a u) ∨ ∃ u : FO, h[j]? = some u ∧ Soft K ρ H a u
  at_ : ∀ (n : Nat) (o : FO), h[n]? = some o → ∃ a, ρ[n]? = some a ∧ RO K ρ H a o
/-- what is wished of an exception; the point from where all grew -/
structure Wsh where
  w : WX
  ρ0 : List Addr
  H0 : Hp
abbrev Wsh.nox (W : Wsh) : Wsh := ⟨fun _ _ _ _ => False, W.ρ0, W.H0⟩
structure RS (K : PySem.W.Frag) (W : Wsh) (ρ : List Addr) (H : Hp) (σf : FSt) (σ : L2.St) : Prop where
  len : σf.length = σ.length
  at_ : ∀ (i : Nat) (x : FV), σf[i]? = some (some x) → ∃ v : V, σ[i]? = some (some v) ∧ RV K ρ H x v
  tabs : LamX.Tabs (LamT.T K) H
  base : Ev K W.ρ0 W.H0 ρ H
theorem RS.ev {K : PySem.W.Frag} {W : Wsh} {ρ ρ1 : List Addr} {H H1 : Hp} (e : Ev K ρ H ρ1 H1) {σf : FSt} {σ : L2.St} (r : RS K W ρ H σf σ) : RS K W ρ1 H1 σf σ :=
  ⟨r.len, fun i x h => let ⟨v, q, w⟩ := r.at_ i x h; ⟨v, q, w.ev e⟩, e.tabs r.tabs, r.base.trans e⟩
theorem RS.wish {K : PySem.W.Frag} {W : Wsh} {ρ : List Addr} {H : Hp} {σf : FSt} {σ : L2.St} (r : RS K W ρ H σf σ) (w : WX) : RS K ⟨w, W.ρ0, W.H0⟩ ρ H σf σ := ⟨r.len, r.at_, r.tabs, r.base⟩
theorem RS.set {K : PySem.W.Frag} {W : Wsh} {ρ : List Addr} {H : Hp} {σf : FSt} {σ : L2.St} (r : RS K W ρ H σf σ) (i : Nat) {x : FV} {v : V} (rv : RV K ρ H x v) : RS K W ρ H (σf.set i (some x)) (σ.set i (some v)) := by
  refine ⟨by rw [List.length_set, List.length_set, r.len], fun j y h => ?_, r.tabs, r.base⟩
  by_cases e : i = j
  · subst e
    have hi : i < σf.length := by
      have := (List.getElem?_eq_some_iff.mp h).1
      rwa [List.length_set] at this
    rw [List.getElem?_set_self hi] at h
    cases h
    exact ⟨v, by rw [List.getElem?_set_self (by rw [← r.len]; exact hi)], rv⟩
  · rw [List.getElem?_set_ne e] at h
    obtain ⟨u, q, w⟩ := r.at_ j y h
    exact ⟨u, by rw [List.getElem?_set_ne e]; exact q, w⟩

/-! ### heaps that change -/
section
variable {K : PySem.W.Frag} {ρ : List Addr} {h : FH} {H : Hp}
theorem tups_new {p : Addr} {o : HO} (n : H p = none) : ∀ a vs, SqT K H a vs → SqT K (upd H p o) a vs := fun a vs s => by
  have other : ∀ u, H a = some u → upd H p o a = some u := fun u e => by rw [upd_ne (ne_of_none e n)]; exact e
  rcases s with (s | ⟨ob, s⟩) | s
  · exact .inl (.inl (other _ s))
  · exact .inl (.inr ⟨ob, other _ s⟩)
  · exact .inr s
/-- what stands at p is no tuple, nothing locked -/
def Loose : HO → Prop
  | .lst _ => True
  | .dK _ => True
  | .ins _ _ _ => True
  | _ => False
theorem tabs_new {p : Addr} {o : HO} (n : H p = none) : ∀ P q, LamX.TabS H P q → LamX.TabS (upd H p o) P q := fun P q t => t.ext fun b u e => by rw [upd_ne (ne_of_none e n)]; exact e
theorem codes_new {p : Addr} {o : HO} (n : H p = none) : ∀ c q, H c = some (LamX.CodeO c q) → upd H p o c = some (LamX.CodeO c q) := fun c q e => by rw [upd_ne (ne_of_none e n)]; exact e
theorem codes_wr {p : Addr} {o u : HO} (n : H p = some u) (l : Loose u) : ∀ c q, H c = some (LamX.CodeO c q) → upd H p o c = some (LamX.CodeO c q) := fun c q e => by
  rw [upd_ne (fun z => by subst z; rw [n] at e; cases e; exact l)]
  exact e
theorem tabs_wr {p : Addr} {o u : HO} (n : H p = some u) (l : Loose u) : ∀ P q, LamX.TabS H P q → LamX.TabS (upd H p o) P q := fun P q t => by
  obtain ⟨ps, h1, h2, h3⟩ := t
  have other : ∀ b w, H b = some w → ¬ Loose w → upd H p o b = some w := fun b w e nl => by
    rw [upd_ne (fun z => by subst z; rw [n] at e; cases e; exact nl l)]
    exact e
  refine ⟨ps, other _ _ h1 (fun z => z), h2, fun pos cv hc => ?_⟩
  obtain ⟨c, e1, e2⟩ := h3 pos cv hc
  exact ⟨c, e1, other _ _ e2 (fun z => z)⟩
theorem tups_wr {p : Addr} {o u : HO} (n : H p = some u) (l : Loose u) : ∀ a vs, SqT K H a vs → SqT K (upd H p o) a vs := fun a vs s => by
  have other : ∀ w, H a = some w → ¬ Loose w → upd H p o a = some w := fun w e nl => by
    rw [upd_ne (fun z => by subst z; rw [n] at e; cases e; exact nl l)]
    exact e
  rcases s with (s | ⟨ob, s⟩) | s
  · exact .inl (.inl (other _ s (fun z => z)))
  · exact .inl (.inr ⟨ob, other _ s (fun z => z)⟩)
  · exact .inr s
theorem RO.ne {p a : Addr} {ρ1 : List Addr} {H' : Hp} (e : Ev K ρ H ρ1 H') (hp : ∀ b, b ≠ p → H' b = H b) (ha : a ≠ p) : ∀ {u : FO}, RO K ρ H a u → RO K ρ1 H' a u
  | .lst _, ⟨vs, q, r⟩ => ⟨vs, by rw [hp a ha]; exact q, r.ev e⟩
  | .ro _, .inl k => .inl (k.ev e)
  | .ro _, .inr ⟨vs, q, r⟩ => .inr ⟨vs, by
      rcases q with q | ⟨ob, q⟩
      · exact .inl (by rw [hp a ha]; exact q)
      · exact .inr ⟨ob, by rw [hp a ha]; exact q⟩, r.ev e⟩
  | .dic _, ⟨vs, q, r⟩ => ⟨vs, by rw [hp a ha]; exact q, r.ev e⟩
  | .ins _ _, ⟨dx, vs, q, r⟩ => ⟨dx, vs, by rw [hp a ha]; exact q, r.ev e⟩
  | .opq, _ => trivial
/-- tracked, or a list of the written part -/
theorem RO.there {a : Addr} : ∀ {u : FO}, RO K ρ H a u → H a ≠ none ∨ Soft K ρ H a u
  | .lst _, ⟨vs, q, r⟩ => .inl (by rw [q]; exact Option.some_ne_none _)
  | .ro xs, .inl k => .inr k
  | .ro _, .inr ⟨vs, q, r⟩ => .inl (by
      rcases q with q | ⟨ob, q⟩ <;> (rw [q]; exact Option.some_ne_none _))
  | .dic _, ⟨vs, q, r⟩ => .inl (by rw [q]; exact Option.some_ne_none _)
  | .ins _ _, ⟨dx, vs, q, r⟩ => .inl (by rw [q]; exact Option.some_ne_none _)
  | .opq, _ => .inr trivial
/-- a new object, numbered -/
theorem RH.push (r : RH K ρ h H) {p : Addr} {o : HO} {u : FO} (n : H p = none) (e : Ev K ρ H (ρ ++ [p]) (upd H p o)) (new : RO K (ρ ++ [p]) (upd H p o) p u) : RH K (ρ ++ [p]) (h ++ [u]) (upd H p o) := by
  have old : ∀ i a, ρ[i]? = some a → ∃ w, h[i]? = some w ∧ RO K ρ H a w := fun i a q => by
    have hl : i < h.length := by rw [← r.len]; exact (List.getElem?_eq_some_iff.mp q).1
    obtain ⟨b, q1, q2⟩ := r.at_ i h[i] (List.getElem?_eq_getElem hl)
    rw [q] at q1
    cases q1
    exact ⟨_, List.getElem?_eq_getElem hl, q2⟩
  have lt : ∀ {i : Nat} {x : FO}, h[i]? = some x → (h ++ [u])[i]? = some x := fun {i x} q => by
    rw [List.getElem?_append_left (List.getElem?_eq_some_iff.mp q).1]; exact q
  have cases_ : ∀ i a, (ρ ++ [p])[i]? = some a → (ρ[i]? = some a) ∨ (i = ρ.length ∧ a = p) := fun i a q => by
    by_cases hi : i < ρ.length
    · rw [List.getElem?_append_left hi] at q
      exact .inl q
    · rw [List.getElem?_append_right (by omega)] at q
      have : i - ρ.length = 0 := by
        by_cases z : i - ρ.length = 0
        · exact z
        · rw [List.getElem?_eq_none (by simp; omega)] at q
          cases q
      rw [this] at q
      exact .inr ⟨by omega, (Option.some.inj q).symm⟩
  have atP : ∀ i, ρ[i]? = some p → ∃ w : FO, (h ++ [u])[i]? = some w ∧ Soft K (ρ ++ [p]) (upd H p o) p w := fun i q => by
    obtain ⟨w, q1, q2⟩ := old i p q
    rcases q2.there with z | k
    · exact absurd n z
    · exact ⟨w, lt q1, k.ev e⟩
  refine ⟨by rw [List.length_append, List.length_append, r.len]; rfl, fun i j a q1 q2 => ?_, fun i w q => ?_⟩
  · rcases cases_ i a q1 with z1 | ⟨z1, y1⟩ <;> rcases cases_ j a q2 with z2 | ⟨z2, y2⟩
    · rcases r.nd i j a z1 z2 with y | ⟨w, y, k⟩ | ⟨w, y, k⟩
      · exact .inl y
      · exact .inr (.inl ⟨w, lt y, k.ev e⟩)
      · exact .inr (.inr ⟨w, lt y, k.ev e⟩)
    · subst y2
      exact .inr (.inl (atP i z1))
    · subst y1
      exact .inr (.inr (atP j z2))
    · exact .inl (z1.trans z2.symm)
  · by_cases hi : i < h.length
    · rw [List.getElem?_append_left hi] at q
      obtain ⟨a, q1, q2⟩ := r.at_ i w q
      refine ⟨a, e.get q1, ?_⟩
      by_cases ha : a = p
      · subst ha
        rcases q2.there with z | k
        · exact absurd n z
        · exact (k.ev e).ro
      · exact q2.ne (p := p) e (fun b hb => upd_ne hb) ha
    · rw [List.getElem?_append_right (by omega)] at q
      have hz : i - h.length = 0 := by
        by_cases z : i - h.length = 0
        · exact z
        · rw [List.getElem?_eq_none (by simp; omega)] at q
          cases q
      rw [hz] at q
      have hi' : i = ρ.length := by rw [r.len]; omega
      refine ⟨p, by rw [hi']; simp, ?_⟩
      rw [← Option.some.inj q]
      exact new
/-- a numbered object is written -/
theorem RH.write (r : RH K ρ h H) {m : Nat} {p : Addr} {o : HO} {u w : FO} (hm : h[m]? = some w) (hw : ∀ (ρ : List Addr) (H : Hp) (a : Addr), ¬ Soft K ρ H a w) (hp : ρ[m]? = some p) (e : Ev K ρ H ρ (upd H p o)) (new : RO K ρ (upd H p o) p u) : RH K ρ (h.set m u) (upd H p o) := by
  have hml : m < h.length := (List.getElem?_eq_some_iff.mp hm).1
  have keep : ∀ {i : Nat} {x : FO} {a : Addr}, h[i]? = some x → Soft K ρ H a x → (h.set m u)[i]? = some x := fun {i x a} q k => by
    rw [List.getElem?_set_ne]
    · exact q
    · intro z
      subst z
      rw [hm] at q
      cases q
      exact hw _ _ _ k
  refine ⟨by rw [List.length_set]; exact r.len, fun i j a q1 q2 => ?_, fun i x q => ?_⟩
  · rcases r.nd i j a q1 q2 with y | ⟨xs, y, k⟩ | ⟨xs, y, k⟩
    · exact .inl y
    · exact .inr (.inl ⟨xs, keep y k, k.ev e⟩)
    · exact .inr (.inr ⟨xs, keep y k, k.ev e⟩)
  · by_cases hi : m = i
    · subst hi
      rw [List.getElem?_set_self hml] at q
      cases q
      exact ⟨p, hp, new⟩
    · rw [List.getElem?_set_ne hi] at q
      obtain ⟨a, q1, q2⟩ := r.at_ i x q
      refine ⟨a, q1, ?_⟩
      by_cases ha : a = p
      · subst ha
        rcases r.nd m i a hp q1 with y | ⟨xs, y, k⟩ | ⟨xs, y, k⟩
        · exact absurd y hi
        · rw [hm] at y
          cases y
          exact absurd k (hw _ _ _)
        · rw [q] at y
          cases y
          exact (k.ev e).ro
      · exact q2.ne (p := p) e (fun b hb => upd_ne hb) ha
theorem Ev.push {p : Addr} {o : HO} (n : H p = none) : Ev K ρ H (ρ ++ [p]) (upd H p o) := ⟨⟨[p], rfl⟩, tups_new n, fun t p hp => tabs_new n _ _ (t p hp), codes_new n⟩
theorem Ev.wr {p : Addr} {o u : HO} (n : H p = some u) (l : Loose u) : Ev K ρ H ρ (upd H p o) := ⟨⟨[], (List.append_nil ρ).symm⟩, tups_wr n l, fun t p hp => tabs_wr n l _ _ (t p hp), codes_wr n l⟩
/-- a new thing that is not numbered (a tuple) -/
theorem RH.beside (r : RH K ρ h H) {p : Addr} {o : HO} (n : H p = none) (e : Ev K ρ H ρ (upd H p o)) : RH K ρ h (upd H p o) := by
  refine ⟨r.len, fun i j a q1 q2 => ?_, fun i w q => ?_⟩
  · rcases r.nd i j a q1 q2 with y | ⟨xs, y, k⟩ | ⟨xs, y, k⟩
    · exact .inl y
    · exact .inr (.inl ⟨xs, y, k.ev e⟩)
    · exact .inr (.inr ⟨xs, y, k.ev e⟩)
  · obtain ⟨a, q1, q2⟩ := r.at_ i w q
    refine ⟨a, q1, ?_⟩
    by_cases ha : a = p
    · subst ha
      rcases q2.there with z | k
      · exact absurd n z
      · exact (k.ev e).ro
    · exact q2.ne (p := p) e (fun b hb => upd_ne hb) ha
theorem Ev.beside {p : Addr} {o : HO} (n : H p = none) : Ev K ρ H ρ (upd H p o) := ⟨⟨[], (List.append_nil ρ).symm⟩, tups_new n, fun t p hp => tabs_new n _ _ (t p hp), codes_new n⟩
/-- a thing of which nothing is known, numbered -/
theorem RH.opq (r : RH K ρ h H) (p : Addr) (e : Ev K ρ H (ρ ++ [p]) H) : RH K (ρ ++ [p]) (h ++ [.opq]) H := by
  have lt : ∀ {i : Nat} {x : FO}, h[i]? = some x → (h ++ [FO.opq])[i]? = some x := fun {i x} q => by
    rw [List.getElem?_append_left (List.getElem?_eq_some_iff.mp q).1]; exact q
  have last : (h ++ [FO.opq])[ρ.length]? = some .opq := by rw [r.len]; simp
  have cases_ : ∀ i a, (ρ ++ [p])[i]? = some a → (ρ[i]? = some a) ∨ (i = ρ.length ∧ a = p) := fun i a q => by
    by_cases hi : i < ρ.length
    · rw [List.getElem?_append_left hi] at q
      exact .inl q
    · rw [List.getElem?_append_right (by omega)] at q
      have : i - ρ.length = 0 := by
        by_cases z : i - ρ.length = 0
        · exact z
        · rw [List.getElem?_eq_none (by simp; omega)] at q
          cases q
      rw [this] at q
      exact .inr ⟨by omega, (Option.some.inj q).symm⟩
  refine ⟨by rw [List.length_append, List.length_append, r.len]; rfl, fun i j a q1 q2 => ?_, fun i w q => ?_⟩
  · rcases cases_ i a q1 with z1 | ⟨z1, y1⟩
    · rcases cases_ j a q2 with z2 | ⟨z2, y2⟩
      · rcases r.nd i j a z1 z2 with y | ⟨w, y, k⟩ | ⟨w, y, k⟩
        · exact .inl y
        · exact .inr (.inl ⟨w, lt y, k.ev e⟩)
        · exact .inr (.inr ⟨w, lt y, k.ev e⟩)
      · exact .inr (.inr ⟨.opq, by rw [z2]; exact last, trivial⟩)
    · exact .inr (.inl ⟨.opq, by rw [z1]; exact last, trivial⟩)
  · by_cases hi : i < h.length
    · rw [List.getElem?_append_left hi] at q
      obtain ⟨a, q1, q2⟩ := r.at_ i w q
      refine ⟨a, e.get q1, ?_⟩
      by_cases ha : a = p
      · exact RO.ne (p := a + 1) e (fun b hb => rfl) (Nat.ne_of_lt (Nat.lt_succ_self a)) q2
      · exact q2.ne (p := p) e (fun b hb => rfl) ha
    · rw [List.getElem?_append_right (by omega)] at q
      have hz : i - h.length = 0 := by
        by_cases z : i - h.length = 0
        · exact z
        · rw [List.getElem?_eq_none (by simp; omega)] at q
          cases q
      rw [hz] at q
      have hi' : i = ρ.length := by rw [r.len]; omega
      refine ⟨p, by rw [hi']; simp, ?_⟩
      rw [← Option.some.inj q]
      trivial
/-- all but tables stay -/
theorem RH.extN {H' : Hp} (r : RH K ρ h H) (x : LamX.ExtN H H') (e : Ev K ρ H ρ H') : RH K ρ h H' := by
  refine ⟨r.len, fun i j a q1 q2 => ?_, fun i w q => ?_⟩
  · rcases r.nd i j a q1 q2 with y | ⟨w, y, k⟩ | ⟨w, y, k⟩
    · exact .inl y
    · exact .inr (.inl ⟨w, y, k.ev e⟩)
    · exact .inr (.inr ⟨w, y, k.ev e⟩)
  · obtain ⟨a, q1, q2⟩ := r.at_ i w q
    refine ⟨a, q1, ?_⟩
    cases w with
    | lst xs => obtain ⟨vs, z, k⟩ := q2; exact ⟨vs, x _ _ z (fun _ y => nomatch y), k.ev e⟩
    | ro xs =>
      rcases q2 with k | ⟨vs, z | ⟨o, z⟩, k⟩
      · exact .inl (k.ev e)
      · exact .inr ⟨vs, .inl (x _ _ z (fun _ y => nomatch y)), k.ev e⟩
      · exact .inr ⟨vs, .inr ⟨o, x _ _ z (fun _ y => nomatch y)⟩, k.ev e⟩
    | dic kvs => obtain ⟨vs, z, k⟩ := q2; exact ⟨vs, x _ _ z (fun _ y => nomatch y), k.ev e⟩
    | ins C fs => obtain ⟨dx, vs, z, k⟩ := q2; exact ⟨dx, vs, x _ _ z (fun _ y => nomatch y), k.ev e⟩
    | opq => trivial
end
end FX
set_option maxRecDepth 100000
set_option maxHeartbeats 4000000
namespace FX
open PySem PySem.Spec PyProof.Rows L2
variable [LamT]

/-! ### what follows a result -/
abbrev Rel (α β : Type) := List Addr → Hp → α → β → Prop
def Post {α β : Type} (K : PySem.W.Frag) (W : Wsh) (R : Rel α β) (ρ : List Addr) (H : Hp) (σ : L2.St) (r : Res α) (Q : β → Hp → Prop) : Prop := match r with
  | .ok x h' => ∀ (ρ' : List Addr) (H' : Hp) (v : β), Ev K ρ H ρ' H' → RH K ρ' h' H' → R ρ' H' x v → Q v H'
  | .exc c fs h' => ∀ (ρ' : List Addr) (H' : Hp) (d : Addr) (vs : List (Str × V)), Ev K ρ H ρ' H' → RH K ρ' h' H' → H' d = some (.xd vs) → RK K ρ' H' fs vs → W.w (.ref c) (some d) σ H'
  | .stuck => False
theorem Post.at_ {α β : Type} {K : PySem.W.Frag} {W : Wsh} {R : Rel α β} {ρ ρ1 : List Addr} {H H1 : Hp} {σ : L2.St} {r : Res α} {Q : β → Hp → Prop} (p : Post K W R ρ H σ r Q) (e : Ev K ρ H ρ1 H1) : Post K W R ρ1 H1 σ r Q := by
  cases r with
  | ok x h' => exact fun ρ' H' v e' => p ρ' H' v (e.trans e')
  | exc c fs h' => exact fun ρ' H' d vs e' => p ρ' H' d vs (e.trans e')
  | stuck => exact p
theorem Post.imp {α β : Type} {K : PySem.W.Frag} {W : Wsh} {R : Rel α β} {ρ : List Addr} {H : Hp} {σ : L2.St} {r : Res α} {Q Q' : β → Hp → Prop} (p : Post K W R ρ H σ r Q) (m : ∀ v H', Q v H' → Q' v H') : Post K W R ρ H σ r Q' := by
  cases r with
  | ok x h' => exact fun ρ' H' v e a b => m _ _ (p ρ' H' v e a b)
  | exc c fs h' => exact p
  | stuck => exact p
/-- a reading by a function -/
def tG {α β : Type} (R : Rel α β) (K : PySem.W.Frag) (W : Wsh) (ev : FSt → FH → Res α) : L2.St → Hp → (β → Hp → Prop) → Prop := fun σ H Q =>
  ∃ (ρ : List Addr) (σf : FSt) (h : FH), RS K W ρ H σf σ ∧ RH K ρ h H ∧ Post K W R ρ H σ (ev σf h) Q
def RB : Rel Bool Bool := fun _ _ a b => a = b
theorem coreE {α β γ δ : Type} {K : PySem.W.Frag} {W : Wsh} {R : Rel γ δ} {R1 : Rel α β} {ρ : List Addr} {H : Hp} {σf : FSt} {σ : L2.St} {h : FH} {ev : FSt → FH → Res α} {k : α → FH → Res γ} {Q : δ → Hp → Prop} {Q1 : β → Hp → Prop}
    (rs : RS K W ρ H σf σ) (rh : RH K ρ h H) (p : Post K W R ρ H σ ((ev σf h).bind k) Q)
    (go : ∀ (ρ1 : List Addr) (H1 : Hp) (h1 : FH) (b : α) (u : β), ev σf h = .ok b h1 → Ev K ρ H ρ1 H1 → RS K W ρ1 H1 σf σ → RH K ρ1 h1 H1 → R1 ρ1 H1 b u → Post K W R ρ1 H1 σ (k b h1) Q → Q1 u H1) : tG R1 K W ev σ H Q1 := by
  refine ⟨ρ, σf, h, rs, rh, ?_⟩

  cases e : ev σf h with
  | ok b h1 =>
    rw [e] at p
    exact fun ρ1 H1 u e1 rh1 r1 => go ρ1 H1 h1 b u e e1 (rs.ev e1) rh1 r1 (Post.at_ (r := k b h1) p e1)
  | exc c fs h1 =>
    rw [e] at p
    exact p
  | stuck =>
    rw [e] at p
    exact p.elim
theorem core {α β γ δ : Type} {K : PySem.W.Frag} {W : Wsh} {R : Rel γ δ} {R1 : Rel α β} {ρ : List Addr} {H : Hp} {σf : FSt} {σ : L2.St} {h : FH} {ev : FSt → FH → Res α} {k : α → FH → Res γ} {Q : δ → Hp → Prop} {Q1 : β → Hp → Prop}
    (rs : RS K W ρ H σf σ) (rh : RH K ρ h H) (p : Post K W R ρ H σ ((ev σf h).bind k) Q)
    (go : ∀ (ρ1 : List Addr) (H1 : Hp) (h1 : FH) (b : α) (u : β), Ev K ρ H ρ1 H1 → RS K W ρ1 H1 σf σ → RH K ρ1 h1 H1 → R1 ρ1 H1 b u → Post K W R ρ1 H1 σ (k b h1) Q → Q1 u H1) : tG R1 K W ev σ H Q1 := coreE rs rh p fun ρ1 H1 h1 b u _ => go ρ1 H1 h1 b u
/-- the last step -/
theorem Post.ok_ {α β : Type} {K : PySem.W.Frag} {W : Wsh} {R : Rel α β} {ρ : List Addr} {H : Hp} {σ : L2.St} {x : α} {h : FH} {Q : β → Hp → Prop} {v : β} (p : Post K W R ρ H σ (.ok x h) Q) (rh : RH K ρ h H) (r : R ρ H x v) : Q v H := p ρ H v .refl rh r

/-! ### judgements -/
abbrev FE (X : Cx) (W : Wsh) (e : Expr) (ev : EvE) : Prop := PE X e (tG (RV X.K) X.K W ev)
abbrev FT (X : Cx) (W : Wsh) (e : Expr) (ev : EvT) : Prop := PT X e (tG RB X.K W ev)
abbrev FW (X : Cx) (W : Wsh) (e : Expr) (ev : EvT) : Prop := PW X e (tG RB X.K W ev)
abbrev FA (X : Cx) (W : Wsh) (es : List Expr) (ev : EvA) : Prop := PA X es (tG (RVs X.K) X.K W ev)
theorem pe_imp {X : Cx} {e : Expr} {t t' : TE} (h : PE X e t) (m : ∀ σ H Q, t' σ H Q → t σ H Q) : PE X e t' := ⟨fun pins s σ H Q I q => h.run pins s σ H Q I (m σ H Q q)⟩
theorem pt_imp {X : Cx} {e : Expr} {t t' : TT} (h : PT X e t) (m : ∀ σ H Q, t' σ H Q → t σ H Q) : PT X e t' := ⟨fun pins s σ H Q I q => h.run pins s σ H Q I (m σ H Q q)⟩
theorem pw_imp {X : Cx} {e : Expr} {t t' : TT} (h : PW X e t) (m : ∀ σ H Q, t' σ H Q → t σ H Q) : PW X e t' := ⟨fun wh pins s σ H Q I q => h.run wh pins s σ H Q I (m σ H Q q)⟩
theorem pa_imp {X : Cx} {es : List Expr} {t t' : TA} (h : PA X es t) (m : ∀ σ H Q, t' σ H Q → t σ H Q) : PA X es t' := ⟨fun pos pins s σ H Q I q => h.run pos pins s σ H Q I (m σ H Q q)⟩
theorem ps_imp {X : Cx} {st : Stmt} {t t' : TS} (h : PS X st t) (m : ∀ D σ H, t' D σ H → t D σ H) : PS X st t' := ⟨fun pins s σ H D I q => h.run pins s σ H D I (m D σ H q)⟩
theorem pss_imp {X : Cx} {st : List Stmt} {t t' : TS} (h : PSs X st t) (m : ∀ D σ H, t' D σ H → t D σ H) : PSs X st t' := ⟨fun pins s σ H D I q => h.run pins s σ H D I (m D σ H q)⟩

/-! ### names, constants -/
def cVar (i : Nat) : EvE := fun σ h => match σ[i]? with
  | some (some v) => .ok v h
  | _ => .stuck
def cC (v : FV) : EvE := fun _ h => .ok v h
section
variable {X : Cx} {W : Wsh} {a b e : Expr} {es : List Expr} {ea eb : EvE} {pos : Pos}
theorem fe_var (i : Nat) {x : Str} (hN : X.N[i]? = some x := by rfl) (hv : Vis X.env.scope x := by first | exact Or.inl rfl | exact Or.inr (Or.inl rfl) | exact Or.inr (Or.inr rfl)) (hd : (x == ("__debug__" : Str)) = false := by decide)
    (hcd : (x == ("__classdict__" : Str)) = false := by decide) : FE X W (.Name x pos) (cVar i) := by
  refine pe_imp (pe_var hN hv hd hcd) fun σ H Q ⟨ρ, σf, h, rs, rh, p⟩ => ?_
  unfold cVar at p
  split at p
  · rename_i v q
    obtain ⟨u, q1, r⟩ := rs.at_ i v q
    exact ⟨u, q1, p.ok_ rh r⟩
  · exact p.elim
theorem fe_int {i : Int} {j : Nat} : FE X W (.Constant (.int i) j pos) (cC (.int i)) := pe_imp pe_int fun σ H Q ⟨ρ, σf, h, rs, rh, p⟩ => Post.ok_ (x := FV.int i) p rh (.int i)
theorem fe_bl {i : Bool} {j : Nat} : FE X W (.Constant (.bool i) j pos) (cC (.bl i)) := pe_imp pe_bl fun σ H Q ⟨ρ, σf, h, rs, rh, p⟩ => Post.ok_ (x := FV.bl i) p rh (.bl i)
theorem fe_non {j : Nat} : FE X W (.Constant .none j pos) (cC .non) := pe_imp pe_non fun σ H Q ⟨ρ, σf, h, rs, rh, p⟩ => Post.ok_ (x := FV.non) p rh .non
theorem fe_str {i : Str} {j : Nat} : FE X W (.Constant (.str i) j pos) (cC (.str i)) := pe_imp pe_str fun σ H Q ⟨ρ, σf, h, rs, rh, p⟩ => Post.ok_ (x := FV.str i) p rh (.str i)

/-! ### arguments -/
def cNil : EvA := fun _ h => .ok [] h
def cCons (ea : EvE) (er : EvA) : EvA := fun σ h => (ea σ h).bind fun x h1 => (er σ h1).bind fun xs h2 => .ok (x :: xs) h2
theorem fa_nil : FA X W [] cNil := pa_imp pa_nil fun σ H Q ⟨ρ, σf, h, rs, rh, p⟩ => Post.ok_ (x := ([] : List FV)) p rh .nil
theorem fa_cons {er : EvA} (ha : FE X W e ea) (hr : FA X W es er) (hs : starEach (e :: es) X.env = (false, eval e X.env) :: starEach es X.env := by rfl) : FA X W (e :: es) (cCons ea er) := by
  refine pa_imp (pa_cons ha hr hs) fun σ H Q ⟨ρ, σf, h, rs, rh, p⟩ => ?_
  refine core rs rh p fun ρ1 H1 h1 x v e1 rs1 rh1 r1 p1 => ?_
  refine core rs1 rh1 p1 fun ρ2 H2 h2 xs vs e2 rs2 rh2 r2 p2 => ?_
  exact Post.ok_ p2 rh2 (.cons (r1.ev e2) r2)

/-! ### operators by values -/
abbrev Op2 := FV → FV → FH → Option (FV × FH)
def Res.of {α : Type} : Option (α × FH) → Res α
  | some (x, h) => .ok x h
  | none => .stuck
def rF (K : PySem.W.Frag) (g : Op2) : R2 := fun x y H Q => ∃ (ρ : List Addr) (fx fy : FV) (h : FH) (fz : FV) (h' : FH), RV K ρ H fx x ∧ RV K ρ H fy y ∧ RH K ρ h H ∧ g fx fy h = some (fz, h') ∧
  ∀ (ρ' : List Addr) (H' : Hp) (v : V), Ev K ρ H ρ' H' → RH K ρ' h' H' → RV K ρ' H' fz v → Q v H'
def cBin (g : Op2) (ea eb : EvE) : EvE := fun σ h => (ea σ h).bind fun x h1 => (eb σ h1).bind fun y h2 => Res.of (g x y h2)
theorem rF_of {K : PySem.W.Frag} {g : Op2} {ρ : List Addr} {H : Hp} {σ : L2.St} {x y : FV} {u v : V} {h : FH} {Q : VK} (p : Post K W (RV K) ρ H σ (Res.of (g x y h)) Q) (rh : RH K ρ h H) (rx : RV K ρ H x u) (ry : RV K ρ H y v) : rF K g u v H Q := by
  cases q : g x y h with
  | none =>
    rw [q] at p
    exact p.elim
  | some z =>
    obtain ⟨z, h'⟩ := z
    rw [q] at p
    exact ⟨ρ, x, y, h, z, h', rx, ry, rh, q, p⟩
theorem tOp_of {g : Op2} {σ : L2.St} {H : Hp} {Q : VK} (h : tG (RV X.K) X.K W (cBin g ea eb) σ H Q) : tOp (rF X.K g) (tG (RV X.K) X.K W ea) (tG (RV X.K) X.K W eb) σ H Q := by
  obtain ⟨ρ, σf, h, rs, rh, p⟩ := h
  refine core rs rh p fun ρ1 H1 h1 x u e1 rs1 rh1 r1 p1 => ?_
  refine core rs1 rh1 p1 fun ρ2 H2 h2 y v e2 rs2 rh2 r2 p2 => ?_
  exact rF_of p2 rh2 (r1.ev e2) r2
theorem fe_bin {op : Operator} {g : Op2} (ho : OpR X (binaryOp op) (rF X.K g)) (ha : FE X W a ea) (hb : FE X W b eb) : FE X W (.BinOp a op b pos) (cBin g ea eb) := pe_imp (pe_op ho ha hb) fun _ _ _ h => tOp_of h
theorem fe_cmp {op : CmpOp} {g : Op2} (ho : OpR X (compareOp op) (rF X.K g)) (ha : FE X W a ea) (hb : FE X W b eb) (hm : behindInMarks op b = false := by first | exact nomark _ | rfl) : FE X W (.Compare a [op] [b] pos) (cBin g ea eb) :=
  pe_imp (pe_cmpR ho ha hb hm) fun _ _ _ h => tOp_of h
/-- one of two rules, by the values -/
theorem fe_two {g : Op2} {r1 r2 : R2} {t1 t2 : TE} (sel : FV → FV → FH → Bool) (p1 : PE X e t1) (p2 : PE X e t2) (m1 : ∀ σ H Q, tOp r1 (tG (RV X.K) X.K W ea) (tG (RV X.K) X.K W eb) σ H Q → t1 σ H Q) (m2 : ∀ σ H Q, tOp r2 (tG (RV X.K) X.K W ea) (tG (RV X.K) X.K W eb) σ H Q → t2 σ H Q)
    (w1 : ∀ fx fy h z x y (H : Hp) (ρ : List Addr) (Q : VK), sel fx fy h = true → g fx fy h = some z → RV X.K ρ H fx x → RV X.K ρ H fy y → RH X.K ρ h H → (∀ (ρ' : List Addr) (H' : Hp) (v : V), Ev X.K ρ H ρ' H' → RH X.K ρ' z.2 H' → RV X.K ρ' H' z.1 v → Q v H') → r1 x y H Q)
    (w2 : ∀ fx fy h z x y (H : Hp) (ρ : List Addr) (Q : VK), sel fx fy h = false → g fx fy h = some z → RV X.K ρ H fx x → RV X.K ρ H fy y → RH X.K ρ h H → (∀ (ρ' : List Addr) (H' : Hp) (v : V), Ev X.K ρ H ρ' H' → RH X.K ρ' z.2 H' → RV X.K ρ' H' z.1 v → Q v H') → r2 x y H Q) :
    FE X W e (cBin g ea eb) := by
  refine ⟨fun pins s σ H Q I ⟨ρ, σf, h, rs, rh, p⟩ => ?_⟩
  have go : ∀ (r : R2), (∀ fx h1 fy h2, ea σf h = .ok fx h1 → eb σf h1 = .ok fy h2 → ∀ z x y (H : Hp) (ρ : List Addr) (Q : VK), g fx fy h2 = some z → RV X.K ρ H fx x → RV X.K ρ H fy y → RH X.K ρ h2 H → (∀ (ρ' : List Addr) (H' : Hp) (v : V), Ev X.K ρ H ρ' H' → RH X.K ρ' z.2 H' → RV X.K ρ' H' z.1 v → Q v H') → r x y H Q) →
      tOp r (tG (RV X.K) X.K W ea) (tG (RV X.K) X.K W eb) σ H Q := fun r w => by
    refine coreE (R1 := RV X.K) rs rh p fun ρ1 H1 h1 x u q1 e1 rs1 rh1 r1 p1 => ?_
    refine coreE (R1 := RV X.K) rs1 rh1 p1 fun ρ2 H2 h2 y v q2 e2 rs2 rh2 r2 p2 => ?_
    cases q : g x y h2 with
    | none =>
      rw [q] at p2
      exact p2.elim
    | some z =>
      rw [q] at p2
      exact w x h1 y h2 q1 q2 z u v H2 ρ2 Q q (r1.ev e2) r2 rh2 p2
  by_cases c : ∃ fx h1 fy h2, ea σf h = .ok fx h1 ∧ eb σf h1 = .ok fy h2 ∧ sel fx fy h2 = false
  · obtain ⟨fx, h1, fy, h2, c1, c2, c3⟩ := c
    refine p2.run pins s σ H Q I (m2 σ H Q (go r2 fun fx' h1' fy' h2' q1 q2 z x y H ρ Q gz => ?_))
    rw [c1] at q1
    cases q1
    rw [c2] at q2
    cases q2
    exact w2 _ _ _ z x y H ρ Q c3 gz
  · refine p1.run pins s σ H Q I (m1 σ H Q (go r1 fun fx' h1' fy' h2' q1 q2 z x y H ρ Q gz => w1 _ _ _ z x y H ρ Q ?_ gz))
    cases s3 : sel fx' fy' h2' with
    | true => rfl
    | false => exact absurd ⟨_, _, _, _, q1, q2, s3⟩ c
/-- a bool, as a test -/
def cTb (ea : EvE) : EvT := fun σ h => (ea σ h).bind fun x h1 => match x with
  | .bl b => .ok b h1
  | _ => .stuck
theorem tTest_of {t : TE} {ev : EvE} {σ : L2.St} {H : Hp} {Q : Bool → Hp → Prop} (ht : ∀ σ H Q, tG (RV X.K) X.K W ev σ H Q → t σ H Q) (h : tG RB X.K W (cTb ev) σ H Q) : tTest t σ H Q := by
  obtain ⟨ρ, σf, h, rs, rh, p⟩ := h
  refine ht σ H _ (core rs rh p fun ρ1 H1 h1 x u e1 rs1 rh1 r1 p1 => ?_)
  cases x with
  | bl b =>
    cases r1
    exact ⟨b, rfl, Post.ok_ (R := RB) p1 rh1 rfl⟩
  | _ => exact p1.elim
theorem ft_cmp {op : CmpOp} {g : Op2} (ho : OpR X (compareOp op) (rF X.K g)) (ha : FE X W a ea) (hb : FE X W b eb) (hm : behindInMarks op b = false := by first | exact nomark _ | rfl) : FT X W (.Compare a [op] [b] pos) (cTb (cBin g ea eb)) :=
  pt_imp (pt_cmpR ho ha hb hm) fun _ _ _ h => tTest_of (fun _ _ _ z => tOp_of z) h
/-- a < b < c -/
def cChain (g g' : Op2) (ea eb ec : EvE) : EvE := fun σ h => (ea σ h).bind fun x h1 => (eb σ h1).bind fun y h2 => (Res.of (g x y h2)).bind fun k h3 => match k with
  | .bl true => (ec σ h3).bind fun z h4 => Res.of (g' y z h4)
  | .bl false => .ok (.bl false) h3
  | _ => .stuck
theorem tChain_of {c : Expr} {ec : EvE} {g g' : Op2} {σ : L2.St} {H : Hp} {Q : VK} (h : tG (RV X.K) X.K W (cChain g g' ea eb ec) σ H Q) : tChain (rF X.K g) (rF X.K g') (tG (RV X.K) X.K W ea) (tG (RV X.K) X.K W eb) (tG (RV X.K) X.K W ec) σ H Q := by
  obtain ⟨ρ, σf, h, rs, rh, p⟩ := h
  refine core rs rh p fun ρ1 H1 h1 x u e1 rs1 rh1 r1 p1 => ?_
  refine core rs1 rh1 p1 fun ρ2 H2 h2 y v e2 rs2 rh2 r2 p2 => ?_
  cases q : g x y h2 with
  | none =>
    rw [q] at p2
    exact p2.elim
  | some z =>
    obtain ⟨z, h3⟩ := z
    rw [q] at p2
    refine ⟨ρ2, x, y, h2, z, h3, r1.ev e2, r2, rh2, q, fun ρ3 H3 w e3 rh3 r3 => ?_⟩
    cases z with
    | bl k =>
      cases r3
      cases k with
      | true =>
        refine ⟨true, rfl, ?_⟩
        rw [if_pos rfl]
        refine core (rs2.ev e3) rh3 (p2.at_ e3) fun ρ4 H4 h4 z' u4 e4 rs4 rh4 r4 p4 => ?_
        exact rF_of p4 rh4 ((r2.ev e3).ev e4) r4
      | false =>
        refine ⟨false, rfl, ?_⟩
        rw [if_neg Bool.false_ne_true]
        exact Post.ok_ (x := FV.bl false) (p2.at_ e3) rh3 (.bl false)
    | _ => exact p2.elim
theorem fe_chain {c : Expr} {ec : EvE} {op op' : CmpOp} {g g' : Op2} (ho : OpR X (compareOp op) (rF X.K g)) (ho' : OpR X (compareOp op') (rF X.K g')) (ha : FE X W a ea) (hb : FE X W b eb) (hc : FE X W c ec) (hm : lastMarks [op, op'] [b, c] = false := by rfl) :
    FE X W (.Compare a [op, op'] [b, c] pos) (cChain g g' ea eb ec) := pe_imp (pe_chain ho ho' ha hb hc hm) fun _ _ _ h => tChain_of (c := c) h
theorem ft_chain {c : Expr} {ec : EvE} {op op' : CmpOp} {g g' : Op2} (ho : OpR X (compareOp op) (rF X.K g)) (ho' : OpR X (compareOp op') (rF X.K g')) (ha : FE X W a ea) (hb : FE X W b eb) (hc : FE X W c ec) (hm : lastMarks [op, op'] [b, c] = false := by rfl) :
    FT X W (.Compare a [op, op'] [b, c] pos) (cTb (cChain g g' ea eb ec)) := pt_imp (pt_chain ho ho' ha hb hc hm) fun σ H Q h => tTest_of (t := tChain (rF X.K g) (rF X.K g') (tG (RV X.K) X.K W ea) (tG (RV X.K) X.K W eb) (tG (RV X.K) X.K W ec)) (fun _ _ _ z => tChain_of (c := c) z) h

/-! ### and, or, not, if -/
def cAndT (ta tb : EvT) : EvT := fun σ h => (ta σ h).bind fun b h1 => if b = true then tb σ h1 else .ok false h1
def cOrT (ta tb : EvT) : EvT := fun σ h => (ta σ h).bind fun b h1 => if b = true then .ok true h1 else tb σ h1
def cNotT (ta : EvT) : EvT := fun σ h => (ta σ h).bind fun b h1 => .ok (!b) h1
section
variable {ta tb : EvT} {rest : List Expr}
theorem fw_and1 (ha : FT X W a ta) : FW X W (.BoolOp .And [a] pos) ta := pw_and1 ha
theorem fw_or1 (ha : FT X W a ta) : FW X W (.BoolOp .Or [a] pos) ta := pw_or1 ha
theorem fw_and (ha : FT X W a ta) (hb : FW X W (.BoolOp .And (b :: rest) pos) tb) : FW X W (.BoolOp .And (a :: b :: rest) pos) (cAndT ta tb) := by
  refine pw_imp (pw_and ha hb) fun σ H Q ⟨ρ, σf, h, rs, rh, p⟩ => ?_
  refine core (R1 := RB) rs rh p fun ρ1 H1 h1 x u e1 rs1 rh1 r1 p1 => ?_
  cases r1
  cases x with
  | true => exact ⟨ρ1, σf, h1, rs1, rh1, p1⟩
  | false => exact Post.ok_ (R := RB) p1 rh1 rfl
theorem fw_or (ha : FT X W a ta) (hb : FW X W (.BoolOp .Or (b :: rest) pos) tb) : FW X W (.BoolOp .Or (a :: b :: rest) pos) (cOrT ta tb) := by
  refine pw_imp (pw_or ha hb) fun σ H Q ⟨ρ, σf, h, rs, rh, p⟩ => ?_
  refine core (R1 := RB) rs rh p fun ρ1 H1 h1 x u e1 rs1 rh1 r1 p1 => ?_
  cases r1
  cases x with
  | false => exact ⟨ρ1, σf, h1, rs1, rh1, p1⟩
  | true => exact Post.ok_ (R := RB) p1 rh1 rfl
theorem ft_w (h : FW X W e ta) : FT X W e ta := h.pt
theorem ft_not (ha : FT X W a ta) : FT X W (.UnaryOp .Not a pos) (cNotT ta) := by
  refine pt_imp (pt_not ha) fun σ H Q ⟨ρ, σf, h, rs, rh, p⟩ => ?_
  refine core (R1 := RB) rs rh p fun ρ1 H1 h1 x u e1 rs1 rh1 r1 p1 => ?_
  cases r1
  exact Post.ok_ (R := RB) p1 rh1 rfl
def cIf (tc : EvT) (ea eb : EvE) : EvE := fun σ h => (tc σ h).bind fun k h1 => if k = true then ea σ h1 else eb σ h1
theorem fe_ifExp {c : Expr} {tc : EvT} (hc : FT X W c tc) (ha : FE X W a ea) (hb : FE X W b eb) : FE X W (.IfExp c a b pos) (cIf tc ea eb) := by
  refine pe_imp (pe_ifExp hc ha hb) fun σ H Q ⟨ρ, σf, h, rs, rh, p⟩ => ?_
  refine core (R1 := RB) rs rh p fun ρ1 H1 h1 x u e1 rs1 rh1 r1 p1 => ?_
  cases r1
  cases x with
  | true => exact ⟨ρ1, σf, h1, rs1, rh1, p1⟩
  | false => exact ⟨ρ1, σf, h1, rs1, rh1, p1⟩
/-- as values, all but the last bools -/
def cAnd (ea eb : EvE) : EvE := fun σ h => (ea σ h).bind fun x h1 => match x with
  | .bl true => eb σ h1
  | .bl false => .ok (.bl false) h1
  | _ => .stuck
def cOr (ea eb : EvE) : EvE := fun σ h => (ea σ h).bind fun x h1 => match x with
  | .bl false => eb σ h1
  | .bl true => .ok (.bl true) h1
  | _ => .stuck
def cNot (ea : EvE) : EvE := fun σ h => (ea σ h).bind fun x h1 => match x with
  | .bl b => .ok (.bl (!b)) h1
  | _ => .stuck
theorem fe_one {op : BoolOp} (ha : FE X W a ea) : FE X W (.BoolOp op [a] pos) ea := pe_one ha
theorem fe_and (ha : FE X W a ea) (hb : FE X W (.BoolOp .And (b :: rest) pos) eb) : FE X W (.BoolOp .And (a :: b :: rest) pos) (cAnd ea eb) := by
  refine pe_imp (pe_and ha hb) fun σ H Q ⟨ρ, σf, h, rs, rh, p⟩ => ?_
  refine core rs rh p fun ρ1 H1 h1 x u e1 rs1 rh1 r1 p1 => ?_
  cases x with
  | bl k =>
    cases r1
    cases k with
    | true => exact ⟨true, rfl, ρ1, σf, h1, rs1, rh1, p1⟩
    | false => exact ⟨false, rfl, Post.ok_ (x := FV.bl false) p1 rh1 (.bl false)⟩
  | _ => exact p1.elim
theorem fe_or (ha : FE X W a ea) (hb : FE X W (.BoolOp .Or (b :: rest) pos) eb) : FE X W (.BoolOp .Or (a :: b :: rest) pos) (cOr ea eb) := by
  refine pe_imp (pe_or ha hb) fun σ H Q ⟨ρ, σf, h, rs, rh, p⟩ => ?_
  refine core rs rh p fun ρ1 H1 h1 x u e1 rs1 rh1 r1 p1 => ?_
  cases x with
  | bl k =>
    cases r1
    cases k with
    | false => exact ⟨false, rfl, ρ1, σf, h1, rs1, rh1, p1⟩
    | true => exact ⟨true, rfl, Post.ok_ (x := FV.bl true) p1 rh1 (.bl true)⟩
  | _ => exact p1.elim
theorem fe_not (ha : FE X W a ea) : FE X W (.UnaryOp .Not a pos) (cNot ea) := by
  refine pe_imp (pe_not ha) fun σ H Q ⟨ρ, σf, h, rs, rh, p⟩ => ?_
  refine core rs rh p fun ρ1 H1 h1 x u e1 rs1 rh1 r1 p1 => ?_
  cases x with
  | bl k =>
    cases r1
    exact ⟨k, rfl, Post.ok_ (x := FV.bl (!k)) p1 rh1 (.bl _)⟩
  | _ => exact p1.elim
end

/-! ### truth -/
def truF : FV → FH → Option Bool
  | .non, _ => some false
  | .bl b, _ => some b
  | .int i, _ => some (i != 0)
  | .str y, _ => if y.length ≤ sizeLine then some ((y.length : Int) != 0) else none
  | .tup xs, _ => some !xs.isEmpty
  | .ref n, h => match h[n]? with
    | some (.lst xs) => some !xs.isEmpty
    | some (.dic kvs) => some !kvs.isEmpty
    | _ => none
  | _, _ => none
theorem RVs.empty {K : PySem.W.Frag} {ρ : List Addr} {H : Hp} : ∀ {xs : List FV} {vs : List V}, RVs K ρ H xs vs → xs.isEmpty = vs.isEmpty
  | _, _, .nil => rfl
  | _, _, .cons _ _ => rfl
theorem RK.empty {K : PySem.W.Frag} {ρ : List Addr} {H : Hp} {κ : Type} : ∀ {xs : List (κ × FV)} {vs : List (κ × V)}, RK K ρ H xs vs → xs.isEmpty = vs.isEmpty
  | _, _, .nil => rfl
  | _, _, .cons _ _ => rfl
theorem RH.ref {K : PySem.W.Frag} {ρ : List Addr} {h : FH} {H : Hp} (rh : RH K ρ h H) {n : Nat} {o : FO} {a : Addr} (e : h[n]? = some o) (q : ρ[n]? = some a) : RO K ρ H a o := by
  obtain ⟨b, q1, q2⟩ := rh.at_ n o e
  rw [q] at q1
  cases q1
  exact q2
theorem truV_of {K : PySem.W.Frag} {ρ : List Addr} {h : FH} {H : Hp} {x : FV} {v : V} {k : Bool} (rh : RH K ρ h H) (r : RV K ρ H x v) (e : truF x h = some k) : TruV K v H k := by
  cases r with
  | non => exact (Option.some.inj e).symm
  | bl b => exact (Option.some.inj e).symm
  | int i => exact (Option.some.inj e).symm
  | str y =>
    simp only [truF] at e
    split at e
    · rename_i z
      exact ⟨z, (Option.some.inj e).symm⟩
    · cases e
  | tup s rs =>
    refine .inr (.inl ⟨_, s, ?_⟩)
    rw [← rs.empty]
    exact (Option.some.inj e).symm
  | ref q =>
    simp only [truF] at e
    split at e
    · rename_i xs z
      obtain ⟨vs, q1, q2⟩ := rh.ref z q
      refine .inl ⟨vs, .of q1, ?_⟩
      rw [← q2.empty]
      exact (Option.some.inj e).symm
    · rename_i kvs z
      obtain ⟨vs, q1, q2⟩ := rh.ref z q
      refine .inr (.inr ⟨vs, q1, ?_⟩)
      rw [← q2.empty]
      exact (Option.some.inj e).symm
    · cases e
  | adr a => cases e
  | ty n => cases e
def cTru (ea : EvE) : EvT := fun σ h => (ea σ h).bind fun x h1 => match truF x h1 with
  | some b => .ok b h1
  | none => .stuck
theorem ft_val (ha : FE X W a ea) (he : ∀ whole, isTrue a X.env whole = (do let v ← whole; standAt a.pos; holding [v] (truthy v)) := by intro _; rfl) : FT X W a (cTru ea) := by
  refine pt_imp (pt_truth ha he) fun σ H Q ⟨ρ, σf, h, rs, rh, p⟩ => ?_
  refine core rs rh p fun ρ1 H1 h1 x u e1 rs1 rh1 r1 p1 => ?_
  cases q : truF x h1 with
  | none =>
    rw [q] at p1
    exact p1.elim
  | some k =>
    rw [q] at p1
    exact ⟨k, truV_of rh1 r1 q, Post.ok_ (R := RB) p1 rh1 rfl⟩
end
end FX
set_option maxRecDepth 100000
set_option maxHeartbeats 4000000
namespace FX
open PySem PySem.Spec PyProof.Rows L2
variable [LamT]

/-! ### sizes of numbers -/
def BIG : Nat := 2 ^ 8000
theorem big_of {n : Nat} (h : n ≤ 10 ^ 2000) : n < BIG := Nat.lt_of_le_of_lt h (by unfold BIG; decide +kernel)
def sm (i : Int) : Bool := decide (i.natAbs < BIG)
theorem sm_log {i : Int} (h : sm i = true) : i.natAbs.log2 < 8001 := by
  have h1 : i.natAbs < 2 ^ 8000 := of_decide_eq_true h
  by_cases z : i.natAbs = 0
  · rw [z]; decide
  · have := (Nat.log2_lt z).mpr h1
    omega

/-! ### what is read -/
def seqF : FV → FH → Option (List FV)
  | .tup xs, _ => some xs
  | .ref n, h => match h[n]? with
    | some (.lst xs) => some xs
    | some (.ro xs) => some xs
    | _ => none
  | _, _ => none
section
variable {K : PySem.W.Frag} {ρ : List Addr} {h : FH} {H : Hp}
theorem ro_sq {a : Addr} {xs : List FV} (r : RO K ρ H a (.ro xs)) : ∃ vs, SqL K H a vs ∧ RVs K ρ H xs vs := by
  rcases r with ⟨vs, q, r⟩ | ⟨vs, q, r⟩
  · exact ⟨vs, .inr q, r⟩
  · exact ⟨vs, .inl q, r⟩
theorem seqF_of (rh : RH K ρ h H) {x : FV} {v : V} {xs : List FV} (r : RV K ρ H x v) (e : seqF x h = some xs) : ∃ a vs, v = .ref a ∧ (SqL K H a vs ∨ SqT K H a vs) ∧ RVs K ρ H xs vs := by
  cases r with
  | tup s rs =>
    cases e
    exact ⟨_, _, rfl, .inr s, rs⟩
  | ref q =>
    simp only [seqF] at e
    split at e
    · rename_i ys z
      cases e
      obtain ⟨vs, q1, q2⟩ := rh.ref z q
      exact ⟨_, vs, rfl, .inl (.of q1), q2⟩
    · rename_i ys z
      cases e
      obtain ⟨vs, q1, q2⟩ := ro_sq (rh.ref z q)
      exact ⟨_, vs, rfl, .inl q1, q2⟩
    · cases e
  | _ => cases e
/-- a list that may be written -/
theorem lst_of (rh : RH K ρ h H) {n : Nat} {a : Addr} {xs : List FV} (q : ρ[n]? = some a) (e : h[n]? = some (.lst xs)) : ∃ vs, H a = some (.lst vs) ∧ RVs K ρ H xs vs := rh.ref e q
theorem RVs.len' {xs : List FV} {vs : List V} (r : RVs K ρ H xs vs) : vs.length = xs.length := r.len.symm

/-! ### data at any depth -/
def datF (h : FH) : Nat → FV → Option PyData
  | 0, _ => none
  | n + 1, v => match v with
    | .non => some .none
    | .bl b => some (.bool b)
    | .int i => some (.int i)
    | .str x => if PyData.strOk x = true then some (.str x) else none
    | .tup xs => (xs.mapM (datF h n)).map .tuple
    | .ref k => match h[k]? with
      | some (.lst xs) => (xs.mapM (datF h n)).map .list
      | some (.ro xs) => (xs.mapM (datF h n)).map .list
      | _ => none
    | _ => none
theorem mapM_cons {α β : Type} {f : α → Option β} {x : α} {xs : List α} {ds : List β} (e : (x :: xs).mapM f = some ds) : ∃ d r, ds = d :: r ∧ f x = some d ∧ xs.mapM f = some r := by
  rw [List.mapM_cons] at e
  cases q : f x with
  | none => rw [q] at e; cases e
  | some d =>
    rw [q] at e
    cases q2 : xs.mapM f with
    | none => rw [q2] at e; cases e
    | some r =>
      rw [q2] at e
      cases e
      exact ⟨d, r, rfl, rfl, rfl⟩
theorem mapM_nil {α β : Type} {f : α → Option β} {ds : List β} (e : ([] : List α).mapM f = some ds) : ds = [] := by
  rw [List.mapM_nil] at e
  cases e
  rfl
theorem datF_dp (rh : RH K ρ h H) : ∀ (n : Nat) {x : FV} {v : V} {d : PyData}, RV K ρ H x v → datF h n x = some d → Dp K H v d ∧ d.canLay0 = true ∧ d.depth ≤ n := by
  intro n
  induction n with
  | zero => intro x v d r e; cases e
  | succ n ih =>
    have all : ∀ (xs : List FV) (vs : List V) (ds : List PyData), RVs K ρ H xs vs → xs.mapM (datF h n) = some ds → DpAll K H vs ds ∧ PyData.canLayAll0 ds = true ∧ PyData.depthAll ds ≤ n := by
      intro xs
      induction xs with
      | nil =>
        intro vs ds r e
        cases r
        cases mapM_nil e
        exact ⟨.nil, by simp only [PyData.canLayAll0], by simp only [PyData.depthAll]; omega⟩
      | cons x xs ihx =>
        intro vs ds r e
        cases r with
        | cons r1 r2 =>
          obtain ⟨d, rr, rfl, q1, q2⟩ := mapM_cons e
          obtain ⟨a1, a2, a3⟩ := ih r1 q1
          obtain ⟨b1, b2, b3⟩ := ihx _ _ r2 q2
          exact ⟨.cons a1 b1, by simp only [PyData.canLayAll0, a2, b2]; rfl, by simp only [PyData.depthAll]; omega⟩
    intro x v d r e
    cases r with
    | non => cases e; exact ⟨.non, by simp only [PyData.canLay0], by simp only [PyData.depth]; omega⟩
    | bl b => cases e; exact ⟨.bl b, by simp only [PyData.canLay0], by simp only [PyData.depth]; omega⟩
    | int i => cases e; exact ⟨.int i, by simp only [PyData.canLay0], by simp only [PyData.depth]; omega⟩
    | str y =>
      simp only [datF] at e
      split at e
      · rename_i z
        cases e
        exact ⟨.str y, by simpa only [PyData.canLay0] using z, by simp only [PyData.depth]; omega⟩
      · cases e
    | tup s rs =>
      simp only [datF] at e
      obtain ⟨ds, q, rfl⟩ := Option.map_eq_some_iff.mp e
      obtain ⟨a1, a2, a3⟩ := all _ _ _ rs q
      exact ⟨.tup s a1, by simpa only [PyData.canLay0] using a2, by simp only [PyData.depth]; omega⟩
    | ref q =>
      simp only [datF] at e
      split at e
      · rename_i xs z
        obtain ⟨ds, q3, rfl⟩ := Option.map_eq_some_iff.mp e
        obtain ⟨vs, q1, q2⟩ := rh.ref z q
        obtain ⟨a1, a2, a3⟩ := all _ _ _ q2 q3
        exact ⟨.lst (.of q1) a1, by simpa only [PyData.canLay0] using a2, by simp only [PyData.depth]; omega⟩
      · rename_i xs z
        obtain ⟨ds, q3, rfl⟩ := Option.map_eq_some_iff.mp e
        obtain ⟨vs, q1, q2⟩ := ro_sq (rh.ref z q)
        obtain ⟨a1, a2, a3⟩ := all _ _ _ q2 q3
        exact ⟨.lst q1 a1, by simpa only [PyData.canLay0] using a2, by simp only [PyData.depth]; omega⟩
      · cases e
    | adr a => cases e
    | ty n => cases e
/-- as deep as is looked -/
def DEEP : Nat := 60
theorem shaped_of {d : PyData} (a : d.canLay0 = true) (b : d.depth ≤ DEEP) : SeqAt.shaped d = true := by
  unfold SeqAt.shaped
  rw [a, Bool.true_and]
  unfold DEEP at b
  exact decide_eq_true (by omega)
end

/-! ### the operators -/
def addF : Op2 := fun x y h => match x, y with
  | .int i, .int j => some (.int (i + j), h)
  | .str i, .str j => if i.length + j.length ≤ sizeLine then some (.str (i ++ j), h) else none
  | .tup xs, .tup ys => if xs.length + ys.length ≤ sizeLine then some (.tup (xs ++ ys), h) else none
  | .ref n, .ref m => match h[n]?, h[m]? with
    | some (.lst xs), some (.lst ys) => if xs.length + ys.length ≤ sizeLine then some (.ref h.length, h ++ [.lst (xs ++ ys)]) else none
    | _, _ => none
  | _, _ => none
def subF : Op2 := fun x y h => match x, y with
  | .int i, .int j => some (.int (i - j), h)
  | _, _ => none
def mulF : Op2 := fun x y h => match x, y with
  | .int i, .int j => if (sm i && sm j) = true then some (.int (i * j), h) else none
  | .ref n, .int k => match h[n]? with
    | some (.lst xs) => if -(2 ^ 63) ≤ k ∧ k < 2 ^ 63 ∧ xs.length * k.toNat ≤ sizeLine then some (.ref h.length, h ++ [.lst (List.replicate k.toNat xs).flatten]) else none
    | _ => none
  | _, _ => none
def divF : Op2 := fun x y h => match x, y with
  | .int i, .int j => if j ≠ 0 ∧ sm j = true then some (.int (i.fdiv j), h) else none
  | _, _ => none
def modF : Op2 := fun x y h => match x, y with
  | .int i, .int j => if j ≠ 0 then some (.int (i.fmod j), h) else none
  | _, _ => none
def powF : Op2 := fun x y h => match x, y with
  | .int i, .int j => if 0 ≤ j ∧ j ≤ 1000000 ∧ i.natAbs < 2 ^ 64 then some (.int (i ^ j.toNat), h) else none
  | _, _ => none
def eqF : Op2 := fun x y h => match datF h DEEP x, datF h DEEP y with
  | some d, some e => some (.bl (PyData.eqv d e), h)
  | _, _ => none
def neF : Op2 := fun x y h => match datF h DEEP x, datF h DEEP y with
  | some d, some e => some (.bl (!PyData.eqv d e), h)
  | _, _ => none
def ltF : Op2 := fun x y h => match x, y with
  | .int i, .int j => some (.bl (decide (i < j)), h)
  | _, _ => none
def leF : Op2 := fun x y h => match x, y with
  | .int i, .int j => some (.bl (decide (i ≤ j)), h)
  | _, _ => none
def gtF : Op2 := fun x y h => match x, y with
  | .int i, .int j => some (.bl (decide (j < i)), h)
  | _, _ => none
def geF : Op2 := fun x y h => match x, y with
  | .int i, .int j => some (.bl (decide (j ≤ i)), h)
  | _, _ => none
def isNon : FV → Bool
  | .non => true
  | _ => false
def isF : Op2 := fun x y h => match y with
  | .non => some (.bl (isNon x), h)
  | _ => none
def isnF : Op2 := fun x y h => match y with
  | .non => some (.bl (!isNon x), h)
  | _ => none
/-- x in xs -/
def inF : Op2 := fun x y h => match datF h DEEP x, datF h DEEP y with
  | some d, some (.list ds) => some (.bl (ds.any fun e => PyData.eqv e d), h)
  | some d, some (.tuple ds) => some (.bl (ds.any fun e => PyData.eqv e d), h)
  | some (.str i), some (.str j) => some (.bl (!(Builtin.Str.occurrences j i 0 j.length 1).isEmpty), h)
  | _, _ => none
def ninF : Op2 := fun x y h => match datF h DEEP x, datF h DEEP y with
  | some d, some (.list ds) => some (.bl (!ds.any fun e => PyData.eqv e d), h)
  | some d, some (.tuple ds) => some (.bl (!ds.any fun e => PyData.eqv e d), h)
  | some (.str i), some (.str j) => some (.bl (!(!(Builtin.Str.occurrences j i 0 j.length 1).isEmpty)), h)
  | _, _ => none
theorem room_in {A : Around} {d : PyData} {m : Nat} (hd : d.depth ≤ DEEP) (hu : A.units + 64 < cLine) : A.units + 1 + min m d.depth < cLine := by
  have h2 : min m d.depth ≤ d.depth := Nat.min_le_right _ _
  unfold DEEP at hd
  omega
section
variable {X : Cx}
theorem rF_ok {K : PySem.W.Frag} {ρ' : List Addr} {h' : FH} {H' : Hp} {ρ : List Addr} {H : Hp} {fz : FV} {v : V} {Q : VK} (go : ∀ (ρ' : List Addr) (H' : Hp) (v : V), Ev K ρ H ρ' H' → RH K ρ' h' H' → RV K ρ' H' fz v → Q v H')
    (e : Ev K ρ H ρ' H') (rh : RH K ρ' h' H') (r : RV K ρ' H' fz v) : Q v H' := go ρ' H' v e rh r
theorem new_list {K : PySem.W.Frag} {ρ : List Addr} {h : FH} {H : Hp} {xs : List FV} {vs : List V} {Q : VK} (rh : RH K ρ h H) (r : RVs K ρ H xs vs)
    (go : ∀ (ρ' : List Addr) (H' : Hp) (v : V), Ev K ρ H ρ' H' → RH K ρ' (h ++ [.lst xs]) H' → RV K ρ' H' (.ref h.length) v → Q v H') (p : Addr) (hp : H p = none) : Q (.ref p) (upd H p (.lst vs)) := by
  have e : Ev K ρ H (ρ ++ [p]) (upd H p (.lst vs)) := .push hp
  exact go _ _ _ e (rh.push hp e ⟨vs, upd_same, r.ev e⟩) (.ref (by rw [← rh.len]; simp))
theorem new_tup {K : PySem.W.Frag} {ρ : List Addr} {h : FH} {H : Hp} {xs : List FV} {vs : List V} {Q : VK} (rh : RH K ρ h H) (r : RVs K ρ H xs vs)
    (go : ∀ (ρ' : List Addr) (H' : Hp) (v : V), Ev K ρ H ρ' H' → RH K ρ' h H' → RV K ρ' H' (.tup xs) v → Q v H') (p : Addr) (hp : H p = none) : Q (.ref p) (upd H p (.tup vs)) := by
  have e : Ev K ρ H ρ (upd H p (.tup vs)) := .beside hp
  exact go _ _ _ e (rh.beside hp e) (.tup (.inl (.inl upd_same)) (r.ev e))
theorem of_add : OpR X (binaryOp .Add) (rF X.K addF) := by
  intro pins s σ H x y v u Q I rx ry ⟨ρ, fx, fy, h, fz, h', r1, r2, rh, e, go⟩
  cases r1 with
  | int i =>
    cases r2 with
    | int j =>
      cases e
      exact op_add pins s σ H _ _ v u Q I rx ry ⟨i, j, rfl, rfl, go ρ H _ .refl rh (.int _)⟩
    | _ => cases e
  | str i =>
    cases r2 with
    | str j =>
      simp only [addF] at e
      split at e
      · rename_i z
        cases e
        exact op_add_str pins s σ H _ _ v u Q I rx ry ⟨i, j, rfl, rfl, z, go ρ H _ .refl rh (.str _)⟩
      · cases e
    | _ => cases e
  | tup s1 q1 =>
    cases r2 with
    | tup s2 q2 =>
      simp only [addF] at e
      split at e
      · rename_i z
        cases e
        refine op_catA pins s σ H _ _ v u Q I rx ry ⟨_, _, _, _, rfl, rfl, s1, s2, by rw [q1.len', q2.len']; exact z, fun n => ?_, fun n1 n2 => ?_, fun n1 n2 p hp => new_tup rh (q1.app q2) go p hp⟩
        · subst n
          cases q1
          exact go ρ H _ .refl rh (.tup s2 q2)
        · subst n2
          cases q2
          rw [List.append_nil] at go
          exact go ρ H _ .refl rh (.tup s1 q1)
      · cases e
    | _ => cases e
  | ref n =>
    cases r2 with
    | ref m =>
      simp only [addF] at e
      split at e
      · rename_i xs ys z1 z2
        split at e
        · rename_i z
          cases e
          obtain ⟨vs, a1, a2⟩ := lst_of rh n z1
          obtain ⟨us, b1, b2⟩ := lst_of rh m z2
          exact op_cat pins s σ H _ _ v u Q I rx ry ⟨_, _, vs, us, rfl, rfl, a1, b1, by rw [a2.len', b2.len']; exact z, fun p hp => new_list rh (a2.app b2) go p hp⟩
        · cases e
      · cases e
    | _ => cases e
  | _ => cases e
theorem of_sub : OpR X (binaryOp .Sub) (rF X.K subF) := by
  intro pins s σ H x y v u Q I rx ry ⟨ρ, fx, fy, h, fz, h', r1, r2, rh, e, go⟩
  cases r1 with
  | int i =>
    cases r2 with
    | int j =>
      cases e
      exact op_sub pins s σ H _ _ v u Q I rx ry ⟨i, j, rfl, rfl, go ρ H _ .refl rh (.int _)⟩
    | _ => cases e
  | _ => cases e
theorem of_mul : OpR X (binaryOp .Mult) (rF X.K mulF) := by
  intro pins s σ H x y v u Q I rx ry ⟨ρ, fx, fy, h, fz, h', r1, r2, rh, e, go⟩
  cases r1 with
  | int i =>
    cases r2 with
    | int j =>
      simp only [mulF] at e
      split at e
      · rename_i z
        cases e
        obtain ⟨z1, z2⟩ := Bool.and_eq_true_iff.mp z
        have l1 := sm_log z1
        have l2 := sm_log z2
        exact op_mulW pins s σ H _ _ v u Q I rx ry ⟨i, j, rfl, rfl, (by unfold CMulW; omega), go ρ H _ .refl rh (.int _)⟩
      · cases e
    | _ => cases e
  | ref n =>
    cases r2 with
    | int k =>
      simp only [mulF] at e
      split at e
      · rename_i xs z1
        split at e
        · rename_i z
          cases e
          obtain ⟨vs, a1, a2⟩ := lst_of rh n z1
          obtain ⟨b1, b2, b3⟩ := z
          have rep : ∀ m : Nat, RVs X.K ρ H (List.replicate m xs).flatten (List.replicate m vs).flatten := by
            intro m
            induction m with
            | zero => exact .nil
            | succ m ih =>
              rw [List.replicate_succ, List.replicate_succ, List.flatten_cons, List.flatten_cons]
              exact a2.app ih
          exact op_rep pins s σ H _ _ v u Q I rx ry ⟨_, k, vs, rfl, rfl, a1, b1, b2, by rw [a2.len']; exact b3, fun p hp => new_list rh (rep _) go p hp⟩
        · cases e
      · cases e
    | _ => cases e
  | _ => cases e
theorem of_div : OpR X (binaryOp .FloorDiv) (rF X.K divF) := by
  intro pins s σ H x y v u Q I rx ry ⟨ρ, fx, fy, h, fz, h', r1, r2, rh, e, go⟩
  cases r1 with
  | int i =>
    cases r2 with
    | int j =>
      simp only [divF] at e
      split at e
      · rename_i z
        cases e
        obtain ⟨z1, z2⟩ := z
        have l := sm_log z2
        obtain ⟨t, rfl⟩ := rx
        obtain ⟨t', rfl⟩ := ry
        exact floordiv_int z1 ⟨.int _, H, I.tok _, ⟨_, rfl⟩, go ρ H _ .refl rh (.int _)⟩ (.inl (PyProof.noPylong_of_log2 (by omega)))
      · cases e
    | _ => cases e
  | _ => cases e
theorem of_mod : OpR X (binaryOp .Mod) (rF X.K modF) := by
  intro pins s σ H x y v u Q I rx ry ⟨ρ, fx, fy, h, fz, h', r1, r2, rh, e, go⟩
  cases r1 with
  | int i =>
    cases r2 with
    | int j =>
      simp only [modF] at e
      split at e
      · rename_i z
        cases e
        exact op_modN pins s σ H _ _ v u Q I rx ry ⟨i, j, rfl, rfl, z, go ρ H _ .refl rh (.int _)⟩
      · cases e
    | _ => cases e
  | _ => cases e
theorem of_pow : OpR X (binaryOp .Pow) (rF X.K powF) := by
  intro pins s σ H x y v u Q I rx ry ⟨ρ, fx, fy, h, fz, h', r1, r2, rh, e, go⟩
  cases r1 with
  | int i =>
    cases r2 with
    | int j =>
      simp only [powF] at e
      split at e
      · rename_i z
        cases e
        exact op_pow pins s σ H _ _ v u Q I rx ry ⟨i, j, rfl, rfl, z, go ρ H _ .refl rh (.int _)⟩
      · cases e
    | _ => cases e
  | _ => cases e
theorem of_eq (hu : X.A.units + 64 < cLine) : OpR X (compareOp .Eq) (rF X.K eqF) := by
  intro pins s σ H x y v u Q I rx ry ⟨ρ, fx, fy, h, fz, h', r1, r2, rh, e, go⟩
  simp only [eqF] at e
  split at e
  · rename_i d1 d2 q1 q2
    cases e
    obtain ⟨a1, a2, a3⟩ := datF_dp rh _ r1 q1
    obtain ⟨b1, b2, b3⟩ := datF_dp rh _ r2 q2
    exact op_eqD hu pins s σ H _ _ v u Q I rx ry ⟨_, _, a1, b1, shaped_of a2 a3, shaped_of b2 b3, go ρ H _ .refl rh (.bl _)⟩
  · cases e
theorem of_ne (hu : X.A.units + 64 < cLine) : OpR X (compareOp .NotEq) (rF X.K neF) := by
  intro pins s σ H x y v u Q I rx ry ⟨ρ, fx, fy, h, fz, h', r1, r2, rh, e, go⟩
  simp only [neF] at e
  split at e
  · rename_i d1 d2 q1 q2
    cases e
    obtain ⟨a1, a2, a3⟩ := datF_dp rh _ r1 q1
    obtain ⟨b1, b2, b3⟩ := datF_dp rh _ r2 q2
    exact op_neD hu pins s σ H _ _ v u Q I rx ry ⟨_, _, a1, b1, shaped_of a2 a3, shaped_of b2 b3, go ρ H _ .refl rh (.bl _)⟩
  · cases e
theorem of_lt : OpR X (compareOp .Lt) (rF X.K ltF) := by
  intro pins s σ H x y v u Q I rx ry ⟨ρ, fx, fy, h, fz, h', r1, r2, rh, e, go⟩
  cases r1 with
  | int i =>
    cases r2 with
    | int j =>
      cases e
      exact op_lt pins s σ H _ _ v u Q I rx ry ⟨i, j, rfl, rfl, go ρ H _ .refl rh (.bl _)⟩
    | _ => cases e
  | _ => cases e
theorem of_le : OpR X (compareOp .LtE) (rF X.K leF) := by
  intro pins s σ H x y v u Q I rx ry ⟨ρ, fx, fy, h, fz, h', r1, r2, rh, e, go⟩
  cases r1 with
  | int i =>
    cases r2 with
    | int j =>
      cases e
      exact op_le pins s σ H _ _ v u Q I rx ry ⟨i, j, rfl, rfl, go ρ H _ .refl rh (.bl _)⟩
    | _ => cases e
  | _ => cases e
theorem of_gt : OpR X (compareOp .Gt) (rF X.K gtF) := by
  intro pins s σ H x y v u Q I rx ry ⟨ρ, fx, fy, h, fz, h', r1, r2, rh, e, go⟩
  cases r1 with
  | int i =>
    cases r2 with
    | int j =>
      cases e
      exact op_gt pins s σ H _ _ v u Q I rx ry ⟨i, j, rfl, rfl, go ρ H _ .refl rh (.bl _)⟩
    | _ => cases e
  | _ => cases e
theorem of_ge : OpR X (compareOp .GtE) (rF X.K geF) := by
  intro pins s σ H x y v u Q I rx ry ⟨ρ, fx, fy, h, fz, h', r1, r2, rh, e, go⟩
  cases r1 with
  | int i =>
    cases r2 with
    | int j =>
      cases e
      exact op_ge pins s σ H _ _ v u Q I rx ry ⟨i, j, rfl, rfl, go ρ H _ .refl rh (.bl _)⟩
    | _ => cases e
  | _ => cases e
theorem isNon_of {K : PySem.W.Frag} {ρ : List Addr} {H : Hp} {x : FV} {v : V} (r : RV K ρ H x v) : decide (v = .non) = isNon x := by
  cases r <;> rfl
theorem of_is : OpR X (compareOp .Is) (rF X.K isF) := by
  intro pins s σ H x y v u Q I rx ry ⟨ρ, fx, fy, h, fz, h', r1, r2, rh, e, go⟩
  cases r2 with
  | non =>
    cases e
    exact op_isN pins s σ H _ _ v u Q I rx ry ⟨rfl, by rw [isNon_of r1]; exact go ρ H _ .refl rh (.bl _)⟩
  | _ => cases e
theorem of_isn : OpR X (compareOp .IsNot) (rF X.K isnF) := by
  intro pins s σ H x y v u Q I rx ry ⟨ρ, fx, fy, h, fz, h', r1, r2, rh, e, go⟩
  cases r2 with
  | non =>
    cases e
    exact op_notN pins s σ H _ _ v u Q I rx ry ⟨rfl, by rw [isNon_of r1]; exact go ρ H _ .refl rh (.bl _)⟩
  | _ => cases e
theorem dat_str {h : FH} {n : Nat} {x : FV} {i : Str} (e : datF h n x = some (.str i)) : x = .str i := by
  cases n with
  | zero => cases e
  | succ n =>
    cases x with
    | str y =>
      simp only [datF] at e
      split at e
      · cases e; rfl
      · cases e
    | tup xs =>
      simp only [datF] at e
      obtain ⟨ds, _, q⟩ := Option.map_eq_some_iff.mp e
      cases q
    | ref k =>
      simp only [datF] at e
      split at e
      · obtain ⟨ds, _, q⟩ := Option.map_eq_some_iff.mp e
        cases q
      · obtain ⟨ds, _, q⟩ := Option.map_eq_some_iff.mp e
        cases q
      · cases e
    | _ => cases e
theorem of_in (hu : X.A.units + 64 < cLine) : OpR X (compareOp .In) (rF X.K inF) := by
  intro pins s σ H x y v u Q I rx ry ⟨ρ, fx, fy, h, fz, h', r1, r2, rh, e, go⟩
  simp only [inF] at e
  split at e
  · rename_i d ds q1 q2
    cases e
    obtain ⟨a1, a2, a3⟩ := datF_dp rh _ r1 q1
    obtain ⟨b1, b2, b3⟩ := datF_dp rh _ r2 q2
    obtain ⟨as, w1⟩ := Dp.reads I d x v a1 rx
    obtain ⟨bs, w2⟩ := Dp.reads I (.list ds) y u b1 ry
    exact SeqAt.in_list_reads w2 w1 (by simpa only [PyData.canLay0] using b2) a2 (room_in a3 hu) ⟨.bl _, H, I, rfl, go ρ H _ .refl rh (.bl _)⟩
  · rename_i d ds q1 q2
    cases e
    obtain ⟨a1, a2, a3⟩ := datF_dp rh _ r1 q1
    obtain ⟨b1, b2, b3⟩ := datF_dp rh _ r2 q2
    obtain ⟨as, w1⟩ := Dp.reads I d x v a1 rx
    obtain ⟨bs, w2⟩ := Dp.reads I (.tuple ds) y u b1 ry
    exact SeqAt.in_tuple_reads w2 w1 (by simpa only [PyData.canLay0] using b2) a2 (room_in a3 hu) ⟨.bl _, H, I, rfl, go ρ H _ .refl rh (.bl _)⟩
  · rename_i i j q1 q2
    cases e
    have e1 := dat_str q1
    have e2 := dat_str q2
    subst e1
    subst e2
    cases r1
    cases r2
    exact op_in_str pins s σ H _ _ v u Q I rx ry ⟨i, j, rfl, rfl, go ρ H _ .refl rh (.bl _)⟩
  · cases e
theorem of_nin (hu : X.A.units + 64 < cLine) : OpR X (compareOp .NotIn) (rF X.K ninF) := by
  intro pins s σ H x y v u Q I rx ry ⟨ρ, fx, fy, h, fz, h', r1, r2, rh, e, go⟩
  simp only [ninF] at e
  split at e
  · rename_i d ds q1 q2
    cases e
    obtain ⟨a1, a2, a3⟩ := datF_dp rh _ r1 q1
    obtain ⟨b1, b2, b3⟩ := datF_dp rh _ r2 q2
    obtain ⟨as, w1⟩ := Dp.reads I d x v a1 rx
    obtain ⟨bs, w2⟩ := Dp.reads I (.list ds) y u b1 ry
    exact SeqAt.notIn_list_reads w2 w1 (by simpa only [PyData.canLay0] using b2) a2 (room_in a3 hu) ⟨.bl _, H, I, rfl, go ρ H _ .refl rh (.bl _)⟩
  · rename_i d ds q1 q2
    cases e
    obtain ⟨a1, a2, a3⟩ := datF_dp rh _ r1 q1
    obtain ⟨b1, b2, b3⟩ := datF_dp rh _ r2 q2
    obtain ⟨as, w1⟩ := Dp.reads I d x v a1 rx
    obtain ⟨bs, w2⟩ := Dp.reads I (.tuple ds) y u b1 ry
    exact SeqAt.notIn_tuple_reads w2 w1 (by simpa only [PyData.canLay0] using b2) a2 (room_in a3 hu) ⟨.bl _, H, I, rfl, go ρ H _ .refl rh (.bl _)⟩
  · rename_i i j q1 q2
    cases e
    have e1 := dat_str q1
    have e2 := dat_str q2
    subst e1
    subst e2
    cases r1
    cases r2
    exact op_notin_str pins s σ H _ _ v u Q I rx ry ⟨i, j, rfl, rfl, go ρ H _ .refl rh (.bl _)⟩
  · cases e
end
end FX
set_option maxRecDepth 100000
set_option maxHeartbeats 4000000
namespace FX
open PySem PySem.Spec PyProof.Rows L2
variable [LamT]

/-! ### calls of what is built in -/
abbrev OpN := List FV → FH → Option (FV × FH)
def rC (K : PySem.W.Frag) (g : OpN) : List V → Hp → VK → Prop := fun xs H Q => ∃ (ρ : List Addr) (fs : List FV) (h : FH) (fz : FV) (h' : FH), RVs K ρ H fs xs ∧ RH K ρ h H ∧ g fs h = some (fz, h') ∧
  ∀ (ρ' : List Addr) (H' : Hp) (v : V), Ev K ρ H ρ' H' → RH K ρ' h' H' → RV K ρ' H' fz v → Q v H'
def cCB (g : OpN) (ea : EvA) : EvE := fun σ h => (ea σ h).bind fun xs h1 => Res.of (g xs h1)
section
variable {X : Cx} {W : Wsh} {a b e : Expr} {es : List Expr} {ea eb : EvE} {er : EvA} {pos p : Pos} {x : Str}
theorem tCB_of {g : OpN} {σ : L2.St} {H : Hp} {Q : VK} (h : tG (RV X.K) X.K W (cCB g er) σ H Q) : tCB (rC X.K g) (tG (RVs X.K) X.K W er) σ H Q := by
  obtain ⟨ρ, σf, h, rs, rh, p⟩ := h
  refine core (R1 := RVs X.K) rs rh p fun ρ1 H1 h1 xs vs e1 rs1 rh1 r1 p1 => ?_
  cases q : g xs h1 with
  | none =>
    rw [q] at p1
    exact p1.elim
  | some z =>
    obtain ⟨z, h'⟩ := z
    rw [q] at p1
    exact ⟨ρ1, xs, h1, z, h', r1, rh1, q, p1⟩
theorem fe_callB {g : OpN} {id : String} (hc : CallR X (.builtin id) (rC X.K g)) (hm : X.mg x = none) (hv : bootBuiltins x = some (.builtin id)) (ha : FA X W (e :: es) er) (hg : Gl X x := by rfl) (hn : x ≠ "__name__" := by decide) (hdb : (x == ("__debug__" : Str)) = false := by decide)
    (he : starEach (e :: es) X.env = (false, eval e X.env) :: starEach es X.env := by rfl) (hpl : (backTo pos (starEach es X.env)).any (·.1) = false := by rfl) : FE X W (.Call (.Name x p) (e :: es) [] pos) (cCB g er) :=
  pe_imp (pe_callB hc hg hm hv ha hn hdb he hpl) fun _ _ _ h => tCB_of h
theorem fe_callTy {g : OpN} {T : String} (hc : CallR X (.type T) (rC X.K g)) (hm : X.mg x = none) (hv : bootBuiltins x = some (.type T)) (ha : FA X W (e :: es) er) (hg : Gl X x := by rfl) (hn : x ≠ "__name__" := by decide) (hdb : (x == ("__debug__" : Str)) = false := by decide)
    (he : starEach (e :: es) X.env = (false, eval e X.env) :: starEach es X.env := by rfl) (hpl : (backTo pos (starEach es X.env)).any (·.1) = false := by rfl) : FE X W (.Call (.Name x p) (e :: es) [] pos) (cCB g er) :=
  pe_imp (pe_callTy hc hg hm hv ha hn hdb he hpl) fun _ _ _ h => tCB_of h
/-- a builtin class as a value -/
theorem fe_ty {T : String} (hm : X.mg x = none) (hv : bootBuiltins x = some (.type T)) (hg : Gl X x := by rfl) (hn : x ≠ "__name__" := by decide) (hdb : (x == ("__debug__" : Str)) = false := by decide) : FE X W (.Name x pos) (cC (.ty T)) :=
  pe_imp (pe_bltn (v := .ty T) hg hm hv rfl hn hdb) fun σ H Q ⟨ρ, σf, h, rs, rh, p⟩ => Post.ok_ (x := FV.ty T) p rh (.ty T)
theorem one_of {K : PySem.W.Frag} {ρ : List Addr} {H : Hp} {y : FV} {vs : List V} (r : RVs K ρ H [y] vs) : ∃ v, vs = [v] ∧ RV K ρ H y v := by
  cases r with
  | cons r1 r2 => cases r2; exact ⟨_, rfl, r1⟩
theorem two_of {K : PySem.W.Frag} {ρ : List Addr} {H : Hp} {y z : FV} {vs : List V} (r : RVs K ρ H [y, z] vs) : ∃ v u, vs = [v, u] ∧ RV K ρ H y v ∧ RV K ρ H z u := by
  cases r with
  | cons r1 r2 =>
    obtain ⟨u, rfl, r3⟩ := one_of r2
    exact ⟨_, u, rfl, r1, r3⟩

def lenF : OpN := fun xs h => match xs with
  | [.str y] => if y.length ≤ sizeLine then some (.int y.length, h) else none
  | [y] => match seqF y h with
    | some ys => some (.int ys.length, h)
    | none => none
  | _ => none
theorem of_len : CallR X (.builtin "len") (rC X.K lenF) := by
  intro pins s σ H vs us Q I r ⟨ρ, fs, h, fz, h', r1, rh, e, go⟩
  unfold lenF at e
  split at e
  · rename_i y
    split at e
    · rename_i z
      cases e
      obtain ⟨v, rfl, r2⟩ := one_of r1
      cases r2
      exact call_len pins s σ H _ us Q I r ⟨.str y, y.length, rfl, ⟨z, rfl⟩, go ρ H _ .refl rh (.int _)⟩
    · cases e
  · rename_i y _
    split at e
    · rename_i ys q
      cases e
      obtain ⟨v, rfl, r2⟩ := one_of r1
      obtain ⟨a, ws, rfl, sq, rw_⟩ := seqF_of rh r2 q
      refine call_len pins s σ H _ us Q I r ⟨.ref a, ys.length, rfl, ?_, go ρ H _ .refl rh (.int _)⟩
      rcases sq with sq | sq
      · exact .inl ⟨ws, sq, rw_.len⟩
      · exact .inr ⟨ws, sq, rw_.len⟩
    · cases e
  · cases e
def absF : OpN := fun xs h => match xs with
  | [.int i] => some (.int (if i < 0 then -i else i), h)
  | _ => none
theorem of_abs : CallR X (.builtin "abs") (rC X.K absF) := by
  intro pins s σ H vs us Q I r ⟨ρ, fs, h, fz, h', r1, rh, e, go⟩
  unfold absF at e
  split at e
  · rename_i i
    cases e
    obtain ⟨v, rfl, r2⟩ := one_of r1
    cases r2
    exact call_abs pins s σ H _ us Q I r ⟨i, rfl, go ρ H _ .refl rh (.int _)⟩
  · cases e
def intF : OpN := fun xs h => match xs with
  | [.int i] => some (.int i, h)
  | [.bl k] => some (.int (if k then 1 else 0), h)
  | _ => none
theorem of_int : CallR X (.type "int") (rC X.K intF) := by
  intro pins s σ H vs us Q I r ⟨ρ, fs, h, fz, h', r1, rh, e, go⟩
  unfold intF at e
  split at e
  · rename_i i
    cases e
    obtain ⟨v, rfl, r2⟩ := one_of r1
    cases r2
    exact call_int1 pins s σ H _ us Q I r (.inl ⟨i, rfl, go ρ H _ .refl rh (.int _)⟩)
  · rename_i i
    cases e
    obtain ⟨v, rfl, r2⟩ := one_of r1
    cases r2
    exact call_int1 pins s σ H _ us Q I r (.inr ⟨i, rfl, go ρ H _ .refl rh (.int _)⟩)
  · cases e
def divmodF : OpN := fun xs h => match xs with
  | [.int i, .int j] => if 0 < j ∧ sm j = true then some (.tup [.int (i / j), .int (i % j)], h) else none
  | _ => none
theorem of_divmod : CallR X (.builtin "divmod") (rC X.K divmodF) := by
  intro pins s σ H vs us Q I r ⟨ρ, fs, h, fz, h', r1, rh, e, go⟩
  unfold divmodF at e
  split at e
  · rename_i i j
    split at e
    · rename_i z
      cases e
      obtain ⟨v, u, rfl, r2, r3⟩ := two_of r1
      cases r2
      cases r3
      have l := sm_log z.2
      exact call_divmodW pins s σ H _ us Q I r ⟨i, j, rfl, ⟨z.1, PyProof.noPylong_of_log2 (by omega)⟩, fun p hp => new_tup rh (.cons (.int _) (.cons (.int _) .nil)) go p hp⟩
    · cases e
  · cases e
def tupleF : OpN := fun xs h => match xs with
  | [y] => match seqF y h with
    | some ys => some (.tup ys, h)
    | none => none
  | _ => none
theorem of_tuple : CallR X (.type "tuple") (rC X.K tupleF) := by
  intro pins s σ H vs us Q I r ⟨ρ, fs, h, fz, h', r1, rh, e, go⟩
  unfold tupleF at e
  split at e
  · rename_i y
    split at e
    · rename_i ys q
      cases e
      obtain ⟨v, rfl, r2⟩ := one_of r1
      obtain ⟨a, ws, rfl, sq, rw_⟩ := seqF_of rh r2 q
      refine call_tuple_of pins s σ H _ us Q I r ⟨a, ws, rfl, ?_⟩
      rcases sq with sq | sq
      · exact .inl ⟨sq, fun l hl => new_tup rh rw_ go l hl⟩
      · exact .inr ⟨sq, go ρ H _ .refl rh (.tup sq rw_)⟩
    · cases e
  · cases e
def listF : OpN := fun xs h => match xs with
  | [y] => match seqF y h with
    | some ys => some (.ref h.length, h ++ [.lst ys])
    | none => none
  | _ => none
theorem of_list : CallR X (.type "list") (rC X.K listF) := by
  intro pins s σ H vs us Q I r ⟨ρ, fs, h, fz, h', r1, rh, e, go⟩
  unfold listF at e
  split at e
  · rename_i y
    split at e
    · rename_i ys q
      cases e
      obtain ⟨v, rfl, r2⟩ := one_of r1
      obtain ⟨a, ws, rfl, sq, rw_⟩ := seqF_of rh r2 q
      exact call_list_of pins s σ H _ us Q I r ⟨a, ws, rfl, sq, fun l hl => new_list rh rw_ go l hl⟩
    · cases e
  · cases e

/-! ### repr -/
def reprF : OpN := fun xs h => match xs with
  | [y] => match datF h DEEP y with
    | some d => if d.showable = true ∧ d.shown.length ≤ sizeLine then some (.str d.shown, h) else none
    | none => none
  | _ => none
theorem of_repr (hg : X.A.guards = some []) (hu : X.A.units + 64 < cLine) : CallR X (.builtin "repr") (rC X.K reprF) := by
  intro pins s σ H vs us Q I r ⟨ρ, fs, h, fz, h', r1, rh, e, go⟩
  unfold reprF at e
  split at e
  · rename_i y
    split at e
    · rename_i d q
      split at e
      · rename_i z
        cases e
        obtain ⟨v, rfl, r2⟩ := one_of r1
        obtain ⟨u, rfl, ru⟩ := Vals.one r
        obtain ⟨a1, a2, a3⟩ := datF_dp rh _ r2 q
        obtain ⟨as, w⟩ := Dp.reads I d v u a1 ru
        have hd := PyData.hasDict_of_canLay d a2
        have hq := go ρ H (.str d.shown) .refl rh (.str _)
        unfold DEEP at a3
        cases a1 with
        | lst _ _ =>
          cases ru
          exact PySem.repr_of_reads' w z.1 (fun y => by rw [hd] at y; cases y) hg (by omega) (fun _ _ k => k) (fun h' u tk k => ⟨.str _, H, I.kept (t' := tk) k, ⟨u, rfl⟩, hq⟩) z.2
        | tup _ _ =>
          cases ru
          exact PySem.repr_of_reads' w z.1 (fun y => by rw [hd] at y; cases y) hg (by omega) (fun _ _ k => k) (fun h' u tk k => ⟨.str _, H, I.kept (t' := tk) k, ⟨u, rfl⟩, hq⟩) z.2
        | non =>
          cases ru
          exact PySem.P.repr_of_none ⟨.str _, H, I.tok _, ⟨_, rfl⟩, by simpa only [PyData.shown] using hq⟩
        | bl b =>
          cases ru
          exact PySem.P.repr_of_bool ⟨.str _, H, I.tok _, ⟨_, rfl⟩, by simpa only [PyData.shown_bool] using hq⟩
        | int i =>
          obtain ⟨t, rfl⟩ := ru
          have z1 : decide (i.natAbs.log2 < 1920) = true := by simpa only [PyData.showable] using z.1
          exact PySem.P.repr_of_int (of_decide_eq_true z1) ⟨.str _, H, I.tok _, ⟨_, rfl⟩, by simpa only [PyData.shown_int] using hq⟩
        | str i =>
          obtain ⟨t, rfl⟩ := ru
          exact PySem.P.repr_of_str ⟨.str _, H, I.tok _, ⟨_, rfl⟩, by simpa only [PyData.shown_str] using hq⟩ (by simpa only [PyData.shown_str] using z.2)
      · cases e
    · cases e
  · cases e
end
end FX
set_option maxRecDepth 100000
set_option maxHeartbeats 4000000
namespace FX
open PySem PySem.Spec PyProof.Rows L2
variable [LamT]

/-! ### isinstance against built-in classes -/
inductive BT where
  | non | bl | int | str | tup | lst | dic
  deriving DecidableEq
def BT.name : BT → String
  | .non => "NoneType"
  | .bl => "bool"
  | .int => "int"
  | .str => "str"
  | .tup => "tuple"
  | .lst => "list"
  | .dic => "dict"
def btOf (n : String) : Option BT :=
  if n = "bool" then some .bl else if n = "int" then some .int else if n = "str" then some .str else if n = "tuple" then some .tup else if n = "list" then some .lst else if n = "dict" then some .dic else none
theorem btOf_name {n : String} {t : BT} (e : btOf n = some t) : n = t.name := by
  unfold btOf at e
  split at e
  · cases e; assumption
  · split at e
    · cases e; assumption
    · split at e
      · cases e; assumption
      · split at e
        · cases e; assumption
        · split at e
          · cases e; assumption
          · split at e
            · cases e; assumption
            · cases e
def kindF : FV → FH → Option BT
  | .non, _ => some .non
  | .bl _, _ => some .bl
  | .int _, _ => some .int
  | .str _, _ => some .str
  | .tup _, _ => some .tup
  | .ref n, h => match h[n]? with
    | some (.lst _) => some .lst
    | some (.ro _) => some .lst
    | some (.dic _) => some .dic
    | _ => none
  | _, _ => none
def subB : BT → BT → Bool
  | .bl, .int => true
  | a, b => decide (a = b)
theorem kitB_sub (a b : BT) (hb : b ≠ .non) : kitB a.name b.name = some (subB a b) := by
  cases a <;> cases b <;> first | exact absurd rfl hb | decide +kernel
section
variable {K : PySem.W.Frag} {ρ : List Addr} {h : FH} {H : Hp}
theorem kindF_ty (rh : RH K ρ h H) {x : FV} {v : V} {t : BT} (r : RV K ρ H x v) (e : kindF x h = some t) : TyX K H v (.type t.name) := by
  cases r with
  | non => cases e; exact .base .non
  | bl b => cases e; exact .base (.bl b)
  | int i => cases e; exact .base (.int i)
  | str i => cases e; exact .base (.str i)
  | tup s _ =>
    cases e
    rcases s with (s | ⟨o, s⟩) | ⟨o, its, n, k, c, _⟩
    · exact .base (.tup s)
    · exact .fTuple s
    · exact .kTuple k c
  | ref q =>
    simp only [kindF] at e
    split at e
    · rename_i xs z
      cases e
      obtain ⟨vs, q1, q2⟩ := rh.ref z q
      exact .base (.lst q1)
    · rename_i xs z
      cases e
      rcases rh.ref z q with ⟨vs, ⟨o, its, n, k, c, _⟩, _⟩ | ⟨vs, q1 | ⟨o, q1⟩, _⟩
      · exact .kList k c
      · exact .base (.lst q1)
      · exact .base (.frz q1)
    · rename_i xs z
      cases e
      obtain ⟨vs, q1, q2⟩ := rh.ref z q
      exact .base (.dK q1)
    · cases e
  | adr a => cases e
  | ty n => cases e
end
/-- the classes that are asked -/
def clsF : List FV → Option (List BT)
  | [] => some []
  | .ty n :: r => match btOf n, clsF r with
    | some t, some ts => some (t :: ts)
    | _, _ => none
  | _ => none
def isiF : OpN := fun xs h => match xs with
  | [x, .ty n] => match kindF x h, btOf n with
    | some t, some u => some (.bl (subB t u), h)
    | _, _ => none
  | [x, .tup cs] => match kindF x h, clsF cs with
    | some t, some us => some (.bl (us.any fun u => subB t u), h)
    | _, _ => none
  | _ => none
theorem btOf_ne {n : String} {t : BT} (e : btOf n = some t) : t ≠ .non := by
  intro z
  subst z
  unfold btOf at e
  repeat (first | (split at e) | cases e)
section
variable {K : PySem.W.Frag} {ρ : List Addr} {H : Hp}
theorem clsF_of : ∀ {cs : List FV} {vs : List V} {us : List BT}, RVs K ρ H cs vs → clsF cs = some us → Paired ClsV vs (us.map fun u => Value.type u.name) ∧ ∀ u ∈ us, u ≠ BT.non
  | [], _, us, .nil, e => by
    cases e
    exact ⟨.nil, fun u hu => by cases hu⟩
  | .ty n :: r, _, us, .cons r1 r2, e => by
    cases r1
    simp only [clsF] at e
    split at e
    · rename_i t ts q1 q2
      cases e
      obtain ⟨a, b⟩ := clsF_of r2 q2
      have z := btOf_name q1
      refine ⟨.cons (by rw [z]; exact .ty _) a, fun u hu => ?_⟩
      rcases List.mem_cons.mp hu with e1 | e1
      · subst e1
        exact btOf_ne q1
      · exact b u e1
    · cases e
theorem kitAny_of {t : BT} : ∀ {us : List BT}, (∀ u ∈ us, u ≠ BT.non) → PySem.W.kitAny K (.type t.name) (us.map fun u => Value.type u.name) = some (us.any fun u => subB t u)
  | [], _ => rfl
  | u :: r, h => by
    have h1 := kitB_sub t u (h u List.mem_cons_self)
    have h2 := kitAny_of (t := t) (us := r) fun x hx => h x (List.mem_cons_of_mem _ hx)
    rw [List.map_cons, List.any_cons]
    refine kitAny_cons (kit_ty h1) (fun z => ?_) (fun z => ?_)
    · rw [z, Bool.false_or]
      exact h2
    · rw [z, Bool.true_or]
end
section
variable {X : Cx} {W : Wsh} {a b e : Expr} {es : List Expr} {ea eb : EvE} {er : EvA} {pos p : Pos} {x : Str}
theorem of_isi : CallR X (.builtin "isinstance") (rC X.K isiF) := by
  intro pins s σ H vs us Q I r ⟨ρ, fs, h, fz, h', r1, rh, e, go⟩
  unfold isiF at e
  split at e
  · rename_i y n
    split at e
    · rename_i t u q1 q2
      cases e
      obtain ⟨v, c, rfl, r2, r3⟩ := two_of r1
      cases r3
      have z := btOf_name q2
      refine call_isi pins s σ H _ us Q I r ⟨v, .ty n, .type t.name, .type u.name, subB t u, rfl, by rw [z]; exact .ty _, kindF_ty rh r2 q1, kit_ty (kitB_sub t u (btOf_ne q2)), go ρ H _ .refl rh (.bl _)⟩
    · cases e
  · rename_i y cs
    split at e
    · rename_i t ts q1 q2
      cases e
      obtain ⟨v, c, rfl, r2, r3⟩ := two_of r1
      cases r3 with
      | tup sq rc =>
        obtain ⟨pc, ne⟩ := clsF_of rc q2
        have hq := go ρ H _ .refl rh (.bl _)
        rcases sq with (sq | ⟨o, sq⟩) | ⟨o, its, n, k, c, d, hz, rr⟩
        · exact call_isiT pins s σ H _ us Q I r ⟨v, _, _, .type t.name, _, _, rfl, sq, pc, kindF_ty rh r2 q1, kitAny_of ne, hq⟩
        · -- a locked tuple
          obtain ⟨u1, u2, rfl, s1, s2⟩ := vals2 r
          cases s2
          obtain ⟨P, Z, pp, hx⟩ := kit_of I s1 (kindF_ty rh r2 q1)
          obtain ⟨_, _, its, rv, o2, h1, h2, n, h3⟩ := I.hok _ _ sq
          have e3 := ClsV.all pc rv
          subst e3
          obtain ⟨oc, od, dt, sl⟩ := o2
          simp only at h2 h3
          subst h2 h3
          exact PySem.W.kia_tup Z I.kIn pp h1 (kitAny_of ne) hx fun tk => ⟨.bl _, H, I.tok tk, rfl, hq⟩
        · obtain ⟨u1, u2, rfl, s1, s2⟩ := vals2 r
          cases s2
          obtain ⟨P, Z, pp, hx⟩ := kit_of I s1 (kindF_ty rh r2 q1)
          have e3 := ClsV.all pc rr
          obtain ⟨oc, od, dt, sl⟩ := o
          simp only at c d
          subst c d
          have h1 := I.kIn _ _ k
          have e4 : its = (List.map (fun u => Value.type (BT.name u)) ts).toArray := by rw [← e3]
          subst e4
          exact PySem.W.kia_tup Z I.kIn pp h1 (kitAny_of ne) hx fun tk => ⟨.bl _, H, I.tok tk, rfl, hq⟩
    · cases e
  · cases e

/-! ### - a, displays, subscripts -/
def cNeg (ea : EvE) : EvE := fun σ h => (ea σ h).bind fun x h1 => match x with
  | .int i => .ok (.int (-i)) h1
  | _ => .stuck
theorem fe_neg (ha : FE X W a ea) : FE X W (.UnaryOp .USub a pos) (cNeg ea) := by
  refine pe_imp (pe_un un_neg ha) fun σ H Q ⟨ρ, σf, h, rs, rh, p⟩ => ?_
  refine core rs rh p fun ρ1 H1 h1 x u e1 rs1 rh1 r1 p1 => ?_
  cases x with
  | int i =>
    cases r1
    exact ⟨i, rfl, Post.ok_ (x := FV.int (-i)) p1 rh1 (.int _)⟩
  | _ => exact p1.elim
def small (n : Nat) : Bool := decide (n ≤ sizeLine)
def cTup (er : EvA) : EvE := fun σ h => (er σ h).bind fun xs h1 => if small xs.length = true then .ok (.tup xs) h1 else .stuck
def cLst (er : EvA) : EvE := fun σ h => (er σ h).bind fun xs h1 => if small xs.length = true then .ok (.ref h1.length) (h1 ++ [.lst xs]) else .stuck
theorem fe_tup {x1 : Nat} (h : FA X W es er) : FE X W (.Tuple es x1 pos) (cTup er) := by
  refine pe_imp (pe_tup h) fun σ H Q ⟨ρ, σf, h, rs, rh, p⟩ => ?_
  refine core (R1 := RVs X.K) rs rh p fun ρ1 H1 h1 xs vs e1 rs1 rh1 r1 p1 => ?_
  by_cases z : small xs.length = true
  · rw [if_pos z] at p1
    exact ⟨by rw [r1.len']; exact of_decide_eq_true z, fun q hq => new_tup rh1 r1 p1 q hq⟩
  · rw [if_neg z] at p1
    exact p1.elim
theorem fe_lst (h : FA X W es er) : FE X W (.List es pos) (cLst er) := by
  refine pe_imp (pe_lst h) fun σ H Q ⟨ρ, σf, h, rs, rh, p⟩ => ?_
  refine core (R1 := RVs X.K) rs rh p fun ρ1 H1 h1 xs vs e1 rs1 rh1 r1 p1 => ?_
  by_cases z : small xs.length = true
  · rw [if_pos z] at p1
    exact ⟨by rw [r1.len']; exact of_decide_eq_true z, fun q hq => new_list rh1 r1 p1 q hq⟩
  · rw [if_neg z] at p1
    exact p1.elim
theorem atI_rel {K : PySem.W.Frag} {ρ : List Addr} {H : Hp} {xs : List FV} {vs : List V} {i : Int} {y : FV} (r : RVs K ρ H xs vs) (e : atI xs i = some y) : ∃ v, atI vs i = some v ∧ RV K ρ H y v := by
  unfold atI at e ⊢
  rw [r.len'] at *
  cases q : ixN xs.length i with
  | none => rw [q] at e; cases e
  | some j =>
    rw [q] at e
    obtain ⟨v, e1, r1⟩ := r.get (i := j) e
    exact ⟨v, e1, r1⟩
def fkey : FV → Option Key
  | .int i => some (.inl i)
  | .str x => some (.inr x)
  | _ => none
def lookF (kvs : List (Key × FV)) (k : Key) : Option FV := (kvs.find? fun q => decide (q.1 = k)).map (·.2)
theorem lookF_of {K : PySem.W.Frag} {ρ : List Addr} {H : Hp} {k : Key} : ∀ {kvs : List (Key × FV)} {vs : List (Key × V)}, RK K ρ H kvs vs → (∀ y, lookF kvs k = some y → ∃ v, valV vs k = some v ∧ RV K ρ H y v) ∧ (lookF kvs k = none → valV vs k = none)
  | _, _, .nil => ⟨fun y e => (by cases e), fun _ => rfl⟩
  | _, _, @RK.cons _ _ _ _ j x v xs vs r1 r2 => by
    obtain ⟨i1, i2⟩ := lookF_of (k := k) r2
    unfold lookF valV
    rw [List.find?_cons, List.find?_cons]
    by_cases z : j = k
    · rw [decide_eq_true z]
      exact ⟨fun y e => ⟨v, rfl, by cases (Option.some.inj e); exact r1⟩, fun e => (by cases e)⟩
    · rw [decide_eq_false z]
      exact ⟨i1, i2⟩
def ixF : Op2 := fun x y h => match x, y with
  | .str z, .int i => if z.length ≤ sizeLine then (match atI z.cps.toList i with
    | some c => some (.str ⟨#[c]⟩, h)
    | none => none) else none
  | x, y => match seqF x h with
    | some xs => (match y with
      | .int i => (match atI xs i with
        | some v => some (v, h)
        | none => none)
      | _ => none)
    | none => match x with
      | .ref n => (match h[n]?, fkey y with
        | some (.dic kvs), some k => (match lookF kvs k with
          | some v => some (v, h)
          | none => none)
        | _, _ => none)
      | _ => none
theorem fkey_of {K : PySem.W.Frag} {ρ : List Addr} {H : Hp} {y : FV} {u : V} {k : Key} (r : RV K ρ H y u) (e : fkey y = some k) : u = kV k := by
  cases r with
  | int i => cases e; rfl
  | str i => cases e; rfl
  | _ => cases e
def isDic (x : FV) (h : FH) : Bool := match x with
  | .ref n => (match h[n]? with
    | some (.dic _) => true
    | _ => false)
  | _ => false
theorem fe_ix (hu : X.A.units + 1 < cLine) (ha : FE X W a ea) (hb : FE X W b eb) (hs : PlainIx b := by exact fun _ _ => rfl) (hs2 : NoSl b := by exact fun _ _ => rfl) : FE X W (.Subscript a b pos) (cBin ixF ea eb) := by
  refine fe_two (r1 := rIx X.K) (r2 := fun x y H2 Q => ∃ a v, x = .ref a ∧ DGet H2 a y (some v) ∧ Q v H2) (fun fx _ h => !isDic fx h) (pe_ix (pos := pos) ix_seq ha hb hs) (pe_dget (pos := pos) hu ha hb hs2) (fun _ _ _ z => z) (fun _ _ _ z => z) ?_ ?_
  · intro fx fy h z x y H ρ Q c e r1 r2 rh go
    unfold ixF at e
    split at e
    · rename_i z' i
      split at e
      · rename_i hl
        split at e
        · rename_i cc q
          cases e
          cases r1
          cases r2
          exact .inr (.inr ⟨_, _, cc, rfl, rfl, hl, q, go ρ H _ .refl rh (.str _)⟩)
        · cases e
      · cases e
    · split at e
      · rename_i xs q
        split at e
        · rename_i i
          split at e
          · rename_i v q2
            cases e
            cases r2
            obtain ⟨a, ws, rfl, sq, rw_⟩ := seqF_of rh r1 q
            obtain ⟨u, e1, r3⟩ := atI_rel rw_ q2
            rcases sq with sq | sq
            · exact .inl ⟨a, ws, _, u, rfl, rfl, sq, e1, go ρ H _ .refl rh r3⟩
            · exact .inr (.inl ⟨a, ws, _, u, rfl, rfl, sq, e1, go ρ H _ .refl rh r3⟩)
          · cases e
        · cases e
      · split at e
        · rename_i n
          split at e
          · rename_i kvs k q1 q2
            simp only [isDic, q1] at c
            exact absurd c (by decide)
          · cases e
        · cases e
  · intro fx fy h z x y H ρ Q c e r1 r2 rh go
    unfold isDic at c
    split at c
    · rename_i n
      split at c
      · rename_i kvs q0
        unfold ixF at e
        simp only [seqF, q0] at e
        split at e
        · rename_i kvs' k q1 q2
          cases q1
          split at e
          · rename_i v q3
            cases e
            cases r1 with
            | ref qn =>
              obtain ⟨vs, a1, a2⟩ := rh.ref q0 qn
              obtain ⟨u, b1, b2⟩ := (lookF_of a2).1 v q3
              rw [fkey_of r2 q2]
              refine ⟨_, u, rfl, ?_, go ρ H _ .refl rh b2⟩
              rw [← b1]
              exact DGet.k a1
          · cases e
        · cases e
      · exact absurd c (by decide)
    · exact absurd c (by decide)
end
end FX
set_option maxRecDepth 100000
set_option maxHeartbeats 4000000
namespace FX
open PySem PySem.Spec PyProof.Rows L2
variable [LamT]

/-! ### slices -/
def cutG (xs : List FV) (lo hi : Option Int) : List FV := (xs.drop (HT.sIx xs.length 0 lo)).take (HT.sIx xs.length xs.length hi - HT.sIx xs.length 0 lo)
theorem cutG_of {K : PySem.W.Frag} {ρ : List Addr} {H : Hp} {xs : List FV} {vs : List V} (r : RVs K ρ H xs vs) (lo hi : Option Int) : RVs K ρ H (cutG xs lo hi) (cutV vs lo hi) := by
  unfold cutG cutV
  rw [r.len']
  exact (r.drop _).take _
abbrev EvO := FSt → FH → Res (Option Int)
def RO_ : Rel (Option Int) (Option Int) := fun _ _ a b => a = b
abbrev FO_ (X : Cx) (W : Wsh) (e : Option Expr) (ev : EvO) : Prop := PO X e (tG RO_ X.K W ev)
def cNoP : EvO := fun _ h => .ok none h
def cPart (ea : EvE) : EvO := fun σ h => (ea σ h).bind fun x h1 => match x with
  | .int i => .ok (some i) h1
  | _ => .stuck
def lstF (n : Nat) (h : FH) : Option (List FV) := match h[n]? with
  | some (.lst xs) => some xs
  | some (.ro xs) => some xs
  | _ => none
theorem lstF_of {K : PySem.W.Frag} {ρ : List Addr} {h : FH} {H : Hp} (rh : RH K ρ h H) {n : Nat} {a : Addr} {xs : List FV} (q : ρ[n]? = some a) (e : lstF n h = some xs) : ∃ vs, SqL K H a vs ∧ RVs K ρ H xs vs := by
  unfold lstF at e
  split at e
  · rename_i ys z
    cases e
    obtain ⟨vs, q1, q2⟩ := rh.ref z q
    exact ⟨vs, .of q1, q2⟩
  · rename_i ys z
    cases e
    exact ro_sq (rh.ref z q)
  · cases e
def slF (x : FV) (lo hi : Option Int) (h : FH) : Option (FV × FH) := match x with
  | .tup xs => some (.tup (cutG xs lo hi), h)
  | .ref n => (match lstF n h with
    | some xs => some (.ref h.length, h ++ [.lst (cutG xs lo hi)])
    | none => none)
  | _ => none
def cSl (ea : EvE) (elo ehi : EvO) : EvE := fun σ h => (ea σ h).bind fun x h1 => (elo σ h1).bind fun lo h2 => (ehi σ h2).bind fun hi h3 => Res.of (slF x lo hi h3)
section
variable {X : Cx} {W : Wsh} {a b e : Expr} {es : List Expr} {ea eb : EvE} {er : EvA} {pos p p2 : Pos} {x : Str}
theorem fo_none : FO_ X W none cNoP := by
  refine ⟨fun pins s σ H Q I ⟨ρ, σf, h, rs, rh, p⟩ => ?_⟩
  exact (po_none (X := X)).run pins s σ H Q I (Post.ok_ (R := RO_) p rh rfl)
theorem fo_some (ha : FE X W a ea) : FO_ X W (some a) (cPart ea) := by
  refine ⟨fun pins s σ H Q I ⟨ρ, σf, h, rs, rh, p⟩ => ?_⟩
  refine (po_some ha).run pins s σ H Q I (core rs rh p fun ρ1 H1 h1 x u e1 rs1 rh1 r1 p1 => ?_)
  cases x with
  | int i =>
    cases r1
    exact ⟨i, rfl, Post.ok_ (R := RO_) p1 rh1 rfl⟩
  | _ => exact p1.elim
theorem fe_slice {lo hi : Option Expr} {elo ehi : EvO} (ha : FE X W a ea) (hl : FO_ X W lo elo) (hh : FO_ X W hi ehi) : FE X W (.Subscript a (.Slice lo hi none p2) pos) (cSl ea elo ehi) := by
  refine pe_imp (pe_slice (sl_tupA.or sl_list) ha hl hh) fun σ H Q ⟨ρ, σf, h, rs, rh, p⟩ => ?_
  refine core rs rh p fun ρ1 H1 h1 y u e1 rs1 rh1 r1 p1 => ?_
  refine core (R1 := RO_) rs1 rh1 p1 fun ρ2 H2 h2 l l' e2 rs2 rh2 r2 p2' => ?_
  refine core (R1 := RO_) rs2 rh2 p2' fun ρ3 H3 h3 k k' e3 rs3 rh3 r3 p3 => ?_
  cases r2
  cases r3
  have ry := (r1.ev e2).ev e3
  cases q : slF y l k h3 with
  | none =>
    rw [q] at p3
    exact p3.elim
  | some z =>
    rw [q] at p3
    cases ry with
    | tup sq rw_ =>
      cases q
      refine .inl ⟨_, _, rfl, sq, fun w => ?_, fun _ p hp => new_tup rh3 (cutG_of rw_ _ _) p3 p hp⟩
      refine p3 _ _ _ .refl rh3 (.tup sq ?_)
      have g := cutG_of rw_ l k
      unfold cutV at g
      rw [w.1, w.2] at g
      simpa using g
    | ref qn =>
      simp only [slF] at q
      split at q
      · rename_i xs qs
        cases q
        obtain ⟨ws, sq, rw_⟩ := lstF_of rh3 qn qs
        exact .inr ⟨_, ws, rfl, sq, fun p hp => new_list rh3 (cutG_of rw_ _ _) p3 p hp⟩
      · cases q
    | _ => cases q

/-! ### statements -/
def PostS (K : PySem.W.Frag) (W : Wsh) (ρ : List Addr) (H : Hp) (D : Ends) : SR → Prop
  | .nx σf h => ∀ (ρ' : List Addr) (H' : Hp) (σ' : L2.St), Ev K ρ H ρ' H' → RS K W ρ' H' σf σ' → RH K ρ' h H' → D.nx σ' H'
  | .rt v h => ∀ (ρ' : List Addr) (H' : Hp) (u : V), Ev K ρ H ρ' H' → RH K ρ' h H' → RV K ρ' H' v u → D.rt u H'
  | .bk σf h => ∀ (ρ' : List Addr) (H' : Hp) (σ' : L2.St), Ev K ρ H ρ' H' → RS K W ρ' H' σf σ' → RH K ρ' h H' → D.bk σ' H'
  | .ct σf h => ∀ (ρ' : List Addr) (H' : Hp) (σ' : L2.St), Ev K ρ H ρ' H' → RS K W ρ' H' σf σ' → RH K ρ' h H' → D.ct σ' H'
  | .ex c fs σf h => ∀ (ρ' : List Addr) (H' : Hp) (σ' : L2.St) (d : Addr) (vs : List (Str × V)), Ev K ρ H ρ' H' → RS K W ρ' H' σf σ' → RH K ρ' h H' → H' d = some (.xd vs) → RK K ρ' H' fs vs → W.w (.ref c) (some d) σ' H'
  | .stuck => False
theorem PostS.at_ {K : PySem.W.Frag} {W : Wsh} {ρ ρ1 : List Addr} {H H1 : Hp} {D : Ends} {r : SR} (p : PostS K W ρ H D r) (e : Ev K ρ H ρ1 H1) : PostS K W ρ1 H1 D r := by
  cases r with
  | nx σf h => exact fun ρ' H' σ' e' => p ρ' H' σ' (e.trans e')
  | rt v h => exact fun ρ' H' u e' => p ρ' H' u (e.trans e')
  | bk σf h => exact fun ρ' H' σ' e' => p ρ' H' σ' (e.trans e')
  | ct σf h => exact fun ρ' H' σ' e' => p ρ' H' σ' (e.trans e')
  | ex c fs σf h => exact fun ρ' H' σ' d vs e' => p ρ' H' σ' d vs (e.trans e')
  | stuck => exact p
def tS (K : PySem.W.Frag) (W : Wsh) (ev : EvS) : TS := fun D σ H => ∃ (ρ : List Addr) (σf : FSt) (h : FH), RS K W ρ H σf σ ∧ RH K ρ h H ∧ PostS K W ρ H D (ev σf h)
abbrev FS (X : Cx) (W : Wsh) (st : Stmt) (ev : EvS) : Prop := PS X st (tS X.K W ev)
abbrev FSs (X : Cx) (W : Wsh) (st : List Stmt) (ev : EvS) : Prop := PSs X st (tS X.K W ev)
/-- an expression, then a statement -/
def Res.toS {α : Type} (r : Res α) (σ : FSt) (k : α → FH → SR) : SR := match r with
  | .ok x h => k x h
  | .exc c fs h => .ex c fs σ h
  | .stuck => .stuck
theorem coreS {α β : Type} {K : PySem.W.Frag} {W : Wsh} {R1 : Rel α β} {ρ : List Addr} {H : Hp} {σf : FSt} {σ : L2.St} {h : FH} {ev : FSt → FH → Res α} {k : α → FH → SR} {D : Ends} {Q1 : β → Hp → Prop}
    (rs : RS K W ρ H σf σ) (rh : RH K ρ h H) (p : PostS K W ρ H D ((ev σf h).toS σf k))
    (go : ∀ (ρ1 : List Addr) (H1 : Hp) (h1 : FH) (b : α) (u : β), Ev K ρ H ρ1 H1 → RS K W ρ1 H1 σf σ → RH K ρ1 h1 H1 → R1 ρ1 H1 b u → PostS K W ρ1 H1 D (k b h1) → Q1 u H1) : tG R1 K W ev σ H Q1 := by
  refine ⟨ρ, σf, h, rs, rh, ?_⟩
  cases e : ev σf h with
  | ok b h1 =>
    rw [e] at p
    exact fun ρ1 H1 u e1 rh1 r1 => go ρ1 H1 h1 b u e1 (rs.ev e1) rh1 r1 (PostS.at_ (r := k b h1) p e1)
  | exc c fs h1 =>
    rw [e] at p
    exact fun ρ1 H1 d vs e1 rh1 q1 q2 => p ρ1 H1 σ d vs e1 (rs.ev e1) rh1 q1 q2
  | stuck =>
    rw [e] at p
    exact p.elim
def sSkip : EvS := fun σ h => .nx σ h
def SR.then_ (r : SR) (k : EvS) : SR := match r with
  | .nx σ h => k σ h
  | r => r
def sSeq (a b : EvS) : EvS := fun σ h => (a σ h).then_ b
section
variable {st : Stmt} {sts : List Stmt} {ev ev' : EvS}
theorem fss_nil : FSs X W [] sSkip := pss_imp pss_nil fun D σ H ⟨ρ, σf, h, rs, rh, p⟩ => p ρ H σ .refl rs rh
theorem fss_one (h : FS X W st ev) : FSs X W [st] ev := pss_one h
theorem fss_cons (h1 : FS X W st ev) (h2 : FSs X W sts ev') : FSs X W (st :: sts) (sSeq ev ev') := by
  refine pss_imp (pss_cons h1 h2) fun D σ H ⟨ρ, σf, h, rs, rh, p⟩ => ⟨ρ, σf, h, rs, rh, ?_⟩
  unfold sSeq at p
  cases e : ev σf h with
  | nx σ1 h1 =>
    rw [e] at p
    exact fun ρ' H' σ' e' rs' rh' => ⟨ρ', σ1, h1, rs', rh', PostS.at_ (r := ev' σ1 h1) p e'⟩
  | rt v h1 => rw [e] at p; exact p
  | bk σ1 h1 => rw [e] at p; exact p
  | ct σ1 h1 => rw [e] at p; exact p
  | ex c fs σ1 h1 => rw [e] at p; exact p
  | stuck => rw [e] at p; exact p
def sRet (ea : EvE) : EvS := fun σ h => (ea σ h).toS σ fun v h1 => .rt v h1
def sRetN : EvS := fun _ h => .rt .non h
def sExpr (ea : EvE) : EvS := fun σ h => (ea σ h).toS σ fun _ h1 => .nx σ h1
def sBrk : EvS := fun σ h => .bk σ h
def sCont : EvS := fun σ h => .ct σ h
def sAsg (i : Nat) (ea : EvE) : EvS := fun σ h => (ea σ h).toS σ fun v h1 => .nx (σ.set i (some v)) h1
theorem fs_ret (ha : FE X W a ea) : FS X W (.Return (some a) pos) (sRet ea) := by
  refine ps_imp (ps_ret ha) fun D σ H ⟨ρ, σf, h, rs, rh, p⟩ => ?_
  exact coreS rs rh p fun ρ1 H1 h1 x u e1 rs1 rh1 r1 p1 => p1 ρ1 H1 u .refl rh1 r1
theorem fs_retN : FS X W (.Return none pos) sRetN := ps_imp ps_retN fun D σ H ⟨ρ, σf, h, rs, rh, p⟩ => p ρ H .non .refl rh .non
theorem fs_expr (ha : FE X W a ea) (hs : swapsWith a none pos.line X.env = pure false := by rfl) : FS X W (.Expr a pos) (sExpr ea) := by
  refine ps_imp (ps_expr ha hs) fun D σ H ⟨ρ, σf, h, rs, rh, p⟩ => ?_
  exact coreS (R1 := RV X.K) rs rh p fun ρ1 H1 h1 x u e1 rs1 rh1 r1 p1 => p1 ρ1 H1 σ .refl rs1 rh1
theorem fs_pass : FS X W (.Pass pos) sSkip := ps_imp ps_pass fun D σ H ⟨ρ, σf, h, rs, rh, p⟩ => p ρ H σ .refl rs rh
theorem fs_break : FS X W (.Break pos) sBrk := ps_imp ps_break fun D σ H ⟨ρ, σf, h, rs, rh, p⟩ => p ρ H σ .refl rs rh
theorem fs_cont : FS X W (.Continue pos) sCont := ps_imp ps_continue fun D σ H ⟨ρ, σf, h, rs, rh, p⟩ => p ρ H σ .refl rs rh
theorem fs_asg (i : Nat) {pos' : Pos} (ha : FE X W a ea) (hN : X.N.Nodup) (hi : X.N[i]? = some x := by rfl) (hx : Loc X.env.scope x := by first | exact Or.inl rfl | exact Or.inr rfl) (hs : swapsWith a (some (.Name x pos')) pos.line X.env = pure false := by rfl)
    (hf : X.fn x = true ∨ X.env.scope.names.lookup x = some .local := by first | exact .inl rfl | exact .inr rfl) : FS X W (.Assign [.Name x pos'] a pos) (sAsg i ea) := by
  refine ps_imp (ps_set hN hi hx ha hs hf) fun D σ H ⟨ρ, σf, h, rs, rh, p⟩ => ?_
  exact coreS rs rh p fun ρ1 H1 h1 y u e1 rs1 rh1 r1 p1 => p1 ρ1 H1 _ .refl (rs1.set i r1) rh1
def sIf (tc : EvT) (ev ev' : EvS) : EvS := fun σ h => (tc σ h).toS σ fun b h1 => if b = true then ev σ h1 else ev' σ h1
theorem fs_if {c : Expr} {tc : EvT} {s1 s2 : List Stmt} (hc : FT X W c tc) (h1 : FSs X W s1 ev) (h2 : FSs X W s2 ev') : FS X W (.If c s1 s2 pos) (sIf tc ev ev') := by
  refine ps_imp (ps_if hc h1 h2) fun D σ H ⟨ρ, σf, h, rs, rh, p⟩ => ?_
  refine coreS (R1 := RB) rs rh p fun ρ1 H1 h1 y u e1 rs1 rh1 r1 p1 => ?_
  cases r1
  cases y with
  | true => exact ⟨ρ1, σf, h1, rs1, rh1, p1⟩
  | false => exact ⟨ρ1, σf, h1, rs1, rh1, p1⟩

/-! ### targets: names, tuples of names -/
inductive Tg where
  | nm (i : Nat)
  | tp (ts : List Tg)
mutual
def setT : Tg → FV → FSt → Option FSt
  | .nm i, v, σ => some (σ.set i (some v))
  | .tp ts, .tup xs, σ => setTs ts xs σ
  | .tp _, _, _ => none
def setTs : List Tg → List FV → FSt → Option FSt
  | [], [], σ => some σ
  | t :: ts, x :: xs, σ => match setT t x σ with
    | some σ' => setTs ts xs σ'
    | none => none
  | _, _, _ => none
end
mutual
def Tg.slots : Tg → List Nat
  | .nm i => [i]
  | .tp ts => Tg.slotsAll ts
def Tg.slotsAll : List Tg → List Nat
  | [] => []
  | t :: ts => t.slots ++ Tg.slotsAll ts
end
/-- all other slots stay -/
def But (vs : List Nat) (σ σ' : L2.St) : Prop := σ'.length = σ.length ∧ ∀ i : Nat, i ∉ vs → σ'[i]? = σ[i]?
theorem But.refl {vs : List Nat} {σ : L2.St} : But vs σ σ := ⟨rfl, fun _ _ => rfl⟩
theorem But.trans {vs us : List Nat} {σ σ1 σ2 : L2.St} (a : But vs σ σ1) (b : But us σ1 σ2) : But (vs ++ us) σ σ2 :=
  ⟨b.1.trans a.1, fun i h => (b.2 i fun z => h (List.mem_append_right _ z)).trans (a.2 i fun z => h (List.mem_append_left _ z))⟩
def gF (K : PySem.W.Frag) (W : Wsh) (t : Tg) : TG := fun v σ H Q => ∃ (ρ : List Addr) (σf : FSt) (x : FV) (σf' : FSt), RS K W ρ H σf σ ∧ RV K ρ H x v ∧ setT t x σf = some σf' ∧ ∀ σ', RS K W ρ H σf' σ' → But t.slots σ σ' → Q σ' H
def gFs (K : PySem.W.Frag) (W : Wsh) (ts : List Tg) : TGs := fun vs σ H Q => ∃ (ρ : List Addr) (σf : FSt) (xs : List FV) (σf' : FSt), RS K W ρ H σf σ ∧ RVs K ρ H xs vs ∧ setTs ts xs σf = some σf' ∧ ∀ σ', RS K W ρ H σf' σ' → But (Tg.slotsAll ts) σ σ' → Q σ' H
theorem pg_imp {X : Cx} {e : Expr} {t t' : TG} (h : PG X e t) (m : ∀ v σ H Q, t' v σ H Q → t v σ H Q) : PG X e t' := ⟨fun pins s σ H v u Q I r q => h.run pins s σ H v u Q I r (m v σ H Q q)⟩
theorem pgs_imp {X : Cx} {es : List Expr} {t t' : TGs} (h : PGs X es t) (m : ∀ v σ H Q, t' v σ H Q → t v σ H Q) : PGs X es t' := ⟨fun pins s σ H v u Q I r q => h.run pins s σ H v u Q I r (m v σ H Q q)⟩
theorem fg_nm (i : Nat) (hN : X.N.Nodup) (hi : X.N[i]? = some x := by rfl) (hx : Loc X.env.scope x := by first | exact Or.inl rfl | exact Or.inr rfl) (hf : X.fn x = true ∨ X.env.scope.names.lookup x = some .local := by first | exact .inl rfl | exact .inr rfl) : PG X (.Name x pos) (gF X.K W (.nm i)) := by
  refine pg_imp (pg_name hN hi hx hf) fun v σ H Q ⟨ρ, σf, y, σf', rs, r, e, go⟩ => ?_
  simp only [setT] at e
  cases e
  refine go _ (rs.set i r) ⟨List.length_set, fun j hj => ?_⟩
  rw [List.getElem?_set_ne]
  intro z
  subst z
  exact hj (by simp only [Tg.slots]; exact List.mem_cons_self)
theorem fgs_nil : PGs X [] (gFs X.K W []) := by
  refine pgs_imp pgs_nil fun v σ H Q ⟨ρ, σf, y, σf', rs, r, e, go⟩ => ?_
  cases r with
  | nil =>
    simp only [setTs] at e
    cases e
    exact ⟨rfl, go _ rs .refl⟩
  | cons _ _ => simp [setTs] at e
theorem fgs_cons {t : Tg} {ts : List Tg} (h1 : PG X e (gF X.K W t)) (h2 : PGs X es (gFs X.K W ts)) (hs : (assignEach (e :: es) X.env).map (·.2) = assign e X.env :: (assignEach es X.env).map (·.2) := by rfl) : PGs X (e :: es) (gFs X.K W (t :: ts)) := by
  refine pgs_imp (pgs_cons h1 h2 hs) fun v σ H Q ⟨ρ, σf, y, σf', rs, r, e, go⟩ => ?_
  cases r with
  | nil => simp [setTs] at e
  | cons r1 r2 =>
    simp only [setTs] at e
    split at e
    · rename_i σ1 q
      exact ⟨_, _, rfl, ρ, σf, _, σ1, rs, r1, q, fun σ' rs' b' => ⟨ρ, σ1, _, σf', rs', r2, e, fun σ2 rs2 b2 => go σ2 rs2 (by simp only [Tg.slotsAll]; exact b'.trans b2)⟩⟩
    · cases e
theorem setTs_len : ∀ {ts : List Tg} {xs : List FV} {σ σ' : FSt}, setTs ts xs σ = some σ' → xs.length = ts.length
  | [], [], _, _, _ => rfl
  | [], _ :: _, _, _, e => by simp [setTs] at e
  | _ :: _, [], _, _, e => by simp [setTs] at e
  | t :: ts, x :: xs, σ, σ', e => by
    simp only [setTs] at e
    split at e
    · rw [List.length_cons, List.length_cons, setTs_len e]
    · cases e
theorem fg_tup {k : Nat} {ts : List Tg} (hc : X.calm = true) (h : PGs X es (gFs X.K W ts)) (hl : es.length = ts.length := by rfl) (hn : (assignEach es X.env).length = es.length := by rfl) (hst : (assignEach es X.env).findIdx? (·.1) = none := by rfl) : PG X (.Tuple es k pos) (gF X.K W (.tp ts)) := by
  refine pg_imp (pg_tup hc h hn hst) fun v σ H Q ⟨ρ, σf, y, σf', rs, r, e, go⟩ => ?_
  cases r with
  | tup sq rw_ =>
    simp only [setT] at e
    exact ⟨_, _, rfl, sq, by rw [rw_.len', setTs_len e, hl], ρ, σf, _, σf', rs, rw_, e, fun σ2 rs2 b2 => go σ2 rs2 (by simp only [Tg.slots]; exact b2)⟩
  | _ => simp [setT] at e
def sAsgT (t : Tg) (ea : EvE) : EvS := fun σ h => (ea σ h).toS σ fun v h1 => match setT t v σ with
  | some σ' => .nx σ' h1
  | none => .stuck
theorem fs_asgT {tg : Expr} {t : Tg} (ha : FE X W a ea) (hg : PG X tg (gF X.K W t)) (hs : swapsWithSole [tg] a pos.line X.env = pure false := by rfl) (hw : swappedStores [tg] a X.env = pure none := by rfl)
    (h1 : (assignEach [tg] X.env).map (·.2) = [assign tg X.env] := by rfl) : FS X W (.Assign [tg] a pos) (sAsgT t ea) := by
  refine ps_imp (ps_asg ha hg hs hw h1) fun D σ H ⟨ρ, σf, h, rs, rh, p⟩ => ?_
  refine coreS rs rh p fun ρ1 H1 h1 y u e1 rs1 rh1 r1 p1 => ?_
  cases q : setT t y σf with
  | none =>
    simp only [q] at p1
    exact p1.elim
  | some σ' =>
    simp only [q] at p1
    exact ⟨ρ1, σf, y, σ', rs1, r1, q, fun σ2 rs2 _ => p1 ρ1 H1 σ2 .refl rs2 rh1⟩
/-- a, b = e1, e2 of two local names -/
def sPar (i j : Nat) (er : EvA) : EvS := fun σ h => (er σ h).toS σ fun xs h1 => match xs with
  | [v, w] => .nx ((σ.set i (some v)).set j (some w)) h1
  | _ => .stuck
end
end
end FX
set_option maxRecDepth 100000
set_option maxHeartbeats 4000000
namespace FX
open PySem PySem.Spec PyProof.Rows L2
variable [LamT]

/-! ### what a loop walks -/
inductive Src where
  | seq (xs : List FV)
  | own (n : Nat)
  | rng (lo : Int) (k : Nat)
abbrev EvI := FSt → FH → Res Src
def nextI : Src → Nat → FH → Option (Option FV)
  | .seq xs, i, _ => some xs[i]?
  | .own n, i, h => (lstF n h).map fun xs => xs[i]?
  | .rng lo k, i, _ => some (if i < k then some (.int (lo + i)) else none)
def lenI : Src → FH → Nat
  | .seq xs, _ => xs.length
  | .own n, h => match lstF n h with
    | some xs => xs.length
    | none => 0
  | .rng _ k, _ => k
def RI (K : PySem.W.Frag) : Rel Src It := fun ρ H s J => match s with
  | .seq xs => ∃ a vs, J = Itt K a ∧ SqT K H a vs ∧ RVs K ρ H xs vs
  | .own n => ∃ a, J = Itl K a ∧ ρ[n]? = some a
  | .rng lo k => J = Itr lo k
theorem RI.ev {K : PySem.W.Frag} {ρ ρ1 : List Addr} {H H1 : Hp} (e : Ev K ρ H ρ1 H1) : ∀ {s : Src} {J : It}, RI K ρ H s J → RI K ρ1 H1 s J
  | .seq _, _, ⟨a, vs, q, t, r⟩ => ⟨a, vs, q, e.tups _ _ t, r.ev e⟩
  | .own _, _, ⟨a, q, t⟩ => ⟨a, q, e.get t⟩
  | .rng _ _, _, q => q
theorem RI.stop {K : PySem.W.Frag} {ρ : List Addr} {h : FH} {H : Hp} (rh : RH K ρ h H) : ∀ {s : Src} {J : It} {i : Nat}, RI K ρ H s J → nextI s i h = some none → J.stop i H
  | .seq xs, _, i, ⟨a, vs, q, t, r⟩, e => by
    subst q
    have e' := List.getElem?_eq_none_iff.mp (Option.some.inj e)
    exact ⟨vs, t, by rw [← r.len]; exact e'⟩
  | .own n, _, i, ⟨a, q, t⟩, e => by
    subst q
    simp only [nextI] at e
    cases z : lstF n h with
    | none => rw [z] at e; cases e
    | some xs =>
      rw [z] at e
      obtain ⟨vs, sq, r⟩ := lstF_of rh t z
      have e' := List.getElem?_eq_none_iff.mp (Option.some.inj e)
      exact ⟨vs, sq, by rw [← r.len]; exact e'⟩
  | .rng lo k, _, i, q, e => by
    have q : _ = Itr lo k := q
    subst q
    simp only [nextI] at e
    by_cases z : i < k
    · rw [if_pos z] at e
      cases (Option.some.inj e)
    · exact Nat.le_of_not_lt z
theorem RI.go {K : PySem.W.Frag} {ρ : List Addr} {h : FH} {H : Hp} (rh : RH K ρ h H) {x : FV} : ∀ {s : Src} {J : It} {i : Nat}, RI K ρ H s J → nextI s i h = some (some x) → J.go i H ∧ ∀ v H', J.yld i H v H' → H' = H ∧ RV K ρ H x v
  | .seq xs, _, i, ⟨a, vs, q, t, r⟩, e => by
    subst q
    obtain ⟨v, e1, r1⟩ := r.get (Option.some.inj e)
    exact ⟨⟨vs, v, t, e1⟩, fun u H' ⟨z1, z2⟩ => ⟨z1, by
      have := z2 vs t
      rw [e1] at this
      cases this
      exact r1⟩⟩
  | .own n, _, i, ⟨a, q, t⟩, e => by
    subst q
    simp only [nextI] at e
    cases z : lstF n h with
    | none => rw [z] at e; cases e
    | some xs =>
      rw [z] at e
      obtain ⟨vs, sq, r⟩ := lstF_of rh t z
      obtain ⟨v, e1, r1⟩ := r.get (Option.some.inj e)
      exact ⟨⟨vs, v, sq, e1⟩, fun u H' ⟨z1, z2⟩ => ⟨z1, by
        have := z2 vs sq
        rw [e1] at this
        cases this
        exact r1⟩⟩
  | .rng lo k, _, i, q, e => by
    have q : _ = Itr lo k := q
    subst q
    simp only [nextI] at e
    by_cases z : i < k
    · rw [if_pos z] at e
      cases e
      exact ⟨z, fun u H' ⟨z1, z2⟩ => ⟨z1, by rw [z2]; exact .int _⟩⟩
    · rw [if_neg z] at e
      cases (Option.some.inj e)
abbrev FI (X : Cx) (W : Wsh) (tg e : Expr) (ei : EvI) : Prop := PI X tg e (tG (RI X.K) X.K W ei)
def cIt (ea : EvE) : EvI := fun σ h => (ea σ h).bind fun x h1 => match x with
  | .tup xs => .ok (.seq xs) h1
  | .ref n => (match lstF n h1 with
    | some _ => .ok (.own n) h1
    | none => .stuck)
  | _ => .stuck
def bnd (i : Int) : Bool := decide (-(2 ^ 62) ≤ i ∧ i < 2 ^ 62)
def cRng1 (er : EvA) : EvI := fun σ h => (er σ h).bind fun xs h1 => match xs with
  | [.int j] => if bnd j = true then .ok (.rng 0 j.toNat) h1 else .stuck
  | _ => .stuck
def cRng2 (er : EvA) : EvI := fun σ h => (er σ h).bind fun xs h1 => match xs with
  | [.int i, .int j] => if (bnd i && bnd j) = true then .ok (.rng i (j - i).toNat) h1 else .stuck
  | _ => .stuck
def forG (s : Src) (t : Tg) (b : EvS) : Nat → Nat → FSt → FH → SR
  | 0, _, _, _ => .stuck
  | f + 1, i, σ, h => match nextI s i h with
    | none => .stuck
    | some none => .nx σ h
    | some (some x) => match setT t x σ with
      | none => .stuck
      | some σ1 => match b σ1 h with
        | .nx σ2 h2 => forG s t b f (i + 1) σ2 h2
        | .ct σ2 h2 => forG s t b f (i + 1) σ2 h2
        | .bk σ2 h2 => .nx σ2 h2
        | r => r
def sFor (ei : EvI) (t : Tg) (b : EvS) : EvS := fun σ h => (ei σ h).toS σ fun s h1 => forG s t b (lenI s h1 + 1) 0 σ h1
def whL (tc : EvT) (b : EvS) : Nat → FSt → FH → SR
  | 0, _, _ => .stuck
  | f + 1, σ, h => (tc σ h).toS σ fun k h1 => if k = true then (match b σ h1 with
      | .nx σ2 h2 => whL tc b f σ2 h2
      | .ct σ2 h2 => whL tc b f σ2 h2
      | .bk σ2 h2 => .nx σ2 h2
      | r => r) else .nx σ h1
def FUEL : Nat := 1000000000
def sWhile (tc : EvT) (b : EvS) : EvS := fun σ h => whL tc b FUEL σ h
section
variable {X : Cx} {W : Wsh} {a b e : Expr} {es : List Expr} {ea eb : EvE} {er : EvA} {pos p p2 : Pos} {x : Str} {tg : Expr}
theorem fi_val (ha : FE X W e ea) : FI X W tg e (cIt ea) := by
  refine ⟨fun pins s σ H R I ⟨ρ, σf, h, rs, rh, p⟩ => ?_⟩
  by_cases c : ∃ xs h1, ea σf h = .ok (.tup xs) h1
  · obtain ⟨xs, h1, c⟩ := c
    refine (pi_tup ha).run pins s σ H R I (coreE rs rh p fun ρ1 H1 h2 y u q1 e1 rs1 rh1 r1 p1 => ?_)
    rw [c] at q1
    cases q1
    cases r1 with
    | tup sq rw_ => exact ⟨_, rfl, ⟨_, sq⟩, Post.ok_ (R := RI X.K) (x := Src.seq xs) p1 rh1 ⟨_, _, rfl, sq, rw_⟩⟩
  · refine (pi_list ha).run pins s σ H R I (coreE rs rh p fun ρ1 H1 h2 y u q1 e1 rs1 rh1 r1 p1 => ?_)
    cases r1 with
    | tup _ _ => exact absurd ⟨_, _, q1⟩ c
    | ref qn =>
      rename_i n a'
      cases z : lstF n h2 with
      | none =>
        simp only [z] at p1
        exact p1.elim
      | some xs =>
        simp only [z] at p1
        obtain ⟨vs, sq, rw_⟩ := lstF_of rh1 qn z
        exact ⟨_, rfl, ⟨_, sq⟩, Post.ok_ (R := RI X.K) (x := Src.own n) p1 rh1 ⟨_, rfl, qn⟩⟩
    | _ => exact p1.elim
theorem fi_rng1 (hm : X.mg "range" = none) (ha : FA X W [a] er) (hg : Gl X "range" := by rfl) (hs : starEach [a] X.env = [(false, eval a X.env)] := by rfl) : FI X W tg (.Call (.Name "range" p) [a] [] pos) (cRng1 er) := by
  refine ⟨fun pins s σ H R I ⟨ρ, σf, h, rs, rh, p⟩ => ?_⟩
  refine (pi_range1 hg hm ha hs).run pins s σ H R I (core (R1 := RVs X.K) rs rh p fun ρ1 H1 h1 xs vs e1 rs1 rh1 r1 p1 => ?_)
  split at p1
  · rename_i j
    split at p1
    · rename_i z
      obtain ⟨v, rfl, r2⟩ := one_of r1
      cases r2
      have z := of_decide_eq_true z
      exact ⟨j, rfl, z.1, z.2, Post.ok_ (R := RI X.K) (x := Src.rng 0 j.toNat) p1 rh1 rfl⟩
    · exact p1.elim
  · exact p1.elim
theorem fi_rng2 (hm : X.mg "range" = none) (ha : FA X W [a, b] er) (hg : Gl X "range" := by rfl) (hs : starEach [a, b] X.env = [(false, eval a X.env), (false, eval b X.env)] := by rfl) (hs2 : starEach [b] X.env = [(false, eval b X.env)] := by rfl) :
    FI X W tg (.Call (.Name "range" p) [a, b] [] pos) (cRng2 er) := by
  refine ⟨fun pins s σ H R I ⟨ρ, σf, h, rs, rh, p⟩ => ?_⟩
  refine (pi_range2 hg hm ha hs hs2).run pins s σ H R I (core (R1 := RVs X.K) rs rh p fun ρ1 H1 h1 xs vs e1 rs1 rh1 r1 p1 => ?_)
  split at p1
  · rename_i i j
    split at p1
    · rename_i z
      obtain ⟨v, u, rfl, r2, r3⟩ := two_of r1
      cases r2
      cases r3
      obtain ⟨z1, z2⟩ := Bool.and_eq_true_iff.mp z
      have z1 := of_decide_eq_true z1
      have z2 := of_decide_eq_true z2
      exact ⟨i, j, rfl, ⟨z1.1, z1.2, z2.1, z2.2⟩, Post.ok_ (R := RI X.K) (x := Src.rng i (j - i).toNat) p1 rh1 rfl⟩
    · exact p1.elim
  · exact p1.elim
theorem PostS.ends {K : PySem.W.Frag} {ρ : List Addr} {H : Hp} {D D' : Ends} {r : SR} (hn : ∀ σ h, r = .nx σ h → PostS K W ρ H D' (.nx σ h)) (hb : ∀ σ h, r = .bk σ h → PostS K W ρ H D' (.bk σ h)) (hc : ∀ σ h, r = .ct σ h → PostS K W ρ H D' (.ct σ h)) (ht : D'.rt = D.rt)
    (hp : (∀ v h, r = .rt v h → PostS K W ρ H D r) ∧ (∀ c fs σ h, r = .ex c fs σ h → PostS K W ρ H D r) ∧ r ≠ .stuck) : PostS K W ρ H D' r := by
  cases r with
  | nx σ h => exact hn σ h rfl
  | bk σ h => exact hb σ h rfl
  | ct σ h => exact hc σ h rfl
  | rt v h =>
    intro ρ' H' u e rh r
    rw [ht]
    exact hp.1 v h rfl ρ' H' u e rh r
  | ex c fs σ h => exact hp.2.1 c fs σ h rfl
  | stuck => exact absurd rfl hp.2.2
theorem fs_for {t : Tg} {ei : EvI} {body : List Stmt} {ev : EvS} (hp : PassesOwn (model X.prog X.w) X.A X.env X.xe) (hc : X.calm = true) (hi : FI X W tg e ei) (hg : PG X tg (gF X.K W t)) (hb : FSs X W body ev) (hs : ∀ x, foldedSetIterable e X.env x = pure x := by intro _; rfl) :
    FS X W (.For tg e body [] pos) (sFor ei t ev) := by
  refine ps_imp (ps_for hp hc hi hg hb hs) fun D σ H ⟨ρ, σf, h, rs, rh, p⟩ => ?_
  refine coreS (R1 := RI X.K) rs rh p fun ρ1 H1 h1 src J e1 rs1 rh1 r1 p1 => ?_
  refine ⟨fun i m σ' H' => ∃ ρ' σf' h', Ev X.K ρ1 H1 ρ' H' ∧ RS X.K W ρ' H' σf' σ' ∧ RH X.K ρ' h' H' ∧ PostS X.K W ρ' H' D (forG src t ev m i σf' h'), ⟨_, ρ1, σf, h1, .refl, rs1, rh1, p1⟩, ?_⟩
  rintro i m σ2 H2 ⟨ρ2, σf2, h2, e2, rs2, rh2, p2⟩
  cases m with
  | zero => exact p2.elim
  | succ m =>
    unfold forG at p2
    have r2 := r1.ev e2
    cases q : nextI src i h2 with
    | none =>
      simp only [q] at p2
      exact p2.elim
    | some o =>
      cases o with
      | none =>
        simp only [q] at p2
        exact .inl ⟨r2.stop rh2 q, p2 ρ2 H2 σ2 .refl rs2 rh2⟩
      | some y =>
        simp only [q] at p2
        obtain ⟨g1, g2⟩ := r2.go rh2 q
        refine .inr ⟨g1, fun σ' H' => ∃ ρ' σf' h', Ev X.K ρ1 H1 ρ' H' ∧ RS X.K W ρ' H' σf' σ' ∧ RH X.K ρ' h' H' ∧ PostS X.K W ρ' H' D (forG src t ev m (i + 1) σf' h'), fun σ' H' n => ⟨m, Nat.lt_succ_self m, n⟩, fun v H' yy => ?_⟩
        obtain ⟨eH, rv⟩ := g2 v H' yy
        subst eH
        cases qs : setT t y σf2 with
        | none =>
          simp only [qs] at p2
          exact p2.elim
        | some σ3 =>
          simp only [qs] at p2
          refine ⟨ρ2, σf2, y, σ3, rs2, rv, qs, fun σ4 rs4 _ => ⟨ρ2, σ3, h2, rs4, rh2, ?_⟩⟩
          cases qb : ev σ3 h2 with
          | nx σ5 h5 =>
            rw [qb] at p2
            exact fun ρ' H' σ' e' rs' rh' => ⟨ρ', σ5, h5, e2.trans e', rs', rh', p2.at_ e'⟩
          | ct σ5 h5 =>
            rw [qb] at p2
            exact fun ρ' H' σ' e' rs' rh' => ⟨ρ', σ5, h5, e2.trans e', rs', rh', p2.at_ e'⟩
          | bk σ5 h5 =>
            rw [qb] at p2
            exact fun ρ' H' σ' e' rs' rh' => p2 ρ' H' σ' e' rs' rh'
          | rt v5 h5 =>
            rw [qb] at p2
            exact p2
          | ex c fs σ5 h5 =>
            rw [qb] at p2
            exact p2
          | stuck =>
            rw [qb] at p2
            exact p2.elim
theorem fs_while {c : Expr} {tc : EvT} {body : List Stmt} {ev : EvS} (hp : PassesOwn (model X.prog X.w) X.A X.env X.xe) (hc : FT X W c tc) (hb : FSs X W body ev) : FS X W (.While c body [] pos) (sWhile tc ev) := by
  refine ps_imp (ps_while hp hc hb) fun D σ H ⟨ρ, σf, h, rs, rh, p⟩ => ?_
  refine ⟨fun m σ' H' => ∃ ρ' σf' h', RS X.K W ρ' H' σf' σ' ∧ RH X.K ρ' h' H' ∧ PostS X.K W ρ' H' D (whL tc ev m σf' h'), ⟨_, ρ, σf, h, rs, rh, p⟩, ?_⟩
  rintro m σ2 H2 ⟨ρ2, σf2, h2, rs2, rh2, p2⟩
  cases m with
  | zero => exact p2.elim
  | succ m =>
    unfold whL at p2
    refine coreS (R1 := RB) rs2 rh2 p2 fun ρ3 H3 h3 k k' e3 rs3 rh3 r3 p3 => ?_
    cases r3
    cases k with
    | false =>
      rw [if_neg Bool.false_ne_true] at p3 ⊢
      exact p3 ρ3 H3 σ2 .refl rs3 rh3
    | true =>
      rw [if_pos rfl] at p3 ⊢
      refine ⟨fun σ' H' => ∃ ρ' σf' h', RS X.K W ρ' H' σf' σ' ∧ RH X.K ρ' h' H' ∧ PostS X.K W ρ' H' D (whL tc ev m σf' h'), fun σ' H' n => ⟨m, Nat.lt_succ_self m, n⟩, ρ3, σf2, h3, rs3, rh3, ?_⟩
      cases qb : ev σf2 h3 with
      | nx σ5 h5 =>
        rw [qb] at p3
        exact fun ρ' H' σ' e' rs' rh' => ⟨ρ', σ5, h5, rs', rh', p3.at_ e'⟩
      | ct σ5 h5 =>
        rw [qb] at p3
        exact fun ρ' H' σ' e' rs' rh' => ⟨ρ', σ5, h5, rs', rh', p3.at_ e'⟩
      | bk σ5 h5 =>
        rw [qb] at p3
        exact fun ρ' H' σ' e' rs' rh' => p3 ρ' H' σ' e' rs' rh'
      | rt v5 h5 =>
        rw [qb] at p3
        exact p3
      | ex c fs σ5 h5 =>
        rw [qb] at p3
        exact p3
      | stuck =>
        rw [qb] at p3
        exact p3.elim

/-! ### methods of lists -/
abbrev OpM := FV → List FV → FH → Option (FV × FH)
def rM (K : PySem.W.Frag) (g : OpM) : V → List V → Hp → VK → Prop := fun x xs H Q => ∃ (ρ : List Addr) (fx : FV) (fs : List FV) (h : FH) (fz : FV) (h' : FH), RV K ρ H fx x ∧ RVs K ρ H fs xs ∧ RH K ρ h H ∧ g fx fs h = some (fz, h') ∧
  ∀ (ρ' : List Addr) (H' : Hp) (v : V), Ev K ρ H ρ' H' → RH K ρ' h' H' → RV K ρ' H' fz v → Q v H'
def isLst (x : FV) (h : FH) : Bool := match x with
  | .ref n => (match h[n]? with
    | some (.lst _) => true
    | _ => false)
  | _ => false
def cLM (g : OpM) (eo : EvE) (er : EvA) : EvE := fun σ h => (eo σ h).bind fun x h1 => if isLst x h1 = true then ((er σ h1).bind fun xs h2 => Res.of (g x xs h2)) else .stuck
def cLM0 (g : OpM) (eo : EvE) : EvE := fun σ h => (eo σ h).bind fun x h1 => if isLst x h1 = true then Res.of (g x [] h1) else .stuck
theorem isLst_ty {K : PySem.W.Frag} {ρ : List Addr} {h : FH} {H : Hp} (rh : RH K ρ h H) {x : FV} {v : V} (r : RV K ρ H x v) (e : isLst x h = true) : tyV K "list" v H := by
  unfold isLst at e
  split at e
  · split at e
    · rename_i xs q
      cases r with
      | ref qn =>
        obtain ⟨vs, q1, _⟩ := rh.ref q qn
        exact .inl ⟨rfl, vs, .of q1⟩
    · cases e
  · cases e
theorem fe_lm {g : OpM} {o : Expr} {eo : EvE} {name : Str} {id : String} {apos cpos : Pos} (pa : PlainAttrs "list") (slot : Slot "list" name id) (hty : typeOf (.builtin id) = pure (.type "method_descriptor")) (hm : MtR X id (rM X.K g)) (ho : FE X W o eo) (ha : FA X W (e :: es) er)
    (hbase : attributeBase o name X.env (eval o X.env) = eval o X.env := by rfl)
    (hfew : ((backTo cpos (starEach (e :: es) X.env)).all (fun x => !x.1) && (backToKw cpos (keywordEach [] X.env)).all (fun x => x.1.isSome) && decide ((e :: es).length + ([] : List Keyword).length + (if ([] : List Keyword).isEmpty then 0 else 1) < 30)) = true := by rfl)
    (hline : (apos.endLine == cpos.line) = true := by rfl) (hs : starEach (e :: es) X.env = (false, eval e X.env) :: starEach es X.env := by rfl) (hplain : (backTo cpos (starEach es X.env)).any (·.1) = false := by rfl) :
    FE X W (.Call (.Attribute o name apos) (e :: es) [] cpos) (cLM g eo er) := by
  refine pe_imp (pe_bm pa slot hty hm ho ha hbase hfew hline hs hplain) fun σ H Q ⟨ρ, σf, h, rs, rh, p⟩ => ?_
  refine core rs rh p fun ρ1 H1 h1 y v e1 rs1 rh1 r1 p1 => ?_
  by_cases z : isLst y h1 = true
  · rw [if_pos z] at p1
    refine ⟨isLst_ty rh1 r1 z, ?_⟩
    refine core (R1 := RVs X.K) rs1 rh1 p1 fun ρ2 H2 h2 ys vs e2 rs2 rh2 r2 p2 => ?_
    cases q : g y ys h2 with
    | none =>
      rw [q] at p2
      exact p2.elim
    | some w =>
      rw [q] at p2
      exact ⟨ρ2, y, ys, h2, w.1, w.2, r1.ev e2, r2, rh2, q, p2⟩
  · rw [if_neg z] at p1
    exact p1.elim
theorem fe_lm0 {g : OpM} {o : Expr} {eo : EvE} {name : Str} {id : String} {apos cpos : Pos} (pa : PlainAttrs "list") (slot : Slot "list" name id) (hty : typeOf (.builtin id) = pure (.type "method_descriptor")) (hm : MtR X id (rM X.K g)) (ho : FE X W o eo)
    (hbase : attributeBase o name X.env (eval o X.env) = eval o X.env := by rfl) (hline : (apos.endLine == cpos.line) = true := by rfl) : FE X W (.Call (.Attribute o name apos) [] [] cpos) (cLM0 g eo) := by
  refine pe_imp (pe_bm0 pa slot hty hm ho hbase hline) fun σ H Q ⟨ρ, σf, h, rs, rh, p⟩ => ?_
  refine core rs rh p fun ρ1 H1 h1 y v e1 rs1 rh1 r1 p1 => ?_
  by_cases z : isLst y h1 = true
  · rw [if_pos z] at p1
    refine ⟨isLst_ty rh1 r1 z, ?_⟩
    cases q : g y [] h1 with
    | none =>
      rw [q] at p1
      exact p1.elim
    | some w =>
      rw [q] at p1
      exact ⟨ρ1, y, [], h1, w.1, w.2, r1, .nil, rh1, q, p1⟩
  · rw [if_neg z] at p1
    exact p1.elim
/-- a list is written -/
theorem set_lst {K : PySem.W.Frag} {ρ : List Addr} {h : FH} {H : Hp} {n : Nat} {a : Addr} {xs ys : List FV} {vs us : List V} (rh : RH K ρ h H) (qn : ρ[n]? = some a) (e : h[n]? = some (.lst xs)) (q : H a = some (.lst vs)) (r : RVs K ρ H ys us) :
    Ev K ρ H ρ (upd H a (.lst us)) ∧ RH K ρ (h.set n (.lst ys)) (upd H a (.lst us)) := by
  have ev : Ev K ρ H ρ (upd H a (.lst us)) := .wr q trivial
  exact ⟨ev, rh.write e (fun _ _ _ z => z) qn ev ⟨us, upd_same, r.ev ev⟩⟩
def appendF : OpM := fun x ys h => match x, ys with
  | .ref n, [y] => (match h[n]? with
    | some (.lst xs) => if xs.length < sizeLine then some (.non, h.set n (.lst (xs ++ [y]))) else none
    | _ => none)
  | _, _ => none
theorem of_append : MtR X "list.append" (rM X.K appendF) := by
  intro pins s σ H x xs v us Q I rx rxs ⟨ρ, fx, fs, h, fz, h', r1, r2, rh, e, go⟩
  unfold appendF at e
  split at e
  · rename_i n y
    split at e
    · rename_i ys q
      split at e
      · rename_i z
        cases e
        obtain ⟨w, rfl, r3⟩ := one_of r2
        cases r1 with
        | ref qn =>
          obtain ⟨vs, q1, q2⟩ := lst_of rh qn q
          obtain ⟨ev, rh'⟩ := set_lst rh qn q q1 (q2.app (.cons r3 .nil))
          exact mt_append pins s σ H _ _ v us Q I rx rxs ⟨_, vs, w, rfl, rfl, q1, by rw [q2.len']; exact z, go ρ _ _ ev rh' .non⟩
      · cases e
    · cases e
  · cases e
def clearF : OpM := fun x ys h => match x, ys with
  | .ref n, [] => (match h[n]? with
    | some (.lst _) => some (.non, h.set n (.lst []))
    | _ => none)
  | _, _ => none
theorem of_clear : MtR X "list.clear" (rM X.K clearF) := by
  intro pins s σ H x xs v us Q I rx rxs ⟨ρ, fx, fs, h, fz, h', r1, r2, rh, e, go⟩
  unfold clearF at e
  split at e
  · rename_i n
    split at e
    · rename_i ys q
      cases e
      cases r2
      cases r1 with
      | ref qn =>
        obtain ⟨vs, q1, q2⟩ := lst_of rh qn q
        obtain ⟨ev, rh'⟩ := set_lst rh qn q q1 .nil
        exact mt_clear pins s σ H _ _ v us Q I rx rxs ⟨_, vs, rfl, rfl, q1, go ρ _ _ ev rh' .non⟩
    · cases e
  · cases e
end
end FX
set_option maxRecDepth 100000
set_option maxHeartbeats 4000000
namespace FX
open PySem PySem.Spec PyProof.Rows L2
variable [LamT]

/-! ### list comprehensions -/
def wipeF (σ : FSt) : List Nat → FSt
  | [] => σ
  | v :: vs => (wipeF σ vs).set v none
theorem wipeF_rs {K : PySem.W.Frag} {W : Wsh} {ρ : List Addr} {H : Hp} {σf : FSt} {σ : L2.St} (r : RS K W ρ H σf σ) : ∀ vs : List Nat, RS K W ρ H (wipeF σf vs) (wipe σ vs)
  | [] => r
  | v :: vs => by
    have ih := wipeF_rs r vs
    refine ⟨by simp only [wipeF, wipe, List.length_set]; exact ih.len, fun i x h => ?_, r.tabs, r.base⟩
    simp only [wipeF] at h
    simp only [wipe]
    by_cases e : v = i
    · subst e
      by_cases hv : v < (wipeF σf vs).length
      · rw [List.getElem?_set_self hv] at h
        cases (Option.some.inj h)
      · rw [List.getElem?_eq_none (by simpa using hv)] at h
        cases h
    · rw [List.getElem?_set_ne e] at h ⊢
      exact ih.at_ i x h
theorem wipe_at {σ : L2.St} {i : Nat} : ∀ {vs : List Nat}, i ∈ vs → (wipe σ vs)[i]? = if i < σ.length then some none else none
  | [], h => by cases h
  | v :: vs, h => by
    simp only [wipe]
    by_cases e : v = i
    · subst e
      by_cases hv : v < σ.length
      · rw [if_pos hv, List.getElem?_set_self (by rw [wipe_length]; exact hv)]
      · rw [if_neg hv, List.getElem?_eq_none (by rw [List.length_set, wipe_length]; omega)]
    · rw [List.getElem?_set_ne e]
      rcases List.mem_cons.mp h with z | z
      · exact absurd z.symm e
      · exact wipe_at z
theorem wipe_but {σ σ' : L2.St} {vs us : List Nat} (b : But us (wipe σ vs) σ') (hs : ∀ i ∈ us, i ∈ vs) : wipe σ' vs = wipe σ vs := by
  have hl : σ'.length = σ.length := b.1.trans (wipe_length σ vs)
  apply List.ext_getElem?
  intro i
  by_cases hi : i ∈ vs
  · rw [wipe_at hi, wipe_at hi, hl]
  · rw [wipe_out hi]
    exact b.2 i fun z => hi (hs i z)
def lcG (D : Nat) (s : Src) (t : Tg) (tt : EvT) (te : EvE) (σw : FSt) : Nat → Nat → FH → Res FV
  | 0, _, _ => .stuck
  | f + 1, i, h => match nextI s i h with
    | none => .stuck
    | some none => .ok (.ref D) h
    | some (some x) => match setT t x σw with
      | none => .stuck
      | some σ1 => match tt σ1 h with
        | .ok false h1 => lcG D s t tt te σw f (i + 1) h1
        | .ok true h1 => (match te σ1 h1 with
          | .ok y h2 => (match h2[D]? with
            | some (.lst acc) => if small (acc.length + 1) = true then lcG D s t tt te σw f (i + 1) (h2.set D (.lst (acc ++ [y]))) else .stuck
            | _ => .stuck)
          | _ => .stuck)
        | _ => .stuck
def cLc (ei : EvI) (t : Tg) (vs : List Nat) (tt : EvT) (te : EvE) : EvE := fun σ h => (ei σ h).bind fun s h1 => lcG h1.length s t tt te (wipeF σ vs) (lenI s h1 + 1) 0 (h1 ++ [.lst []])
def cYes : EvT := fun _ h => .ok true h
abbrev FTs (X : Cx) (W : Wsh) (es : List Expr) (ev : EvT) : Prop := PTs X es (tG RB X.K W ev)
section
variable {X : Cx} {W : Wsh} {a b e : Expr} {es : List Expr} {ea eb : EvE} {er : EvA} {pos p p2 : Pos} {x : Str} {tg : Expr}
theorem fts_nil : FTs X W [] cYes := ⟨fun pins s σ H Q I ⟨ρ, σf, h, rs, rh, p⟩ => (pts_nil (X := X)).run pins s σ H Q I (Post.ok_ (R := RB) (x := true) p rh rfl)⟩
theorem fts_one {ta : EvT} (h : FT X W a ta) : FTs X W [a] ta := ⟨fun pins s σ H Q I q => (pts_one h).run pins s σ H Q I q⟩
theorem tLc_of {ei : EvI} {t : Tg} {vs : List Nat} {tt : EvT} {te : EvE} (hsub : ∀ i ∈ t.slots, i ∈ vs) {σ : L2.St} {H : Hp} {Q : VK} (h : tG (RV X.K) X.K W (cLc ei t vs tt te) σ H Q) :
    tLc (tG (RI X.K) X.K W ei) (gF X.K W t) (tG RB X.K W.nox tt) (tG (RV X.K) X.K W.nox te) vs σ H Q := by
  obtain ⟨ρ, σf, h, rs, rh, p⟩ := h
  refine core (R1 := RI X.K) rs rh p fun ρ1 H1 h1 src J e1 rs1 rh1 r1 p1 => ?_
  intro D hD
  have eD : Ev X.K ρ1 H1 (ρ1 ++ [D]) (upd H1 D (.lst [])) := .push hD
  have rhD : RH X.K (ρ1 ++ [D]) (h1 ++ [.lst []]) (upd H1 D (.lst [])) := rh1.push hD eD ⟨[], upd_same, .nil⟩
  have atD : (ρ1 ++ [D])[h1.length]? = some D := by rw [← rh1.len]; simp
  refine ⟨fun i m H' => ∃ ρ' h', Ev X.K (ρ1 ++ [D]) (upd H1 D (.lst [])) ρ' H' ∧ RH X.K ρ' h' H' ∧ Post X.K W (RV X.K) ρ' H' σ (lcG h1.length src t tt te (wipeF σf vs) m i h') Q, ⟨_, _, _, .refl, rhD, p1.at_ eD⟩, ?_⟩
  rintro i m H2 ⟨ρ2, h2, e2, rh2, p2⟩
  cases m with
  | zero => exact p2.elim
  | succ m =>
    unfold lcG at p2
    have r2 := (r1.ev eD).ev e2
    cases q : nextI src i h2 with
    | none =>
      simp only [q] at p2
      exact p2.elim
    | some o =>
      cases o with
      | none =>
        simp only [q] at p2
        exact .inl ⟨r2.stop rh2 q, p2 ρ2 H2 _ .refl rh2 (.ref (e2.get atD))⟩
      | some y =>
        simp only [q] at p2
        obtain ⟨g1, g2⟩ := r2.go rh2 q
        refine .inr ⟨g1, fun H' => ∃ ρ' h', Ev X.K (ρ1 ++ [D]) (upd H1 D (.lst [])) ρ' H' ∧ RH X.K ρ' h' H' ∧ Post X.K W (RV X.K) ρ' H' σ (lcG h1.length src t tt te (wipeF σf vs) m (i + 1) h') Q, fun H' n => ⟨m, Nat.lt_succ_self m, n⟩, fun v H' yy => ?_⟩
        obtain ⟨eH, rv⟩ := g2 v H' yy
        subst eH
        cases qs : setT t y (wipeF σf vs) with
        | none =>
          simp only [qs] at p2
          exact p2.elim
        | some σ3 =>
          simp only [qs] at p2
          refine ⟨ρ2, wipeF σf vs, y, σ3, wipeF_rs (((rs1.ev eD).ev e2)) vs, rv, qs, fun σ4 rs4 b4 => ⟨wipe_but b4 hsub, ?_⟩⟩
          refine ⟨ρ2, σ3, h2, rs4.wish _, rh2, ?_⟩
          cases qt : tt σ3 h2 with
          | stuck =>
            rw [qt] at p2
            exact p2.elim
          | exc c fs h3 =>
            rw [qt] at p2
            exact p2.elim
          | ok k h3 =>
            rw [qt] at p2
            intro ρ3 H3 k' e3 rh3 r3
            cases r3
            cases k with
            | false =>
              rw [if_neg Bool.false_ne_true]
              exact ⟨ρ3, h3, e2.trans e3, rh3, p2.at_ e3⟩
            | true =>
              rw [if_pos rfl]
              refine ⟨ρ3, σ3, h3, (rs4.ev e3).wish _, rh3, ?_⟩
              cases qe : te σ3 h3 with
              | stuck =>
                simp only [qe] at p2
                exact p2.elim
              | exc c fs h4 =>
                simp only [qe] at p2
                exact p2.elim
              | ok z h4 =>
                simp only [qe] at p2
                intro ρ4 H4 w e4 rh4 r4
                split at p2
                · rename_i acc qa
                  split at p2
                  · rename_i hs
                    have qn := e4.get (e3.get (e2.get atD))
                    obtain ⟨us, u1, u2⟩ := lst_of rh4 qn qa
                    obtain ⟨ev, rh'⟩ := set_lst rh4 qn qa u1 (u2.app (.cons r4 .nil))
                    have hz := of_decide_eq_true hs
                    exact ⟨us, u1, by rw [u2.len']; omega, ρ4, _, ((e2.trans e3).trans e4).trans ev, rh', p2.at_ ((e3.trans e4).trans ev)⟩
                  · exact p2.elim
                · exact p2.elim
theorem fe_lc {ei : EvI} {t : Tg} {own : List (Str × Nat)} {ifs : List Expr} {scope : Scope} {tt : EvT} {te : EvE} (hc : X.calm = true) (hN : X.N.Nodup) (hi : FI X W tg e ei) (hB : blkC X.N X.env.scope scope own = true) (hsub : ∀ i ∈ t.slots, i ∈ own.map (·.2))
    (hg : ∀ (s : Shared) (H : Hp) (C : Addr) (cl : List (Str × Addr)) (fp : List Addr), PG (X.blk s H scope (compEnvC scope cl C X.env) fp) tg (gF X.K W t))
    (ht : ∀ (s : Shared) (H : Hp) (C : Addr) (cl : List (Str × Addr)) (fp : List Addr), PTs (X.blk s H scope (compEnvC scope cl C X.env) fp) ifs (tG RB X.K W.nox tt))
    (he : ∀ (s : Shared) (H : Hp) (C : Addr) (cl : List (Str × Addr)) (fp : List Addr), PE (X.blk s H scope (compEnvC scope cl C X.env) fp) a (tG (RV X.K) X.K W.nox te)) (hs : ∀ x, foldedSetIterable e X.env x = pure x := by intro _; rfl) :
    FE X W (.ListComp a [⟨tg, e, ifs, 0⟩] scope pos) (cLc ei t (own.map (·.2)) tt te) :=
  pe_imp (pe_lc hc hN hi (blkOk_by hB) hg ht he hs) fun _ _ _ h => tLc_of hsub h
/-- name = [..] on one line -/
theorem fs_asgLc {ei : EvI} {t : Tg} {own : List (Str × Nat)} {ifs : List Expr} {scope : Scope} {tt : EvT} {te : EvE} {i : Nat} {y : Str} {py spos : Pos} (hc : X.calm = true) (hN : X.N.Nodup) (hy : X.N[i]? = some y) (hyl : X.env.scope.names.lookup y = some .local)
    (hsw : swapsWith (.ListComp a [⟨tg, e, ifs, 0⟩] scope pos) (some (.Name y py)) spos.line X.env = pure true) (hi : FI X W tg e ei) (hB : blkC X.N X.env.scope scope own = true) (hsub : ∀ i ∈ t.slots, i ∈ own.map (·.2))
    (hg : ∀ (s : Shared) (H : Hp) (C : Addr) (cl : List (Str × Addr)) (fp : List Addr), PG (X.blk s H scope (compEnvC scope cl C X.env) fp) tg (gF X.K W t))
    (ht : ∀ (s : Shared) (H : Hp) (C : Addr) (cl : List (Str × Addr)) (fp : List Addr), PTs (X.blk s H scope (compEnvC scope cl C X.env) fp) ifs (tG RB X.K W.nox tt))
    (he : ∀ (s : Shared) (H : Hp) (C : Addr) (cl : List (Str × Addr)) (fp : List Addr), PE (X.blk s H scope (compEnvC scope cl C X.env) fp) a (tG (RV X.K) X.K W.nox te)) (hs : ∀ x, foldedSetIterable e X.env x = pure x := by intro _; rfl) :
    FS X W (.Assign [.Name y py] (.ListComp a [⟨tg, e, ifs, 0⟩] scope pos) spos) (sAsg i (cLc ei t (own.map (·.2)) tt te)) := by
  refine ps_imp (ps_setLc hc hN hy hyl hsw hi (blkOk_by hB) hg ht he hs) fun D σ H ⟨ρ, σf, h, rs, rh, p⟩ => ?_
  refine tLc_of (W := W) hsub ?_
  exact coreS rs rh p fun ρ1 H1 h1 z u e1 rs1 rh1 r1 p1 => p1 ρ1 H1 _ .refl (rs1.set i r1) rh1

/-! ### stores -/
def setIxF (o i v : FV) (h : FH) : Option FH := match o with
  | .ref n => (match h[n]? with
    | some (.lst xs) => (match i with
      | .int k => (match ixN xs.length k with
        | some j => some (h.set n (.lst (xs.set j v)))
        | none => none)
      | _ => none)
    | some (.dic kvs) => (match fkey i with
      | some k => if kvs.length < sizeLine then some (h.set n (.dic (putK2 kvs k v))) else none
      | none => none)
    | _ => none)
  | _ => none
where putK2 (kvs : List (Key × FV)) (k : Key) (v : FV) : List (Key × FV) := if (kvs.any fun q => decide (q.1 = k)) = true then kvs.map fun q => if q.1 = k then (q.1, v) else q else kvs ++ [(k, v)]
def sSetIx (eo ei ev : EvE) : EvS := fun σ h => (ev σ h).toS σ fun v h1 => (eo σ h1).toS σ fun o h2 => (ei σ h2).toS σ fun i h3 => match setIxF o i v h3 with
  | some h4 => .nx σ h4
  | none => .stuck
/-- a list's place is stored -/
theorem fs_setL {o i v : Expr} {eo ei ev : EvE} {pos' : Pos} (ho : FE X W o eo) (hi : FE X W i ei) (hv : FE X W v ev) (hs : swapsWithSole [.Subscript o i pos'] v pos.line X.env = pure false := by rfl) (hw : swappedStores [.Subscript o i pos'] v X.env = pure none := by rfl)
    (h1 : (assignEach [.Subscript o i pos'] X.env).map (·.2) = [assign (.Subscript o i pos') X.env] := by rfl)
    (ha : ∀ v, assign (.Subscript o i pos') X.env v = (do let ov ← holding [v] (eval o X.env); let iv ← holding [v, ov] (eval i X.env); standAt pos'; holding [v, ov, iv] (setItem ov iv v); release [v, ov, iv] []) := by intro _; rfl) :
    FS X W (.Assign [.Subscript o i pos'] v pos) (fun σ h => (ev σ h).toS σ fun v h1 => (eo σ h1).toS σ fun o h2 => (ei σ h2).toS σ fun i h3 => if isLst o h3 = true then (match setIxF o i v h3 with
      | some h4 => .nx σ h4
      | none => .stuck) else .stuck) := by
  refine ps_imp (ps_asg hv (pg_sub ho hi set_list ha) hs hw h1) fun D σ H ⟨ρ, σf, h, rs, rh, p⟩ => ?_
  refine coreS rs rh p fun ρ1 H1 h1 fv v' e1 rs1 rh1 r1 p1 => ?_
  refine coreS rs1 rh1 p1 fun ρ2 H2 h2 fo o' e2 rs2 rh2 r2 p2 => ?_
  refine coreS rs2 rh2 p2 fun ρ3 H3 h3 fi i' e3 rs3 rh3 r3 p3 => ?_
  split at p3
  · rename_i hl
    unfold isLst at hl
    split at hl
    · rename_i n
      split at hl
      · rename_i xs q
        cases r2 with
        | ref qn =>
          have qn' := e3.get qn
          obtain ⟨vs, q1, q2⟩ := lst_of rh3 qn' q
          simp only [setIxF, q] at p3
          split at p3
          · rename_i h4 qq
            split at qq
            · rename_i k
              split at qq
              · rename_i j qj
                cases qq
                cases r3
                obtain ⟨ev', rh'⟩ := set_lst rh3 qn' q q1 (q2.set ((r1.ev e2).ev e3) j)
                exact ⟨_, vs, k, j, rfl, rfl, q1, by rw [q2.len']; exact qj, p3 ρ3 _ σ ev' (rs3.ev ev') rh'⟩
              · cases qq
            · cases qq
          · exact p3.elim
      · cases hl
    · cases hl
  · exact p3.elim
theorem RK.put {K : PySem.W.Frag} {ρ : List Addr} {H : Hp} {kvs : List (Key × FV)} {vs : List (Key × V)} {k : Key} {y : FV} {u : V} (r : RK K ρ H kvs vs) (ry : RV K ρ H y u) : RK K ρ H (setIxF.putK2 kvs k y) (putK vs k u) := by
  have any_ : (kvs.any fun q => decide (q.1 = k)) = (vs.any fun q => decide (q.1 = k)) := by
    clear ry
    induction r with
    | nil => rfl
    | cons r1 r2 ih => rw [List.any_cons, List.any_cons, ih]
  have map_ : RK K ρ H (kvs.map fun q => if q.1 = k then (q.1, y) else q) (vs.map fun q => if q.1 = k then (q.1, u) else q) := by
    clear any_
    induction r with
    | nil => exact .nil
    | @cons j x v xs ws r1 r2 ih =>
      rw [List.map_cons, List.map_cons]
      by_cases z : j = k
      · rw [if_pos z, if_pos z]
        exact .cons ry ih
      · rw [if_neg z, if_neg z]
        exact .cons r1 ih
  have app_ : RK K ρ H (kvs ++ [(k, y)]) (vs ++ [(k, u)]) := by
    clear any_ map_
    induction r with
    | nil => exact .cons ry .nil
    | cons r1 r2 ih => exact .cons r1 ih
  unfold setIxF.putK2 putK
  rw [any_]
  by_cases z : (vs.any fun q => decide (q.1 = k)) = true
  · rw [if_pos z]
    first
      | (rw [if_pos z]; exact map_)
      | (simp only [z]; exact map_)
  · rw [if_neg z]
    first
      | (rw [if_neg z]; exact app_)
      | (simp only [z]; exact app_)
theorem RK.len {K : PySem.W.Frag} {ρ : List Addr} {H : Hp} {κ : Type} {kvs : List (κ × FV)} {vs : List (κ × V)} (r : RK K ρ H kvs vs) : vs.length = kvs.length := by
  induction r with
  | nil => rfl
  | cons _ _ ih => rw [List.length_cons, List.length_cons, ih]
theorem fs_setD {o i v : Expr} {eo ei ev : EvE} {pos' : Pos} (hu : X.A.units + 1 < cLine) (ho : FE X W o eo) (hi : FE X W i ei) (hv : FE X W v ev) (hs : swapsWith v (some (.Subscript o i pos')) pos.line X.env = pure false := by rfl) :
    FS X W (.Assign [.Subscript o i pos'] v pos) (fun σ h => (ev σ h).toS σ fun v h1 => (eo σ h1).toS σ fun o h2 => (ei σ h2).toS σ fun i h3 => if isDic o h3 = true then (match setIxF o i v h3 with
      | some h4 => .nx σ h4
      | none => .stuck) else .stuck) := by
  refine ps_imp (ps_dput hu ho hi hv hs) fun D σ H ⟨ρ, σf, h, rs, rh, p⟩ => ?_
  refine coreS rs rh p fun ρ1 H1 h1 fv v' e1 rs1 rh1 r1 p1 => ?_
  refine coreS rs1 rh1 p1 fun ρ2 H2 h2 fo o' e2 rs2 rh2 r2 p2 => ?_
  refine coreS rs2 rh2 p2 fun ρ3 H3 h3 fi i' e3 rs3 rh3 r3 p3 => ?_
  split at p3
  · rename_i hl
    unfold isDic at hl
    split at hl
    · rename_i n
      split at hl
      · rename_i kvs q
        cases r2 with
        | ref qn =>
          have qn' := e3.get qn
          obtain ⟨vs, q1, q2⟩ := rh3.ref q qn'
          simp only [setIxF, q] at p3
          split at p3
          · rename_i h4 qq
            split at qq
            · rename_i k qk
              split at qq
              · rename_i hz
                cases qq
                have ek := fkey_of r3 qk
                subst ek
                have ry := (r1.ev e2).ev e3
                have ev' : Ev X.K ρ3 H3 ρ3 (upd H3 _ (.dK (putK vs k v'))) := .wr q1 trivial
                refine ⟨_, upd H3 _ (.dK (putK vs k v')), rfl, DPut.k q1 (by rw [q2.len]; exact hz), p3 ρ3 _ σ ev' (rs3.ev ev') (rh3.write q (fun _ _ _ z => z) qn' ev' ⟨_, upd_same, (q2.put ry).ev ev'⟩)⟩
              · cases qq
            · cases qq
          · exact p3.elim
      · cases hl
    · cases hl
  · exact p3.elim
def cDic0 : EvE := fun _ h => .ok (.ref h.length) (h ++ [.dic []])
theorem fe_dic0 : FE X W (.Dict [] [] pos) cDic0 := by
  refine pe_imp pe_dnewK fun σ H Q ⟨ρ, σf, h, rs, rh, p⟩ => ?_
  intro q hq
  have e : Ev X.K ρ H (ρ ++ [q]) (upd H q (.dK [])) := .push hq
  exact p _ _ _ e (rh.push hq e ⟨[], upd_same, .nil⟩) (.ref (by rw [← rh.len]; simp))

/-! ### a, b = .. of local names on one line -/
theorem fs_par {i j : Nat} {y z : Str} {px py pt pt2 : Pos} {kt k2 : Nat} (hc : X.calm = true) (hN : X.N.Nodup) (ha : FA X W [a, b] er) (hi : X.N[i]? = some y := by rfl) (hj : X.N[j]? = some z := by rfl) (hij : i ≠ j := by decide) (hx : X.env.scope.names.lookup y = some .local := by rfl) (hy : X.env.scope.names.lookup z = some .local := by rfl)
    (hw : swappedStores [.Tuple [.Name y px, .Name z py] kt pt] (.Tuple [a, b] k2 pt2) X.env = pure (some [y, z]) := by rfl) (hs : swapsWithSole [.Tuple [.Name y px, .Name z py] kt pt] (.Tuple [a, b] k2 pt2) pos.line X.env = pure false := by rfl) :
    FS X W (.Assign [.Tuple [.Name y px, .Name z py] kt pt] (.Tuple [a, b] k2 pt2) pos) (sPar i j er) := by
  refine ps_imp (ps_par hc hN hi hj hij hx hy ha hw hs) fun D σ H ⟨ρ, σf, h, rs, rh, p⟩ => ?_
  refine coreS (R1 := RVs X.K) rs rh p fun ρ1 H1 h1 xs vs e1 rs1 rh1 r1 p1 => ?_
  split at p1
  · rename_i v w
    obtain ⟨v', w', rfl, r2, r3⟩ := two_of r1
    exact ⟨v', w', rfl, p1 ρ1 H1 _ .refl ((rs1.set i r2).set j r3) rh1⟩
  · exact p1.elim
def sPar3 (i j k : Nat) (er : EvA) : EvS := fun σ h => (er σ h).toS σ fun xs h1 => match xs with
  | [v, w, u] => .nx (((σ.set i (some v)).set j (some w)).set k (some u)) h1
  | _ => .stuck
theorem fs_par3 {i j k : Nat} {c : Expr} {y z w : Str} {px py pz pt pt2 : Pos} {kt k2 : Nat} (hc : X.calm = true) (hN : X.N.Nodup) (ha : FA X W [a, b, c] er) (hi : X.N[i]? = some y := by rfl) (hj : X.N[j]? = some z := by rfl) (hk : X.N[k]? = some w := by rfl)
    (hij : i ≠ j ∧ i ≠ k ∧ j ≠ k := by decide) (hx : X.env.scope.names.lookup y = some .local := by rfl) (hy : X.env.scope.names.lookup z = some .local := by rfl) (hz : X.env.scope.names.lookup w = some .local := by rfl)
    (hw : swappedStores [.Tuple [.Name y px, .Name z py, .Name w pz] kt pt] (.Tuple [a, b, c] k2 pt2) X.env = pure (some [y, z, w]) := by rfl) (hs : swapsWithSole [.Tuple [.Name y px, .Name z py, .Name w pz] kt pt] (.Tuple [a, b, c] k2 pt2) pos.line X.env = pure false := by rfl) :
    FS X W (.Assign [.Tuple [.Name y px, .Name z py, .Name w pz] kt pt] (.Tuple [a, b, c] k2 pt2) pos) (sPar3 i j k er) := by
  refine ⟨fun pins s σ H D I ⟨ρ, σf, h, rs, rh, p⟩ => ?_⟩
  rw [exec_Assign_arm, hs]
  refine wpAny_bind (wpAny_standAt (wpAny_bind (wpAny_pure ?_)))
  rw [if_neg (by decide), hw]
  have hA : tG (RVs X.K) X.K W er σ H (fun vs H1 => ∃ a1 a2 a3, vs = [a1, a2, a3] ∧ D.nx (((σ.set i (some a1)).set j (some a2)).set k (some a3)) H1) := by
    refine coreS (R1 := RVs X.K) rs rh p fun ρ1 H1 h1 xs vs e1 rs1 rh1 r1 p1 => ?_
    split at p1
    · rename_i f1 f2 f3
      cases r1 with
      | cons r2 r1 =>
        obtain ⟨v', w', rfl, r3, r4⟩ := two_of r1
        exact ⟨_, v', w', rfl, p1 ρ1 H1 _ .refl (((rs1.set i r2).set j r3).set k r4) rh1⟩
    · exact p1.elim
  refine wpAny_bind (Tuple_ (thn (ha.run _ pins s σ H _ I hA) fun us s1 ⟨vs, H1, I1, r1, a1, a2, a3, ev, q1⟩ => ?_))
  subst ev
  obtain ⟨u1, u2, u3, rfl, w1, w2, w3⟩ : ∃ u1 u2 u3, us = [u1, u2, u3] ∧ RelV a1 u1 ∧ RelV a2 u2 ∧ RelV a3 u3 := by
    cases r1 with
    | cons b1 r1 =>
      cases r1 with
      | cons b2 r1 =>
        cases r1 with
        | cons b3 r1 => cases r1; exact ⟨_, _, _, rfl, b1, b2, b3⟩
  have h3 : ([u1, u2, u3].toArray).size ≤ sizeLine := by show 3 ≤ sizeLine; decide
  refine wpAny_newObj_type ?_ h3
  refine wpAny_bind (wpAny_pure ?_)
  have J1 : Inv X pins σ H1 { s1 with heap := s1.heap.push { cls := .type "tuple", data := .seq [u1, u2, u3].toArray } } := I1.kept (t' := s1.toks) fun _ _ e => Heap.get?_push_of_some _ e
  show wpAny (model X.prog X.w) X.A (rule "assign.swapped-stores" >>= fun _ => unpackItems (.ref s1.heap.objs.size) 3 none >>= fun items => assignInOrder [fun v => bindName X.env w v, fun v => bindName X.env z v, fun v => bindName X.env y v] items.reverse >>= fun _ => pure Flow.next) _ _ _
  refine wpAny_bind (wpAny_rule (wpAny_bind (unpackItems_tuple (items := #[u1, u2, u3]) (I.ok.hd hc) (IsTup.new s1.heap _) fun g kg => ?_)))
  have J2 := J1.kept (h' := g) (t' := s1.toks) fun q o e => kg q o (Nat.ne_of_lt (Heap.lt_size e)) e
  show wpAny _ _ (assignInOrder [fun v => bindName X.env w v, fun v => bindName X.env z v, fun v => bindName X.env y v] [u3, u2, u1] >>= fun _ => pure Flow.next) _ _ _
  refine wpAny_bind (assignInOrder_cons (wpAny_bindName (store_ok J2 hN hk (.inl hz) w3 (fun s2 J3 => ?_) (.inr hz))))
  refine assignInOrder_cons (wpAny_bindName (store_ok J3 hN hj (.inl hy) w2 (fun s3 J4 => ?_) (.inr hy)))
  refine assignInOrder_cons (wpAny_bindName (store_ok J4 hN hi (.inl hx) w1 (fun s4 J5 => assignInOrder_nil (wpAny_pure ?_)) (.inr hx)))
  rw [List.set_comm _ _ (Ne.symm hij.1), List.set_comm _ _ (Ne.symm hij.2.1), List.set_comm _ _ (Ne.symm hij.2.2)] at J5
  first
    | exact ⟨_, H1, J5, q1⟩
    | (have e5 : (((σ.set i (some a1)).set j (some a2)).set k (some a3)) = (((σ.set k (some a3)).set j (some a2)).set i (some a1)) := by
         rw [List.set_comm _ _ hij.1, List.set_comm _ _ hij.2.1, List.set_comm _ _ hij.2.2] <;> simp [List.set_comm _ _ hij.1]
       rw [← e5] at J5
       exact ⟨_, H1, J5, q1⟩)
end
end FX
set_option maxRecDepth 100000
set_option maxHeartbeats 4000000
namespace FX
open PySem PySem.Spec PyProof.Rows L2
variable [LamT]

/-! ### what a def does, as a function -/
abbrev Fn := List FV → FH → Res FV
/-- what is wanted of an exception, whatever the slots -/
abbrev WE' (E : XK) (ρ : List Addr) (H : Hp) : Wsh := ⟨fun c d _ H => E c d H, ρ, H⟩
structure FnF (P : Program) (w : World) (K : PySem.W.Frag) (mg : Str → Option Value) (base : Heap) (k : Nat) (f : Addr) (fd : FuncData) (ps : List Str) (g : Fn) : Prop where
  run : ∀ (A : Around) (outer : List Env) (s : Shared) (H : Hp) (args : Args) (us : List Value) (vs : List V) (fs : List FV) (ρ : List Addr) (h : FH) (Q : VK) (E : XK), Room k A → A.guards = some [] → Env0 P w K mg base A outer s H → BindsTo s fd args (ps.zip us) → Vals vs us →
    RVs K ρ H fs vs → RH K ρ h H → LamX.Tabs (LamT.T K) H → fs.length = ps.length → Post K (WE' E ρ H) (RV K) ρ H [] (g fs h) Q → codeAny (model P w) A (.call (.ref f) args) (CR (L2.CX P w) outer P w H s Q E) s
theorem FnF.mono {P : Program} {w : World} {K : PySem.W.Frag} {mg : Str → Option Value} {base : Heap} {j k : Nat} {f : Addr} {fd : FuncData} {ps : List Str} {g : Fn} (F : FnF P w K mg base j f fd ps g) (h : j ≤ k) : FnF P w K mg base k f fd ps g :=
  ⟨fun A outer s H args us vs fs ρ hh Q E hr => F.run A outer s H args us vs fs ρ hh Q E (hr.mono h)⟩
def cDef (n : Nat) (ev : EvS) : Fn := fun xs h => match ev (xs.map some ++ List.replicate (n - xs.length) none) h with
  | .nx _ h' => .ok .non h'
  | .rt v h' => .ok v h'
  | .ex c fs _ h' => .exc c fs h'
  | _ => .stuck
theorem rs_start {K : PySem.W.Frag} {w : WX} {ρ : List Addr} {H : Hp} {fs : List FV} {vs : List V} {N : List Str} (r : RVs K ρ H fs vs) (tb : LamX.Tabs (LamT.T K) H) : RS K ⟨w, ρ, H⟩ ρ H (fs.map some ++ List.replicate (N.length - fs.length) none) (L2.start N vs) := by
  unfold L2.start
  refine ⟨by simp [r.len], fun i x e => ?_, tb, .refl⟩
  by_cases hi : i < fs.length
  · rw [List.getElem?_append_left (by simpa using hi), List.getElem?_map] at e
    cases q : fs[i]? with
    | none => rw [q] at e; cases e
    | some y =>
      rw [q] at e
      cases e
      obtain ⟨v, e1, r1⟩ := r.get q
      exact ⟨v, by rw [List.getElem?_append_left (by rw [List.length_map, ← r.len]; exact hi), List.getElem?_map, e1]; rfl, r1⟩
  · rw [List.getElem?_append_right (by simpa using hi), List.getElem?_replicate] at e
    split at e <;> cases e
section
variable {P : Program} {w : World} {K : PySem.W.Frag} {mg : Str → Option Value} {base : Heap} {k : Nat} {f : Addr} {fd : FuncData} {ps N : List Str} {g : Fn} {x qual : Str} {params : Arguments} {body : List Stmt} {scope : Scope} {dvs : List V} {kws : List (Str × V)}
/-- the context of a def's body -/
abbrev cxD (P : Program) (w : World) (K : PySem.W.Frag) (mg : Str → Option Value) (base : Heap) (N : List Str) (qual : Str) (scope : Scope) (f : Addr) (cd : Value) (A : Around) (outer : List Env) (s : Shared) (H : Hp) (E : XK) : Cx := cxOf (L2.CX P w) P w K mg base N qual scope f cd A outer s H E
theorem fnF_of {ev : EvS} (F : FunD K x qual params body scope dvs kws f fd) (S : FnScope N ps scope)
    (hbody : ∀ (cdv : Value) (A : Around) (outer : List Env) (s : Shared) (H : Hp) (E : XK) (ρ : List Addr), Room k (A.deeper (envOfC qual scope s.heap.objs.size f cdv)) → A.guards = some [] → fd.code = cdv → FSs (cxD P w K mg base N qual scope f cdv A outer s H E) (WE' E ρ H) body ev) :
    FnF P w K mg base (k + 1) f fd ps (cDef N.length ev) := by
  obtain ⟨oc, od, dV, kV, doc, pm, an, cdv, ct, osl, rfl, lk, hcd, _, _⟩ := F.ex
  refine ⟨fun A outer s H args us vs fs ρ h Q E hr hgd e0 hb r rf rh tb hl p => ?_⟩
  refine LamX.run_ofS lk hcd S hr e0 hb r (by rw [← rf.len]; exact hl) fun hr' => ?_
  refine ⟨_, hbody cdv A outer s H E ρ hr' hgd rfl, ρ, _, h, rs_start rf tb, rh, ?_⟩
  unfold cDef at p
  cases q : ev (fs.map some ++ List.replicate (N.length - fs.length) none) h with
  | nx σ1 h1 =>
    rw [q] at p
    exact fun ρ' H' σ' e' rs' rh' => p ρ' H' .non e' rh' .non
  | rt v h1 =>
    rw [q] at p
    exact fun ρ' H' u e' rh' r' => p ρ' H' u e' rh' r'
  | ex c fs' σ1 h1 =>
    rw [q] at p
    exact fun ρ' H' σ' d vs e' rs' rh' q1 q2 => p ρ' H' d vs e' rh' q1 q2
  | bk σ1 h1 => rw [q] at p; exact p.elim
  | ct σ1 h1 => rw [q] at p; exact p.elim
  | stuck => rw [q] at p; exact p.elim
end

/-! ### calls -/
/-- the arguments, then the defaults -/
def cCall (n : Nat) (g : Fn) (er : EvA) : EvE := fun σ h => (er σ h).bind fun xs h1 => if xs.length = n then g xs h1 else .stuck
def cCallP (n : Nat) (g : Fn) (pm : List FV → List FV) (er : EvA) : EvE := fun σ h => (er σ h).bind fun xs h1 => if (pm xs).length = n then g (pm xs) h1 else .stuck
section
variable {X : Cx} {W : Wsh} {a b e : Expr} {es : List Expr} {ea eb : EvE} {er : EvA} {pos p p2 : Pos} {x : Str} {k : Nat} {f : Addr} {fd : FuncData} {ps : List Str} {g : Fn}
/-- the callee runs -/
theorem run_fnF {pins : List (Addr × Obj)} {σ : L2.St} {H : Hp} {s : Shared} {Q : VK} {us : List Value} {vs : List V} {args : Args} {fs : List FV} {ρ : List Addr} {h : FH} (F : FnF X.prog X.w X.K X.mg X.base k f fd ps g) (hr : Room k X.A) (hgd : X.A.guards = some []) (tk : Takes X W.w) (I : Inv X pins σ H s) (hb : BindsTo s fd args (ps.zip us))
    (r : Vals vs us) (rf : RVs X.K ρ H fs vs) (rh : RH X.K ρ h H) (tb : LamX.Tabs (LamT.T X.K) H) (hl : fs.length = ps.length) (p : Post X.K W (RV X.K) ρ H σ (g fs h) Q) : codeAny (model X.prog X.w) X.A (.call (.ref f) args) (fun r s' => match r with
      | .ok (.ret u) => EP X pins σ Q u s'
      | .ok _ => False
      | .error e => X.xe e s') s := by
  refine codeAny_mono (F.run X.A X.stack s H args us vs fs ρ h Q (fun c d H' => W.w c d σ H') hr hgd I.env0 hb r rf rh tb hl (by
    cases q : g fs h with
    | ok y h' => rw [q] at p; exact p
    | exc c fs' h' => rw [q] at p; exact p
    | stuck => rw [q] at p; exact p)) fun res s' hq => ?_
  cases res with
  | error ex => exact tk _ _ (XE.of_call I (fun _ _ _ z => z) hq)
  | ok fl =>
    cases fl with
    | ret u => exact I.after hq
    | next => exact hq
    | brk => exact hq
    | cont => exact hq
theorem fe_call (F : FnF X.prog X.w X.K X.mg X.base k f fd ps g) (hr : Room k X.A) (hgd : X.A.guards = some []) (tk : Takes X W.w) (hm : X.mg x = some (.ref f)) (hk : PySem.W.keepIn X.K (.ref f) = true) (hb : Binds X.K fd ps []) (ha : FA X W (e :: es) er) (hg : Gl X x := by rfl) (hdb : (x == ("__debug__" : Str)) = false := by decide)
    (he : starEach (e :: es) X.env = (false, eval e X.env) :: starEach es X.env := by rfl) (hpl : (backTo pos (starEach es X.env)).any (·.1) = false := by rfl) : FE X W (.Call (.Name x p) (e :: es) [] pos) (cCall ps.length g er) := by
  refine ⟨fun pins s σ H Q I ⟨ρ, σf, h, rs, rh, pp⟩ => ?_⟩
  refine wpAny_Call_Name_kw (ld_glob I hg hm (PySem.W.callWith_K (h₀ := X.base) I.ok.mod.kin hk ?_ he hpl) hdb)
  have hA : tG (RVs X.K) X.K W er σ H (fun vs H1 => ∃ ρ1 xs h1, RVs X.K ρ1 H1 xs vs ∧ RH X.K ρ1 h1 H1 ∧ LamX.Tabs (LamT.T X.K) H1 ∧ xs.length = ps.length ∧ Post X.K W (RV X.K) ρ1 H1 σ (g xs h1) Q) := by
    refine core (R1 := RVs X.K) rs rh pp fun ρ1 H1 h1 xs vs e1 rs1 rh1 r1 p1 => ?_
    by_cases z : xs.length = ps.length
    · rw [if_pos z] at p1
      exact ⟨ρ1, xs, h1, r1, rh1, rs1.tabs, z, p1⟩
    · rw [if_neg z] at p1
      exact p1.elim
  refine thn (ha.run pos pins s σ H _ I hA) fun us s1 ⟨vs, H1, I1, r, ρ1, xs, h1, r1, rh1, tb1, hl, p1⟩ => ⟨I1.kIn, ?_⟩
  have hb1 := hb s1 us I1.kIn (by rw [List.append_nil, ← r.length, ← r1.len]; exact hl)
  rw [List.append_nil] at hb1
  refine wpAny_call (codeAny_mono (run_fnF F hr hgd tk I1 hb1 r r1 rh1 tb1 hl p1) fun res s' hq => ?_)
  rcases res with ex | (u | _ | _ | _) <;> exact hq
theorem fe_call0 (F : FnF X.prog X.w X.K X.mg X.base k f fd [] g) (hr : Room k X.A) (hgd : X.A.guards = some []) (tk : Takes X W.w) (hm : X.mg x = some (.ref f)) (hk : PySem.W.keepIn X.K (.ref f) = true) (hb : Binds X.K fd [] []) (hg : Gl X x := by rfl) (hdb : (x == ("__debug__" : Str)) = false := by decide) : FE X W (.Call (.Name x p) [] [] pos) (cCall 0 g cNil) := by
  refine ⟨fun pins s σ H Q I ⟨ρ, σf, h, rs, rh, pp⟩ => ?_⟩
  refine wpAny_Call_Name_kw (ld_glob I hg hm (PySem.W.callWith_K0 I.kIn hk ?_) hdb)
  have hb1 := hb s [] I.kIn rfl
  refine wpAny_call (codeAny_mono (run_fnF (fs := []) F hr hgd tk I hb1 .nil .nil rh rs.tabs rfl pp) fun res s' hq => ?_)
  rcases res with ex | (u | _ | _ | _) <;> exact hq

/-! ### match over texts -/
abbrev EvM := FV → EvS
def tM (K : PySem.W.Frag) (W : Wsh) (ev : EvM) (v : V) : TS := fun D σ H => ∃ (ρ : List Addr) (σf : FSt) (h : FH) (x : FV), RS K W ρ H σf σ ∧ RH K ρ h H ∧ RV K ρ H x v ∧ PostS K W ρ H D (ev x σf h)
structure FM (X : Cx) (W : Wsh) (cs : List MatchCase) (ev : EvM) : Prop where
  run : ∀ (first : Bool) (pins : List (Addr × Obj)) (s : Shared) (σ : L2.St) (H : Hp) (D : Ends) (v : V) (u : Value), Inv X pins σ H s → RelV v u → tM X.K W ev v D σ H → wpAny (model X.prog X.w) X.A (matchCases cs X.env u first) (SP X pins D) X.xe s
def mNil : EvM := fun _ σ h => .nx σ h
def mWild (b : EvS) : EvM := fun _ σ h => b σ h
def mVal (ee : EvE) (b : EvS) (r : EvM) : EvM := fun v σ h => (ee σ h).toS σ fun x h1 => match eqF v x h1 with
  | some (.bl true, h2) => b σ h2
  | some (.bl false, h2) => r v σ h2
  | _ => .stuck
theorem fm_nil : FM X W [] mNil := ⟨fun first pins s σ H D v u I r ⟨ρ, σf, h, y, rs, rh, rv, p⟩ => wpAny_matchCases_nil ⟨σ, H, I, p ρ H σ .refl rs rh⟩⟩
theorem fm_wild {body : List Stmt} {ev : EvS} {cs : List MatchCase} {mp : Pos} (hb : FSs X W body ev) : FM X W (⟨.MatchAs none none mp, none, body⟩ :: cs) (mWild ev) := by
  refine ⟨fun first pins s σ H D v u I r ⟨ρ, σf, h, y, rs, rh, rv, p⟩ => wpAny_matchCases_cons (wpAny_matchPattern_Capture ?_)⟩
  exact assignInOrder_nil (hb.run pins s σ H D I ⟨ρ, σf, h, rs, rh, p⟩)
theorem fm_val {body : List Stmt} {ev : EvS} {cs : List MatchCase} {er : EvM} {mp : Pos} (hu : X.A.units + 64 < cLine) (ha : FE X W a ea) (hb : FSs X W body ev) (hr : FM X W cs er) : FM X W (⟨.MatchValue a mp, none, body⟩ :: cs) (mVal ea ev er) := by
  refine ⟨fun first pins s σ H D v u I r ⟨ρ, σf, h, y, rs, rh, rv, p⟩ => wpAny_matchCases_cons (wpAny_matchPattern_Value ?_)⟩
  have hA : tG (RV X.K) X.K W ea σ H (fun z H1 => ∃ (fz : FV) (k : Bool) (h2 : FH) (ρ1 : List Addr) (h1 : FH), RS X.K W ρ1 H1 σf σ ∧ RH X.K ρ1 h1 H1 ∧ RV X.K ρ1 H1 y v ∧ RV X.K ρ1 H1 fz z ∧ eqF y fz h1 = some (.bl k, h2) ∧ PostS X.K W ρ1 H1 D (if k = true then ev σf h2 else er y σf h2)) := by
    refine coreS rs rh p fun ρ1 H1 h1 fz z e1 rs1 rh1 r1 p1 => ?_
    split at p1
    · rename_i h2 q
      exact ⟨fz, true, h2, ρ1, h1, rs1, rh1, rv.ev e1, r1, q, by rw [if_pos rfl]; exact p1⟩
    · rename_i h2 q
      exact ⟨fz, false, h2, ρ1, h1, rs1, rh1, rv.ev e1, r1, q, by rw [if_neg Bool.false_ne_true]; exact p1⟩
    · exact p1.elim
  refine thn (ha.run pins s σ H _ I hA) fun uz s1 ⟨z, H1, I1, rz, fz, k', h2, ρ1, h1, rs1, rh1, ry, r1, q, p1⟩ => ?_
  refine thn (of_eq hu pins s1 σ H1 v z u uz (fun c H2 => c = .bl k' ∧ ∃ ρ2, Ev X.K ρ1 H1 ρ2 H2 ∧ RH X.K ρ2 h2 H2) I1 r rz ⟨ρ1, y, fz, h1, .bl k', h2, ry, r1, rh1, q, fun ρ' H' c e' rh' rc => by
    cases rc
    exact ⟨rfl, ρ', e', rh'⟩⟩) fun uc s2 ⟨c, H2, I2, rc, ec, ρ2, e2, rh2⟩ => ?_
  subst ec
  cases rc
  refine wpAny_truthy_bool ?_
  have p2 := p1.at_ e2
  cases k' with
  | true =>
    rw [if_pos rfl] at p2 ⊢
    exact assignInOrder_nil (hb.run pins s2 σ H2 D I2 ⟨ρ2, σf, h2, rs1.ev e2, rh2, p2⟩)
  | false =>
    rw [if_neg Bool.false_ne_true] at p2 ⊢
    exact hr.run false pins s2 σ H2 D v u I2 r ⟨ρ2, σf, h2, y, rs1.ev e2, rh2, ry.ev e2, p2⟩
def sMatch (ea : EvE) (m : EvM) : EvS := fun σ h => (ea σ h).toS σ fun v h1 => m v σ h1
theorem fs_match {cs : List MatchCase} {m : EvM} (ha : FE X W a ea) (hm : FM X W cs m) : FS X W (.Match a cs pos) (sMatch ea m) := by
  refine ⟨fun pins s σ H D I ⟨ρ, σf, h, rs, rh, p⟩ => wpAny_Match ?_⟩
  have hA : tG (RV X.K) X.K W ea σ H (fun v H1 => tM X.K W m v D σ H1) := coreS rs rh p fun ρ1 H1 h1 y v e1 rs1 rh1 r1 p1 => ⟨ρ1, σf, h1, y, rs1, rh1, r1, p1⟩
  exact thn (ha.run pins s σ H _ I hA) fun u s1 ⟨v, H1, I1, r1, q⟩ => hm.run true pins s1 σ H1 D v u I1 r1 q
end
end FX
set_option maxRecDepth 100000
set_option maxHeartbeats 4000000
namespace FX
open PySem PySem.Spec PyProof.Rows L2
variable [LamT]

/-! ### a lambda without parameters, handed to a def -/
abbrev Cl := FH → Res FV
/-- the function object at f, made at s0, H0 under the frames stk, does d whenever it is called later on -/
structure CloOk (P : Program) (w : World) (K : PySem.W.Frag) (mg : Str → Option Value) (base : Heap) (lv : Nat) (f : Addr) (stk : List Env) (s0 : Shared) (H0 : Hp) (ρ0 : List Addr) (d : Cl) : Prop where
  at_ : ∀ (s : Shared) (H : Hp), Un (frs stk) [] H0 H s0.heap s.heap → PySem.W.FnAt f s.heap
  run : ∀ (A : Around) (outer : List Env) (s : Shared) (H : Hp) (ρ : List Addr) (h : FH) (Q : VK) (E : XK), Room lv A → A.guards = some [] → Env0 P w K mg base A outer s H → Un (frs stk) [] H0 H s0.heap s.heap → Ev K ρ0 H0 ρ H → RH K ρ h H → LamX.Tabs (LamT.T K) H →
    Post K (WE' E ρ H) (RV K) ρ H [] (d h) Q → codeAny (model P w) A (.call (.ref f) ⟨[], []⟩) (CR (L2.CX P w) outer P w H s Q E) s
theorem CloOk.mono {P : Program} {w : World} {K : PySem.W.Frag} {mg : Str → Option Value} {base : Heap} {lv lv' : Nat} {f : Addr} {stk : List Env} {s0 : Shared} {H0 : Hp} {ρ0 : List Addr} {d : Cl} (c : CloOk P w K mg base lv f stk s0 H0 ρ0 d) (h : lv ≤ lv') : CloOk P w K mg base lv' f stk s0 H0 ρ0 d :=
  ⟨c.at_, fun A outer s H ρ hh Q E hr => c.run A outer s H ρ hh Q E (hr.mono h)⟩
/-- kept, where one more frame runs that was not there yet -/
theorem un_more {fs gs : List Addr} {H H1 H2 : Hp} {h h1 h2 : Heap} (a : Un fs [] H H1 h h1) (b : Un gs [] H1 H2 h1 h2) (hg : ∀ c ∈ gs, c ∈ fs ∨ h.get? c = none) : Un fs [] H H2 h h2 where
  keep := fun c ob q n hc hx => b.keep c ob (a.keep c ob q n hc hx) (a.free c ob q n hx) (fun z => (hg c z).elim hc fun y => by rw [q] at y; cases y) hx
  slot := fun c ob q n hc hx => by
    obtain ⟨sl, e1⟩ := a.slot c ob q n hc hx
    obtain ⟨sl', e2⟩ := b.any e1 (a.free c ob q n hx) hx
    exact ⟨sl', e2⟩
  free := fun c ob q n hx => by
    obtain ⟨o', e1⟩ := a.there c ob q hx
    exact b.free c o' e1 (a.free c ob q n hx) hx
  there := fun c ob q hx => by
    obtain ⟨o', e1⟩ := a.there c ob q hx
    exact b.there c o' e1 hx
  tups := fun c xs q => b.tups c xs (a.tups c xs q)
  frzs := fun c ob xs q => b.frzs c ob xs (a.frzs c ob xs q)
  tbls := fun c ps q => by
    obtain ⟨m1, e1⟩ := a.tbls c ps q
    obtain ⟨m2, e2⟩ := b.tbls c _ e1
    exact ⟨m1 ++ m2, by rw [e2, Array.append_assoc]⟩
/-- seen from within a def that got it -/
theorem CloOk.within {X : Cx} {lv : Nat} {f : Addr} {ρ0 ρ : List Addr} {d : Cl} {pins : List (Addr × Obj)} {σ : L2.St} {H : Hp} {s : Shared} (c : CloOk X.prog X.w X.K X.mg X.base lv f X.outer X.s_0 X.H_0 ρ0 d) (hex : X.ex = []) (I : Inv X pins σ H s) (e : Ev X.K ρ0 X.H_0 ρ H) : CloOk X.prog X.w X.K X.mg X.base lv f X.stack s H ρ d := by
  have b : Un (frs X.outer) [] X.H_0 H X.s_0.heap s.heap := by have := I.base; rw [hex] at this; exact this
  have fr : ∀ a ∈ frs X.stack, a ∈ frs X.outer ∨ X.s_0.heap.get? a = none := fun a ha => by
    rcases List.mem_cons.mp (I.stkSub a ha) with z | z
    · rw [z]
      exact .inr (Heap.get?_none_of_le I.ok.above)
    · exact .inl z
  exact ⟨fun s' H' u => c.at_ s' H' (un_more b u fr), fun A outer s' H' ρ' h' Q E hr hg e0 u ev rh tb p => c.run A outer s' H' ρ' h' Q E hr hg e0 (un_more b u fr) (e.trans ev) rh tb p⟩
section
variable {X : Cx} {W : Wsh} {a b e : Expr} {es : List Expr} {ea eb : EvE} {er : EvA} {pos p p2 : Pos} {x : Str} {k lv : Nat} {f : Addr} {fd : FuncData} {ps : List Str}
theorem Post.wish {α β : Type} {K : PySem.W.Frag} {W W' : Wsh} {R : Rel α β} {ρ : List Addr} {H : Hp} {σ σ' : L2.St} {r : Res α} {Q : β → Hp → Prop} (p : Post K W R ρ H σ r Q) (m : ∀ c d H', W.w c d σ H' → W'.w c d σ' H') : Post K W' R ρ H σ' r Q := by
  cases r with
  | ok x h' => exact p
  | exc c fs h' => exact fun ρ' H' d vs a b c' q => m _ _ _ (p ρ' H' d vs a b c' q)
  | stuck => exact p
/-- the making of it -/
theorem clo_of {ev : EvE} {params : Arguments} {body : Expr} {scope : Scope} {pm ctv : Value} {c' : Addr} {pins : List (Addr × Obj)} {σ : L2.St} {σf : FSt} {ρ : List Addr} {H : Hp} {s : Shared} (I : Inv X pins σ H s) (L : LamX.LamS X.env.scope scope)
    (hf : s.heap.get? f = some (PySem.W.kla_obj "<lambda>" (X.env.qual ++ "<lambda>") params body scope (cloFrom X.env.cells scope.names []) pm c' ctv)) (hfn : H f = none) (hfr : f ∉ frs X.stack) (hc : H c' = some (LamX.CodeO c' (X.env.qual ++ "<lambda>")))
    (hbind : bindArgs (PySem.W.kla_fn "<lambda>" (X.env.qual ++ "<lambda>") params body scope (cloFrom X.env.cells scope.names []) pm (.ref c') ctv) ⟨[], []⟩ = pure []) (rs : RS X.K W ρ H σf σ)
    (hbody : ∀ (A : Around) (outer : List Env) (s : Shared) (H : Hp) (E : XK) (ρ : List Addr), Room lv (LamX.lamCx X A outer s H E scope f c').A → A.guards = some [] → FE (LamX.lamCx X A outer s H E scope f c') (WE' E ρ H) body ev) :
    CloOk X.prog X.w X.K X.mg X.base (lv + 1) f X.stack s H ρ (fun h => ev σf h) := by
  have ob : ∀ (s' : Shared) (H' : Hp), Un (frs X.stack) [] H H' s.heap s'.heap → s'.heap.get? f = some (PySem.W.kla_obj "<lambda>" (X.env.qual ++ "<lambda>") params body scope (cloFrom X.env.cells scope.names []) pm c' ctv) := fun s' H' u => u.keep f _ hf hfn hfr (fun z => nomatch z)
  refine ⟨fun s' H' u => ⟨_, _, _, _, ob s' H' u⟩, fun A outer s1 H1 ρ1 h1 Q E hr hg e0 un e1 rh tb p => ?_⟩
  have of1 := ob s1 H1 un
  obtain ⟨⟨oc, vs, t, hoc, hdc, hvc⟩, _, _⟩ := e0.hok c' _ (e1.codes _ _ hc)
  have KX : X.K.In s1.heap := e0.mod.kin.keeps fun b o e => (e0.bs b o e).1
  have lim : s1.heap.NoLimit := e0.mod.nolimit.keeps fun b o e => (e0.bs b o e).1
  refine PySem.W.kla_callFunE hr.depth of1 rfl L.co L.gen rfl ⟨c', oc, vs, t, rfl, hoc, hdc, hvc⟩ ?_
  rw [hbind]
  refine wpAny_pure (wpAny_newFunctionEnv (fun y hy => (L.own y hy).2) (fun y hy => absurd hy (by simp)) (fun h₁ hns hsb => ⟨lim.fresh _ hsb, ?_⟩) L.kind)
  show codeAny _ _ (.expr body (LamX.lamEnv X scope s1.heap.objs.size f c')) _ _
  have kp : ∀ b o, s1.heap.get? b = some o → h₁.get? b = some o := fun b o e => hsb.extBut b o (Nat.ne_of_lt (Heap.lt_size e)) (Heap.get?_push_of_some _ e)
  have J := LamX.lam_start2 (E := E) (f := f) (c' := c') (tk := s1.toks + ([] : List (Str × Value)).length) I L e0 hr.hd un hns kp
  have rs1 : RS X.K (WE' E ρ1 H1) ρ1 H1 σf σ := ⟨rs.len, fun i y q => let ⟨v, q1, r1⟩ := rs.at_ i y q; ⟨v, q1, r1.ev e1⟩, tb, .refl⟩
  have hA : tG (RV X.K) X.K (WE' E ρ1 H1) ev σ H1 Q := ⟨ρ1, σf, h1, rs1, rh, p.wish fun _ _ _ z => z⟩
  refine PySem.W.kla_codeExpr (wpAny_mono ((hbody A outer s1 H1 E ρ1 (hr.deeper _) hg).run [] _ σ H1 Q J hA) (fun v s' hq => ?_) fun e s' hq => hq)
  obtain ⟨w', H', J', rv, q⟩ := hq
  exact ⟨w', H', J'.os, J'.bare, J'.base, J'.hok, rv, q⟩
/-- a() in the def that got it -/
def cClo (i n : Nat) (d : Cl) : EvE := fun σ h => match σ[i]? with
  | some (some (.ref m)) => if m = n then d h else .stuck
  | _ => .stuck
theorem fe_clo {d : Cl} (i : Nat) {n : Nat} (hcl : CloOk X.prog X.w X.K X.mg X.base lv f X.outer X.s_0 X.H_0 W.ρ0 d) (hH : W.H0 = X.H_0) (hex : X.ex = []) (hn : W.ρ0[n]? = some f) (hr : Room lv X.A) (hgd : X.A.guards = some []) (tk : Takes X W.w)
    (hN : X.N[i]? = some x := by rfl) (hv : Vis X.env.scope x := by first | exact Or.inl rfl | exact Or.inr (Or.inl rfl) | exact Or.inr (Or.inr rfl)) (hd : (x == ("__debug__" : Str)) = false := by decide) (hcd : (x == ("__classdict__" : Str)) = false := by decide) : FE X W (.Call (.Name x p) [] [] pos) (cClo i n d) := by
  refine ⟨fun pins s σ H Q I ⟨ρ, σf, h, rs, rh, pp⟩ => ?_⟩
  unfold cClo at pp
  split at pp
  · rename_i m q
    split at pp
    · rename_i em
      subst em
      obtain ⟨v, q1, r1⟩ := rs.at_ i _ q
      cases r1 with
      | ref qn =>
        rename_i fa
        have ef : fa = f := by
          have := rs.base.get hn
          rw [qn] at this
          exact Option.some.inj this
        subst ef
        refine wpAny_Call_Name_kw (thn ((pe_var (pos := p) hN hv hd hcd).run pins s σ H (fun v H1 => v = .ref fa ∧ H1 = H) I ⟨.ref fa, q1, rfl, rfl⟩) fun u s1 ⟨v, H1, I1, ru, ev, eH⟩ => ?_)
        subst ev
        subst eH
        cases ru
        have e0 : Ev X.K W.ρ0 X.H_0 ρ H1 := by rw [← hH]; exact rs.base
        have cw := hcl.within hex I1 e0
        refine PySem.W.callWith_F0 (cw.at_ s1 H1 Un.refl) (wpAny_call (codeAny_mono (cw.run X.A X.stack s1 H1 ρ h Q (fun c d H' => W.w c d σ H') hr hgd I1.env0 Un.refl .refl rh rs.tabs (pp.wish fun _ _ _ z => z)) fun res s' hq => ?_))
        cases res with
        | error ex => exact tk _ _ (XE.of_call I1 (fun _ _ _ z => z) hq)
        | ok fl =>
          cases fl with
          | ret u => exact I1.after hq
          | next => exact hq.elim
          | brk => exact hq.elim
          | cont => exact hq.elim
    · exact pp.elim
  · exact pp.elim

/-! ### a def whose first parameter is such a thing -/
abbrev FnC := Nat → Cl → Fn
structure FnH (P : Program) (w : World) (K : PySem.W.Frag) (mg : Str → Option Value) (base : Heap) (k lv : Nat) (f : Addr) (fd : FuncData) (ps : List Str) (g : FnC) : Prop where
  run : ∀ (A : Around) (outer : List Env) (s : Shared) (H : Hp) (args : Args) (us : List Value) (vs : List V) (fs : List FV) (ρ : List Addr) (h : FH) (Q : VK) (E : XK) (fc : Addr) (n : Nat) (d : Cl), Room k A → A.guards = some [] → Env0 P w K mg base A outer s H → BindsTo s fd args (ps.zip us) → Vals vs us →
    RVs K ρ H fs vs → RH K ρ h H → LamX.Tabs (LamT.T K) H → fs.length = ps.length → ρ[n]? = some fc → CloOk P w K mg base lv fc outer s H ρ d → Post K (WE' E ρ H) (RV K) ρ H [] (g n d fs h) Q → codeAny (model P w) A (.call (.ref f) args) (CR (L2.CX P w) outer P w H s Q E) s
section
variable {P : Program} {w : World} {K : PySem.W.Frag} {mg : Str → Option Value} {base : Heap} {N : List Str} {qual : Str} {params : Arguments} {body : List Stmt} {scope : Scope} {dvs : List V} {kws : List (Str × V)}
theorem fnH_of {ev : Nat → Cl → EvS} (F : FunD K x qual params body scope dvs kws f fd) (S : FnScope N ps scope)
    (hbody : ∀ (cdv : Value) (A : Around) (outer : List Env) (s : Shared) (H : Hp) (E : XK) (ρ : List Addr) (fc : Addr) (n : Nat) (d : Cl), Room k (A.deeper (envOfC qual scope s.heap.objs.size f cdv)) → A.guards = some [] → fd.code = cdv → ρ[n]? = some fc → CloOk P w K mg base lv fc outer s H ρ d →
      FSs (cxD P w K mg base N qual scope f cdv A outer s H E) (WE' E ρ H) body (ev n d)) : FnH P w K mg base (k + 1) lv f fd ps (fun n d => cDef N.length (ev n d)) := by
  obtain ⟨oc, od, dV, kV, doc, pm, an, cdv, ct, osl, rfl, lk, hcd, _, _⟩ := F.ex
  refine ⟨fun A outer s H args us vs fs ρ h Q E fc n d hr hgd e0 hb r rf rh tb hl hn hcl p => ?_⟩
  refine LamX.run_ofS lk hcd S hr e0 hb r (by rw [← rf.len]; exact hl) fun hr' => ?_
  refine ⟨_, hbody cdv A outer s H E ρ fc n d hr' hgd rfl hn hcl, ρ, _, h, rs_start rf tb, rh, ?_⟩
  unfold cDef at p
  cases q : ev n d (fs.map some ++ List.replicate (N.length - fs.length) none) h with
  | nx σ1 h1 =>
    rw [q] at p
    exact fun ρ' H' σ' e' rs' rh' => p ρ' H' .non e' rh' .non
  | rt v h1 =>
    rw [q] at p
    exact fun ρ' H' u e' rh' r' => p ρ' H' u e' rh' r'
  | ex c fs' σ1 h1 =>
    rw [q] at p
    exact fun ρ' H' σ' d vs e' rs' rh' q1 q2 => p ρ' H' d vs e' rh' q1 q2
  | bk σ1 h1 => rw [q] at p; exact p.elim
  | ct σ1 h1 => rw [q] at p; exact p.elim
  | stuck => rw [q] at p; exact p.elim
end
/-- it is handed on: i the slot that holds it -/
def goC (n m : Nat) (d : Cl) (g : FnC) (fs : List FV) (h : FH) : Res FV := match fs with
  | .ref j :: _ => if j = n then (if fs.length = m then g n d fs h else .stuck) else .stuck
  | _ => .stuck
def cPass (i n : Nat) (d : Cl) (m : Nat) (g : FnC) (er : EvA) : EvE := fun σ h => (cCons (cVar i) er σ h).bind fun fs h1 => goC n m d g fs h1
/-- f(lambda: .., ..) -/
def cLam (m : Nat) (g : FnC) (el : EvE) (er : EvA) : EvE := fun σ h => (er σ (h ++ [.opq])).bind fun xs h1 => if xs.length + 1 = m then g h.length (fun h2 => el σ h2) (.ref h.length :: xs) h1 else .stuck
/-- a def's call runs -/
theorem run_fnH {g : FnC} {pins : List (Addr × Obj)} {σ : L2.St} {H : Hp} {s : Shared} {Q : VK} {us : List Value} {vs : List V} {args : Args} {fs : List FV} {ρ : List Addr} {h : FH} {fc : Addr} {n : Nat} {d : Cl} (F : FnH X.prog X.w X.K X.mg X.base k lv f fd ps g) (hr : Room k X.A) (hgd : X.A.guards = some []) (tk : Takes X W.w) (I : Inv X pins σ H s)
    (hb : BindsTo s fd args (ps.zip us)) (r : Vals vs us) (rf : RVs X.K ρ H fs vs) (rh : RH X.K ρ h H) (tb : LamX.Tabs (LamT.T X.K) H) (hl : fs.length = ps.length) (hn : ρ[n]? = some fc) (hcl : CloOk X.prog X.w X.K X.mg X.base lv fc X.stack s H ρ d) (p : Post X.K W (RV X.K) ρ H σ (g n d fs h) Q) :
    codeAny (model X.prog X.w) X.A (.call (.ref f) args) (fun res s' => match res with
      | .ok (.ret u) => EP X pins σ Q u s'
      | .ok _ => False
      | .error ex => X.xe ex s') s := by
  refine codeAny_mono (F.run X.A X.stack s H _ us vs fs ρ h Q (fun c d H' => W.w c d σ H') fc n d hr hgd I.env0 hb r rf rh tb hl hn hcl (p.wish fun _ _ _ z => z)) fun res s' hq => ?_
  match res, hq with
  | .error ex, hq => exact tk _ _ (XE.of_call I (fun _ _ _ z => z) hq)
  | .ok (.ret u), hq => exact I.after hq
theorem fe_pass {g : FnC} {d : Cl} (i : Nat) {n : Nat} {fc : Addr} {y : Str} {py : Pos} (F : FnH X.prog X.w X.K X.mg X.base k lv f fd ps g) (hcl : CloOk X.prog X.w X.K X.mg X.base lv fc X.outer X.s_0 X.H_0 W.ρ0 d) (hH : W.H0 = X.H_0) (hex : X.ex = []) (hn : W.ρ0[n]? = some fc) (hr : Room k X.A) (hgd : X.A.guards = some []) (tk : Takes X W.w)
    (hm : X.mg x = some (.ref f)) (hk : PySem.W.keepIn X.K (.ref f) = true) (hb : Binds X.K fd ps []) (ha : FA X W (.Name y py :: es) (cCons (cVar i) er)) (hg : Gl X x := by rfl) (hdb : (x == ("__debug__" : Str)) = false := by decide)
    (he0 : starEach (.Name y py :: es) X.env = (false, eval (.Name y py) X.env) :: starEach es X.env := by rfl) (hpl : (backTo pos (starEach es X.env)).any (·.1) = false := by rfl) : FE X W (.Call (.Name x p) (.Name y py :: es) [] pos) (cPass i n d ps.length g er) := by
  refine ⟨fun pins s σ H Q I ⟨ρ, σf, h, rs, rh, pp⟩ => ?_⟩
  refine wpAny_Call_Name_kw (ld_glob I hg hm (PySem.W.callWith_K (h₀ := X.base) I.ok.mod.kin hk ?_ he0 hpl) hdb)
  have hA : tG (RVs X.K) X.K W (cCons (cVar i) er) σ H (fun vs H1 => ∃ ρ1 xs h1, RVs X.K ρ1 H1 xs vs ∧ RH X.K ρ1 h1 H1 ∧ LamX.Tabs (LamT.T X.K) H1 ∧ xs.length = ps.length ∧ Ev X.K W.ρ0 W.H0 ρ1 H1 ∧ Post X.K W (RV X.K) ρ1 H1 σ (g n d xs h1) Q) := by
    refine core (R1 := RVs X.K) rs rh pp fun ρ1 H1 h1 xs vs e1 rs1 rh1 r1 p1 => ?_
    unfold goC at p1
    split at p1
    · rename_i j xs
      by_cases ej : j = n
      · rw [if_pos ej] at p1
        by_cases z : (FV.ref j :: xs).length = ps.length
        · rw [if_pos z] at p1
          exact ⟨ρ1, _, h1, r1, rh1, rs1.tabs, z, rs1.base, p1⟩
        · rw [if_neg z] at p1
          exact p1.elim
      · rw [if_neg ej] at p1
        exact p1.elim
    · exact p1.elim
  refine thn (ha.run pos pins s σ H _ I hA) fun us s1 ⟨vs, H1, I1, r, ρ1, xs, h1, r1, rh1, tb1, hl, e1, p1⟩ => ⟨I1.kIn, ?_⟩
  have hb1 := hb s1 us I1.kIn (by rw [List.append_nil, ← r.length, ← r1.len]; exact hl)
  rw [List.append_nil] at hb1
  have cw := hcl.within hex I1 (by rw [← hH]; exact e1)
  refine wpAny_call (codeAny_mono (run_fnH F hr hgd tk I1 hb1 r r1 rh1 tb1 hl (e1.get hn) cw p1) fun res s' hq => ?_)
  rcases res with ex | (u | _ | _ | _) <;> exact hq
theorem tups_extN {K : PySem.W.Frag} {H H' : Hp} (x : LamX.ExtN H H') : ∀ a vs, SqT K H a vs → SqT K H' a vs := fun a vs q => by
  rcases q with (q | ⟨ob, q⟩) | q
  · exact .inl (.inl (x _ _ q (fun _ z => nomatch z)))
  · exact .inl (.inr ⟨ob, x _ _ q (fun _ z => nomatch z)⟩)
  · exact .inr q
theorem fe_lam {g : FnC} {el : EvE} {params : Arguments} {body : Expr} {scope : Scope} {lp : Pos} {c P : Addr} (F : FnH X.prog X.w X.K X.mg X.base k (lv + 1) f fd ps g) (hr : Room k X.A) (hgd : X.A.guards = some []) (tk : Takes X W.w)
    (TB : LamX.TabB X.base X.mg c P) (hcode : X.env.code = .ref c) (hT : (P, X.env.qual ++ "<lambda>") ∈ LamT.T X.K) (hu : ∀ q ∈ LamT.T X.K, q.1 = P → q.2 = X.env.qual ++ "<lambda>") (L : LamX.LamS X.env.scope scope)
    (hbody : ∀ (f c' : Addr) (A : Around) (outer : List Env) (s : Shared) (H : Hp) (E : XK) (ρ : List Addr), Room lv (LamX.lamCx X A outer s H E scope f c').A → A.guards = some [] → FE (LamX.lamCx X A outer s H E scope f c') (WE' E ρ H) body el)
    (hm : X.mg x = some (.ref f)) (hk : PySem.W.keepIn X.K (.ref f) = true) (hb : Binds X.K fd ps []) (ha : FA X W es er) (hst : frs X.stack = X.env.locals :: X.fs := by rfl) (hgl : Gl X x := by rfl) (hdb : (x == ("__debug__" : Str)) = false := by decide) (hdef : defaultsOf params X.env = ([], []) := by rfl)
    (hbind : ∀ (pm ctv : Value) (c' : Addr), bindArgs (PySem.W.kla_fn "<lambda>" (X.env.qual ++ "<lambda>") params body scope (cloFrom X.env.cells scope.names []) pm (.ref c') ctv) ⟨[], []⟩ = pure [] := by exact fun _ _ _ => rfl)
    (he0 : starEach (.Lambda params body scope lp :: es) X.env = (false, eval (.Lambda params body scope lp) X.env) :: starEach es X.env := by rfl) (hpl : (backTo pos (starEach es X.env)).any (·.1) = false := by rfl) : FE X W (.Call (.Name x p) (.Lambda params body scope lp :: es) [] pos) (cLam ps.length g el er) := by
  refine ⟨fun pins s σ H Q I ⟨ρ, σf, h, rs, rh, pp⟩ => ?_⟩
  refine wpAny_Call_Name_kw (ld_glob I hgl hm (PySem.W.callWith_K (h₀ := X.base) I.ok.mod.kin hk ?_ he0 hpl) hdb)
  rw [he0]
  show wpAny _ _ (spliced ((false, eval (.Lambda params body scope lp) X.env) :: backTo pos (starEach es X.env))) _ _ s
  refine Calls.spliced_cons (LamX.lam_make2 I TB hcode hT hu rs.tabs hdef (L.has I.ok) fun f0 c' pm ctv H1 s1 I1 x1 t1 hf hfn hfr hc => ?_)
  have e1 : Ev X.K ρ H ρ H1 := ⟨⟨[], (List.append_nil ρ).symm⟩, tups_extN x1, fun _ => t1, fun c q z => x1 _ _ z LamX.codeO_ne⟩
  have e2 : Ev X.K ρ H1 (ρ ++ [f0]) H1 := ⟨⟨[f0], rfl⟩, fun _ _ z => z, id, fun _ _ z => z⟩
  have rh1 := (rh.extN x1 e1).opq f0 e2
  have hnew : ∀ {j : Nat}, ρ.length = j → (ρ ++ [f0])[j]? = some f0 := fun e => by rw [← e]; simp
  have Ip : Inv X ((f0, PySem.W.kla_obj "<lambda>" (X.env.qual ++ "<lambda>") params body scope (cloFrom X.env.cells scope.names []) pm c' ctv) :: pins) σ H1 s1 := I1.pins_of fun q hq => by
    rcases List.mem_cons.mp hq with z | z
    · rw [z]
      rw [hst] at hfr
      exact ⟨hf, hfn, fun y => hfr (by rw [show f0 = X.env.locals from y]; exact List.mem_cons_self), fun y => hfr (List.mem_cons_of_mem _ y), fun v y => nomatch y⟩
    · exact I1.pin q (List.mem_append_right _ z)
  have hA : tG (RVs X.K) X.K W er σ H1 (fun vs H2 => ∃ ρ2 xs h2, RVs X.K ρ2 H2 xs vs ∧ RH X.K ρ2 h2 H2 ∧ RS X.K W ρ2 H2 σf σ ∧ Ev X.K (ρ ++ [f0]) H1 ρ2 H2 ∧ xs.length + 1 = ps.length ∧ Post X.K W (RV X.K) ρ2 H2 σ (g h.length (fun h2 => el σf h2) (.ref h.length :: xs) h2) Q) := by
    refine core (R1 := RVs X.K) (rs.ev (e1.trans e2)) rh1 ((show Post X.K W (RV X.K) ρ H σ ((er σf (h ++ [.opq])).bind fun xs h1 => if xs.length + 1 = ps.length then g h.length (fun h2 => el σf h2) (.ref h.length :: xs) h1 else .stuck) Q from pp).at_ (e1.trans e2)) fun ρ2 H2 h2 xs vs e3 rs2 rh2 r2 p2 => ?_
    by_cases z : xs.length + 1 = ps.length
    · rw [if_pos z] at p2
      exact ⟨ρ2, xs, h2, r2, rh2, rs2, e3, z, p2⟩
    · rw [if_neg z] at p2
      exact p2.elim
  refine thn (ha.run pos _ s1 σ H1 _ Ip hA) fun us s2 ⟨vs, H2, I2, r, ρ2, xs, h2, r2, rh2, rs2, e3, hl, p2⟩ => ?_
  have P0 := I2.pin _ (List.mem_append_right _ List.mem_cons_self)
  have I3 : Inv X pins σ H2 s2 := I2.pins_of fun q hq => I2.pin q (List.mem_append_right _ (List.mem_cons_of_mem _ hq))
  refine ⟨I3.kIn, ?_⟩
  have cl := clo_of (lv := lv) (ev := el) I3 L P0.1 P0.2.1 hfr (e3.codes _ _ hc) (hbind pm ctv c') rs2 fun A outer s H E ρ => hbody f0 c' A outer s H E ρ
  have hn2 : ρ2[h.length]? = some f0 := e3.get (hnew rh.len)
  have hb1 := hb s2 (.ref f0 :: us) I3.kIn (by rw [List.append_nil, List.length_cons, ← r.length, ← r2.len]; exact hl)
  rw [List.append_nil] at hb1
  refine wpAny_call (codeAny_mono (run_fnH (vs := .ref f0 :: vs) F hr hgd tk I3 hb1 (.cons rfl r) (.cons (.ref hn2) r2) rh2 rs2.tabs (by rw [List.length_cons]; exact hl) hn2 cl p2) fun res s' hq => ?_)
  rcases res with ex | (u | _ | _ | _) <;> exact hq
end
end FX
set_option maxRecDepth 100000
set_option maxHeartbeats 4000000
namespace FX
open PySem PySem.Spec PyProof.Rows L2
variable [LamT]

/-! ### the end: a law whose function answers True -/
/-- tracked at the law's call: the tables that are empty, the script (unless the top holds it) -/
def trkE (ts : List Addr) (a : Addr) (z : Option HO) : Hp := fun b => match ts.contains b with
  | true => some (.tbl #[])
  | false => match decide (b = a) with
    | true => z
    | false => none
section
variable {ts : List Addr} {a b : Addr} {z : Option HO}
theorem trkE_ts (h : b ∈ ts) : trkE ts a z b = some (.tbl #[]) := by
  unfold trkE
  rw [show ts.contains b = true from List.contains_iff_mem.mpr h]
theorem trkE_out (h : b ∉ ts) (n : b ≠ a) : trkE ts a z b = none := by
  unfold trkE
  rw [show ts.contains b = false from by rw [← Bool.not_eq_true, List.contains_iff_mem]; exact h, show decide (b = a) = false from decide_eq_false n]
theorem trkE_a (h : a ∉ ts) : trkE ts a z a = z := by
  unfold trkE
  rw [show ts.contains a = false from by rw [← Bool.not_eq_true, List.contains_iff_mem]; exact h, show decide (a = a) = true from decide_eq_true rfl]
theorem trkE_cases (ha : a ∉ ts) (b : Addr) : (b ∈ ts ∧ trkE ts a z b = some (.tbl #[])) ∨ (b = a ∧ trkE ts a z b = z) ∨ trkE ts a z b = none := by
  by_cases h : b ∈ ts
  · exact .inl ⟨h, trkE_ts h⟩
  · by_cases n : b = a
    · subst n
      exact .inr (.inl ⟨rfl, trkE_a ha⟩)
    · exact .inr (.inr (trkE_out h n))
end
theorem no_fly {P : Program} {w : World} {H : Hp} {s : Shared} {e : Value} {s' : Shared} (c : L2.CX P w [] H s (fun _ _ _ => False) e s') : False := by
  obtain ⟨_, _, _, _, _, _, _, _, _, _, _, _, z⟩ := c
  exact z
/-- the law's call -/
theorem law_run {P : Program} {w : World} {K : PySem.W.Frag} {mg mb : Str → Option Value} {k : Nat} {fa a : Addr} {cs : List (Addr × Addr)} {fd : FuncData} {x : Str} {g : Fn} {sE : Shared} {us : List Value} {ns : List Int}
    (inK : K.In sE.heap) (nsM : sE.heap.Ns mainGlobals mg) (nsB : sE.heap.Ns builtinsNs mb) (boot : ∀ x : Str, x ≠ "__name__" → mb x = bootBuiltins x) (noLim : sE.heap.NoLimit) (noGen : sE.gens = #[])
    (tabs : ∀ p ∈ cs, sE.heap.get? p.2 = some { cls := .none, data := .fields #[] }) (tabsK : ∀ p ∈ cs, K.lookup p.2 = none) (codes : ∀ p ∈ cs, PySem.W.CodeHd sE.heap p.1 p.2)
    (bMod : ∃ (bm : Addr) (ob : Obj), mg "__builtins__" = some (.ref bm) ∧ bm ≠ builtinsNs ∧ sE.heap.get? bm = some ob ∧ ob.cls = .type "module" ∧ ob.dict = some builtinsNs ∧ ob.data = .plain)
    (script : sE.heap.get? a = some { cls := .type "list", data := .seq us.toArray }) (areInts : IntsAre us ns) (short : ns.length ≤ sizeLine) (room : Room k callerA) (hLT : ∀ p ∈ LamT.T K, p.1 ∈ cs.map (·.2))
    (F : ∀ base : Heap, K.In base → base.Ns mainGlobals mg → (∀ p ∈ cs, LamX.TabB base mg p.1 p.2) → FnF P w K mg base k fa fd [x] g) (binds : ∀ (s : Shared) (u : Value), BindsTo s fd ⟨[u], []⟩ [(x, u)])
    (hgo : ∃ h', g [.ref 0] [.ro (ns.map FV.int)] = .ok (.bl true) h') :
    codeAny (model P w) callerA (.call (.ref fa) ⟨[.ref a], []⟩) (fun r s' => r = .ok (.ret (.bool true)) ∧ OldK sE.heap s'.heap ∧ s'.os = sE.os ∧ AllBare s'.gens) sE := by
  have ofTs : ∀ b ∈ cs.map (·.2), sE.heap.get? b = some { cls := .none, data := .fields #[] } := fun b hb => by
    obtain ⟨p, hp, rfl⟩ := List.mem_map.mp hb
    exact tabs p hp
  have aOut : a ∉ cs.map (·.2) := fun y => by
    have e1 := ofTs a y
    rw [script] at e1
    injection e1 with e2
    injection e2 with _ _ e3
    cases e3
  have vals := vals_ints areInts
  -- the script stands in the module's top, or is tracked now
  have ⟨z, hz⟩ : ∃ z : Option HO, (z = none ∧ ∃ o, K.lookup a = some o) ∨ (z = some (.frz { cls := .type "list", data := .seq us.toArray } (.lst (ns.map V.int))) ∧ K.lookup a = none) := by
    cases q : K.lookup a with
    | none => exact ⟨_, .inr ⟨rfl, rfl⟩⟩
    | some o => exact ⟨_, .inl ⟨rfl, o, rfl⟩⟩
  obtain ⟨H, hH⟩ : ∃ H : Hp, H = trkE (cs.map (·.2)) a z := ⟨_, rfl⟩
  have three : ∀ b, (b ∈ cs.map (·.2) ∧ H b = some (.tbl #[])) ∨ (b = a ∧ H b = z) ∨ H b = none := fun b => by rw [hH]; exact trkE_cases aOut b
  have atT : ∀ b ∈ cs.map (·.2), H b = some (.tbl #[]) := fun b hb => by rw [hH]; exact trkE_ts hb
  have atA : H a = z := by rw [hH]; exact trkE_a aOut
  -- all but the script and the tables is left
  have stays : ∀ {b : Addr} {o : Obj}, sE.heap.get? b = some o → (∀ xs n, o.data ≠ .seq xs n) → o.data ≠ .fields #[] → (hidT sE.heap H).get? b = some o := fun {b o} e n1 n2 => by
    refine hidT_get e ?_
    rcases three b with ⟨hb, _⟩ | ⟨rfl, _⟩ | y
    · rw [ofTs b hb] at e
      cases e
      exact absurd rfl n2
    · rw [script] at e
      cases e
      exact absurd rfl (n1 _ _)
    · exact y
  have spaces : ∀ {b : Addr} {m : Str → Option Value}, sE.heap.Ns b m → (hidT sE.heap H).Ns b m := fun ⟨o, es, ep, e, d, r⟩ => ⟨o, es, ep, stays e (by rw [d]; exact fun _ _ y => nomatch y) (by rw [d]; exact fun y => nomatch y), d, r⟩
  have inB : K.In (hidT sE.heap H) := fun b o e => by
    refine hidT_get (inK b o e) ?_
    rcases three b with ⟨hb, _⟩ | ⟨rfl, y⟩ | y
    · obtain ⟨p, hp, rfl⟩ := List.mem_map.mp hb
      rw [tabsK p hp] at e
      cases e
    · rcases hz with ⟨hz, _⟩ | ⟨_, hz⟩
      · rw [y, hz]
      · rw [hz] at e
        cases e
    · exact y
  have nGlob : ∀ {b : Addr} {o : Obj}, sE.heap.get? b = some o → (∀ es ep, o.data ≠ .dict es ep) → b ≠ mainGlobals := fun e n y => by
    obtain ⟨o', es, ep, e', d', _⟩ := nsM
    rw [y, e'] at e
    cases e
    exact n es ep d'
  have tabB : ∀ p ∈ cs, LamX.TabB (hidT sE.heap H) mg p.1 p.2 := fun p hp => by
    refine ⟨?_, ?_, (nGlob (tabs p hp) fun _ _ y => nomatch y).symm⟩
    · obtain ⟨oc, vs, f1, f2, f3, f4, f5, f6, f7, c1, c2, c3, c4, crest⟩ := codes p hp
      exact ⟨oc, vs, f1, f2, f3, f4, f5, f6, f7, stays c1 (by rw [c3]; exact fun _ _ y => nomatch y) (by rw [c3]; intro y; cases y; simp at c4), c2, c3, c4, crest⟩
    · obtain ⟨bm, ob, m1, m2, m3, m4, m5, m6⟩ := bMod
      refine ⟨bm, ob, m1, m2, nGlob m3 (by rw [m6]; exact fun _ _ y => nomatch y), fun y => ?_, stays m3 (by rw [m6]; exact fun _ _ y => nomatch y) (by rw [m6]; exact fun y => nomatch y), m4, m5, m6⟩
      rw [y, tabs p hp] at m3
      cases m3
      cases m4
  have allOk : HOk P w H sE.heap := fun b u e => by
    rcases three b with ⟨hb, y⟩ | ⟨rfl, y⟩ | y
    · rw [y] at e
      cases e
      exact ofTs b hb
    · rcases hz with ⟨hz, _⟩ | ⟨hz, _⟩
      · rw [y, hz] at e
        cases e
      · rw [y, hz] at e
        cases e
        exact ⟨script, by rw [List.length_map]; exact short, us, _, vals, script⟩
    · rw [y] at e
      cases e
  have limB : (hidT sE.heap H).NoLimit := by
    obtain ⟨mc, l1, l2⟩ := noLim
    exact ⟨mc, spaces l1, l2⟩
  have env : Env0 P w K mg (hidT sE.heap H) callerA [] sE H := {
    frames := rfl
    mod := ⟨inB, spaces nsM, ⟨mb, spaces nsB, boot⟩, limB⟩
    bs := fun _ _ => of_hidT
    bsz := Nat.le_of_eq (hidT_size _ _)
    funs := trivial
    frf := fun b hb => nomatch hb
    hok := allOk
    bare := .of_eq noGen }
  have rvs : RVs K [a] H (ns.map FV.int) (ns.map V.int) := by
    have go : ∀ l : List Int, RVs K [a] H (l.map FV.int) (l.map V.int) := fun l => by
      induction l with
      | nil => exact .nil
      | cons i l ih => exact .cons (.int i) ih
    exact go ns
  have ro : RO K [a] H a (.ro (ns.map FV.int)) := by
    rcases hz with ⟨_, o, hk⟩ | ⟨hz, _⟩
    · have e := inK a o hk
      rw [script] at e
      cases e
      exact .inl ⟨_, ⟨_, us.toArray, _, hk, rfl, rfl, rfl, by rw [List.size_toArray, areInts.length]; exact short, vals⟩, rvs⟩
    · exact .inr ⟨_, .inr ⟨_, atA.trans hz⟩, rvs⟩
  have rh : RH K [a] [.ro (ns.map FV.int)] H := by
    refine ⟨rfl, fun i j b q1 q2 => .inl ?_, fun n o q => ?_⟩
    · have l1 := (List.getElem?_eq_some_iff.mp q1).1
      have l2 := (List.getElem?_eq_some_iff.mp q2).1
      simp only [List.length_singleton] at l1 l2
      omega
    · cases n with
      | zero => cases q; exact ⟨a, rfl, ro⟩
      | succ n => cases q
  have tb : LamX.Tabs (LamT.T K) H := fun p hp => ⟨#[], atT _ (hLT p hp), trivial, fun pos cv q => nomatch q⟩
  obtain ⟨h', hgo⟩ := hgo
  refine codeAny_mono ((F _ inB (spaces nsM) tabB).run callerA [] sE H ⟨[.ref a], []⟩ [.ref a] [.ref a] [.ref 0] [a] _ (fun v _ => v = .bl true) (fun _ _ _ => False) room rfl env (binds sE (.ref a)) (.cons rfl .nil) (.cons (.ref rfl) .nil) rh tb rfl ?_) fun r s' c => ?_
  · rw [hgo]
    exact fun ρ' H' v _ _ rv => by cases rv; rfl
  · match r, c with
    | .error e, c => exact (no_fly c).elim
    | .ok (.ret u), c =>
      obtain ⟨v, H', eos, gens, un, ok', rel, ev⟩ := c
      cases (show v = .bl true from ev)
      cases (show u = .bool true from rel)
      have kept : ∀ b o, b ∉ cs.map (·.2) → sE.heap.get? b = some o → s'.heap.get? b = some o := fun b o nb e => by
        have hN : H b = none → s'.heap.get? b = some o := fun y => un.keep b o e y (fun q => nomatch q) (fun q => nomatch q)
        rcases three b with ⟨hb, _⟩ | ⟨rfl, y⟩ | y
        · exact absurd hb nb
        · rcases hz with ⟨hz, _⟩ | ⟨hz, _⟩
          · exact hN (y.trans hz)
          · obtain ⟨q1, _⟩ := allOk _ _ (y.trans hz)
            obtain ⟨q2, _⟩ := ok' _ _ (un.frzs _ _ _ (y.trans hz))
            rw [q1] at e
            cases e
            exact q2
        · exact hN y
      have grown : ∀ b ∈ cs.map (·.2), ∃ more : Array Value, s'.heap.get? b = some { cls := .none, data := .fields more } := fun b hb => by
        obtain ⟨more, q⟩ := un.tbls b #[] (atT b hb)
        exact ⟨_, ok' b _ q⟩
      refine ⟨rfl, ⟨fun b o e => ?_, fun b o e => ?_⟩, eos, gens⟩
      · by_cases hb : b ∈ cs.map (·.2)
        · obtain ⟨more, hm⟩ := grown b hb
          obtain ⟨p, hp, rfl⟩ := List.mem_map.mp hb
          rw [tabs p hp] at e
          cases e
          exact .inr (.inl ⟨((codes p hp).tab (tabs p hp)).isCodeTable, rfl, #[], more, rfl, by rw [hm]; simp⟩)
        · exact .inl (kept b o hb e)
      · by_cases hb : b ∈ cs.map (·.2)
        · obtain ⟨more, hm⟩ := grown b hb
          exact ⟨_, hm⟩
        · exact ⟨o, kept b o hb e⟩
/-- what the head has to tell of the law -/
structure LawF (P : Program) (w : World) (K : PySem.W.Frag) (k n : Nat) (x : Str) (mg : Str → Option Value) (fa : Addr) (h : Heap) : Prop where
  ex : ∃ (fd : FuncData) (cs : List (Addr × Addr)) (g : Fn), (∀ p ∈ cs, h.get? p.2 = some { cls := .none, data := .fields #[] }) ∧ (∀ p ∈ cs, K.lookup p.2 = none) ∧ (∀ p ∈ cs, PySem.W.CodeHd h p.1 p.2) ∧ (∀ p ∈ LamT.T K, p.1 ∈ cs.map (·.2)) ∧ (∀ (s : Shared) (u : Value), BindsTo s fd ⟨[u], []⟩ [(x, u)]) ∧
    (∀ ns : List Int, ns.length ≤ n → (∀ i ∈ ns, Builtin.Int.intBits i ≤ 1048576) → ∃ h', g [.ref 0] [.ro (ns.map FV.int)] = .ok (.bl true) h') ∧
    ∀ base : Heap, K.In base → base.Ns mainGlobals mg → (∀ p ∈ cs, LamX.TabB base mg p.1 p.2) → FnF P w K mg base k fa fd [x] g
theorem walk_end {l : PySem.W.OpenLaw} {n k : Nat} {q : Program} {loose : List Str} {XP : (Str → Option Value) → Heap → Prop} {YP : World → Heap → Prop} {d : DefRec} {x : Str}
    (most : l.most = some n) (line : n ≤ sizeLine) (plain : d.params.defaults = []) (room : Room k callerA)
    (law : ∀ (w : World) (mg : Str → Option Value) (fa : Addr) (h : Heap), YP w h → h.Ns mainGlobals mg → mg d.name = some (.ref fa) → ∃ K : PySem.W.Frag, K.In h ∧ LawF l.prog w K k n x mg fa h) : PySem.W.WalkO q loose XP YP l.row.toRowW d [] (fun f vs => PySem.call f vs) := by
  refine Att.attach_callB most plain fun w s₀ sE mg mb fa o pm cd doc a us ns G Y _ _ _ named script areInts many bits noGen => ?_
  obtain ⟨K, inK, ⟨fd, cs, g, t1, t2, t3, t4, t5, t6, t7⟩⟩ := law w mg fa _ Y G.T.g named
  exact law_run inK G.T.g G.T.b G.T.builtins G.T.nolimit noGen t1 t2 t3 G.T.bmain script areInts (Nat.le_trans many line) room t4 t7 t5 (t6 ns many bits)
end FX
set_option maxRecDepth 100000
set_option maxHeartbeats 4000000
namespace FX
open PySem PySem.Spec PyProof.Rows L2
variable [LamT]

/-! ### a def by its name -/
structure Kn (P : Program) (w : World) (K : PySem.W.Frag) (mg : Str → Option Value) (base : Heap) (k : Nat) (x : Str) (ps : List Str) (g : Fn) : Prop where
  ex : ∃ (f : Addr) (fd : FuncData), mg x = some (.ref f) ∧ PySem.W.keepIn K (.ref f) = true ∧ Binds K fd ps [] ∧ FnF P w K mg base k f fd ps g
structure KnH (P : Program) (w : World) (K : PySem.W.Frag) (mg : Str → Option Value) (base : Heap) (k lv : Nat) (x : Str) (ps : List Str) (g : FnC) : Prop where
  ex : ∃ (f : Addr) (fd : FuncData), mg x = some (.ref f) ∧ PySem.W.keepIn K (.ref f) = true ∧ Binds K fd ps [] ∧ FnH P w K mg base k lv f fd ps g
section
variable {P : Program} {w : World} {K : PySem.W.Frag} {mg : Str → Option Value} {base : Heap} {k k' lv : Nat} {x : Str} {ps : List Str} {g : Fn}
theorem Kn.mono (D : Kn P w K mg base k x ps g) (h : k ≤ k') : Kn P w K mg base k' x ps g := let ⟨f, fd, a, b, c, d⟩ := D.ex; ⟨f, fd, a, b, c, d.mono h⟩
theorem FnH.mono {f : Addr} {fd : FuncData} {g : FnC} (F : FnH P w K mg base k lv f fd ps g) (h : k ≤ k') : FnH P w K mg base k' lv f fd ps g :=
  ⟨fun A outer s H args us vs fs ρ hh Q E fc n d hr => F.run A outer s H args us vs fs ρ hh Q E fc n d (hr.mono h)⟩
theorem KnH.mono {g : FnC} (D : KnH P w K mg base k lv x ps g) (h : k ≤ k') : KnH P w K mg base k' lv x ps g := let ⟨f, fd, a, b, c, d⟩ := D.ex; ⟨f, fd, a, b, c, d.mono h⟩
end
section
variable {X : Cx} {W : Wsh} {a b e : Expr} {es : List Expr} {ea eb : EvE} {er : EvA} {pos p p2 : Pos} {x : Str} {k lv : Nat} {ps : List Str} {g : Fn}
theorem fe_cl {n : Nat} (D : Kn X.prog X.w X.K X.mg X.base k x ps g) (hr : Room k X.A) (hgd : X.A.guards = some []) (tk : Takes X W.w) (ha : FA X W (e :: es) er) (hn : ps.length = n := by rfl) (hg : Gl X x := by rfl) (hdb : (x == ("__debug__" : Str)) = false := by decide)
    (he : starEach (e :: es) X.env = (false, eval e X.env) :: starEach es X.env := by rfl) (hpl : (backTo pos (starEach es X.env)).any (·.1) = false := by rfl) : FE X W (.Call (.Name x p) (e :: es) [] pos) (cCall n g er) := by
  subst hn
  obtain ⟨f, fd, h1, h2, h3, h4⟩ := D.ex
  exact fe_call h4 hr hgd tk h1 h2 h3 ha hg hdb he hpl
theorem fe_cl0 (D : Kn X.prog X.w X.K X.mg X.base k x [] g) (hr : Room k X.A) (hgd : X.A.guards = some []) (tk : Takes X W.w) (hg : Gl X x := by rfl) (hdb : (x == ("__debug__" : Str)) = false := by decide) : FE X W (.Call (.Name x p) [] [] pos) (cCall 0 g cNil) := by
  obtain ⟨f, fd, h1, h2, h3, h4⟩ := D.ex
  exact fe_call0 h4 hr hgd tk h1 h2 h3 hg hdb
def lamQ (q : Str) : Str := q ++ "<lambda>"
theorem fe_lm_ {n : Nat} {g : FnC} {el : EvE} {params : Arguments} {body : Expr} {scope : Scope} {lp : Pos} {c P : Addr} (D : KnH X.prog X.w X.K X.mg X.base k (lv + 1) x ps g) (hr : Room k X.A) (hgd : X.A.guards = some []) (tk : Takes X W.w)
    (TB : LamX.TabB X.base X.mg c P) (hcode : X.env.code = .ref c) (hT : (P, lamQ X.env.qual) ∈ LamT.T X.K) (hu : ∀ q ∈ LamT.T X.K, q.1 = P → q.2 = lamQ X.env.qual) (L : LamX.lamSB X.env.scope scope = true)
    (hbody : ∀ (f c' : Addr) (A : Around) (outer : List Env) (s : Shared) (H : Hp) (E : XK) (ρ : List Addr), Room lv (LamX.lamCx X A outer s H E scope f c').A → A.guards = some [] → FE (LamX.lamCx X A outer s H E scope f c') (WE' E ρ H) body el)
    (ha : FA X W es er) (hn : ps.length = n := by rfl) (hst : frs X.stack = X.env.locals :: X.fs := by rfl) (hgl : Gl X x := by rfl) (hdb : (x == ("__debug__" : Str)) = false := by decide) (hdef : defaultsOf params X.env = ([], []) := by rfl)
    (hbind : ∀ (pm ctv : Value) (c' : Addr), bindArgs (PySem.W.kla_fn "<lambda>" (X.env.qual ++ "<lambda>") params body scope (cloFrom X.env.cells scope.names []) pm (.ref c') ctv) ⟨[], []⟩ = pure [] := by exact fun _ _ _ => rfl)
    (he0 : starEach (.Lambda params body scope lp :: es) X.env = (false, eval (.Lambda params body scope lp) X.env) :: starEach es X.env := by rfl) (hpl : (backTo pos (starEach es X.env)).any (·.1) = false := by rfl) : FE X W (.Call (.Name x p) (.Lambda params body scope lp :: es) [] pos) (cLam n g el er) := by
  subst hn
  obtain ⟨f, fd, h1, h2, h3, h4⟩ := D.ex
  exact fe_lam h4 hr hgd tk TB hcode hT hu (LamX.lamS_by L) hbody h1 h2 h3 ha hst hgl hdb hdef hbind he0 hpl

/-! ### never reached; a try whose body raises nothing -/
def sNo : EvS := fun _ _ => .stuck
theorem fs_no {st : Stmt} : FS X W st sNo := ⟨fun pins s σ H D I ⟨ρ, σf, h, rs, rh, p⟩ => p.elim⟩
theorem fss_no {st : List Stmt} : FSs X W st sNo := ⟨fun pins s σ H D I ⟨ρ, σf, h, rs, rh, p⟩ => p.elim⟩
def cNo : EvE := fun _ _ => .stuck
theorem fe_no : FE X W e cNo := ⟨fun pins s σ H D I ⟨ρ, σf, h, rs, rh, p⟩ => p.elim⟩
def sTry0 (b : EvS) : EvS := fun σ h => match b σ h with
  | .ex _ _ _ _ => .stuck
  | r => r
theorem fs_try0 {ev : EvS} {body : List Stmt} {h0 : ExceptHandler} {hs : List ExceptHandler} (hb : FSs X.nox W.nox body ev) : FS X W (.Try body (h0 :: hs) [] [] pos) (sTry0 ev) := by
  refine ps_imp (ps_try_thru0 hb) fun D σ H ⟨ρ, σf, h, rs, rh, p⟩ => ⟨ρ, σf, h, rs.wish _, rh, ?_⟩
  unfold sTry0 at p
  cases q : ev σf h with
  | nx σ1 h1 => rw [q] at p; exact fun ρ' H' σ' e' rs' => p ρ' H' σ' e' (rs'.wish _)
  | rt v h1 => rw [q] at p; exact p
  | bk σ1 h1 => rw [q] at p; exact fun ρ' H' σ' e' rs' => p ρ' H' σ' e' (rs'.wish _)
  | ct σ1 h1 => rw [q] at p; exact fun ρ' H' σ' e' rs' => p ρ' H' σ' e' (rs'.wish _)
  | ex c fs σ1 h1 => rw [q] at p; exact p.elim
  | stuck => rw [q] at p; exact p.elim
end
end FX
set_option maxRecDepth 100000
set_option maxHeartbeats 4000000
namespace FX
open PySem PySem.Spec PyProof.Rows L2
variable [LamT]

/-! ### values of the top -/
def kAll {α β : Type} (p : α → β → Bool) : List α → List β → Bool
  | [], [] => true
  | x :: xs, y :: ys => p x y && kAll p xs ys
  | _, _ => false
def kVal (K : PySem.W.Frag) : Nat → FV → Value → Bool
  | 0, _, _ => false
  | n + 1, x, u => match x, u with
    | .non, .none => true
    | .bl b, .bool c => b == c
    | .int i, .int j _ => decide (i = j)
    | .str y, .str z _ => decide (y = z)
    | .tup xs, .ref a => (match K.lookup a with
      | some ⟨.type c, _, .seq its _, _⟩ => decide (c = "tuple") && (decide (its.size ≤ sizeLine) && kAll (kVal K n) xs its.toList)
      | _ => false)
    | _, _ => false
theorem kVal_ok {K : PySem.W.Frag} : ∀ (n : Nat) {x : FV} {u : Value}, kVal K n x u = true → ∃ v : V, RelV v u ∧ ∀ ρ H, RV K ρ H x v
  | 0, _, _, h => by cases h
  | n + 1, x, u, h => by
    unfold kVal at h
    split at h
    · exact ⟨.non, rfl, fun _ _ => .non⟩
    · rename_i b c
      cases eq_of_beq h
      exact ⟨.bl b, rfl, fun _ _ => .bl b⟩
    · rename_i i j t
      cases of_decide_eq_true h
      exact ⟨.int i, ⟨t, rfl⟩, fun _ _ => .int i⟩
    · rename_i y z t
      cases of_decide_eq_true h
      exact ⟨.str y, ⟨t, rfl⟩, fun _ _ => .str y⟩
    · rename_i xs a
      split at h
      · rename_i c od its m sl q
        rw [Bool.and_eq_true, Bool.and_eq_true] at h
        obtain ⟨h1, h2, h3⟩ := h
        have all : ∀ {xs : List FV} {us : List Value}, kAll (kVal K n) xs us = true → ∃ vs : List V, Vals vs us ∧ ∀ ρ H, RVs K ρ H xs vs := fun {xs} => by
          induction xs with
          | nil =>
            intro us e
            cases us with
            | nil => exact ⟨[], .nil, fun _ _ => .nil⟩
            | cons _ _ => cases e
          | cons y ys ih =>
            intro us e
            cases us with
            | nil => cases e
            | cons u us =>
              obtain ⟨e1, e2⟩ := (Bool.and_eq_true _ _).mp (show (kVal K n y u && kAll (kVal K n) ys us) = true from e)
              obtain ⟨v, r1, r2⟩ := kVal_ok n e1
              obtain ⟨vs, r3, r4⟩ := ih e2
              exact ⟨v :: vs, .cons r1 r3, fun ρ H => .cons (r2 ρ H) (r4 ρ H)⟩
        obtain ⟨vs, r1, r2⟩ := all h3
        exact ⟨.ref a, rfl, fun ρ H => .tup (.inr ⟨_, its, m, q, by rw [of_decide_eq_true h1], rfl, of_decide_eq_true h2, r1⟩) (r2 ρ H)⟩
      · cases h
    · cases h
/-- the name's value at the top -/
def KnV (K : PySem.W.Frag) (mg : Str → Option Value) (x : Str) (v : FV) : Prop := ∃ u, mg x = some u ∧ kVal K 6 v u = true
def kVar (x : Str) (v : FV) (K : PySem.W.Frag) : Bool := match PySem.W.nsIn K mainGlobals x with
  | some (some u) => kVal K 6 v u
  | _ => false
theorem knV_of {K : PySem.W.Frag} {h : Heap} {mg : Str → Option Value} {x : Str} {v : FV} (i : K.In h) (g : h.Ns mainGlobals mg) (c : kVar x v K = true) : KnV K mg x v := by
  unfold kVar at c
  split at c
  · rename_i u q
    exact ⟨u, PySem.W.mg_of i g q, c⟩
  · cases c
def sSetD (eo ei ev : EvE) : EvS := fun σ h => (ev σ h).toS σ fun v h1 => (eo σ h1).toS σ fun o h2 => (ei σ h2).toS σ fun i h3 => if isDic o h3 = true then (match setIxF o i v h3 with
  | some h4 => .nx σ h4
  | none => .stuck) else .stuck
theorem fs_dset {X : Cx} {W : Wsh} {o i v : Expr} {eo ei ev : EvE} {pos pos' : Pos} (hu : X.A.units + 1 < cLine) (ho : FE X W o eo) (hi : FE X W i ei) (hv : FE X W v ev) (hs : swapsWith v (some (.Subscript o i pos')) pos.line X.env = pure false := by rfl) :
    FS X W (.Assign [.Subscript o i pos'] v pos) (sSetD eo ei ev) := fs_setD hu ho hi hv hs
def sSetL (eo ei ev : EvE) : EvS := fun σ h => (ev σ h).toS σ fun v h1 => (eo σ h1).toS σ fun o h2 => (ei σ h2).toS σ fun i h3 => if isLst o h3 = true then (match setIxF o i v h3 with
  | some h4 => .nx σ h4
  | none => .stuck) else .stuck
theorem fs_lset {X : Cx} {W : Wsh} {o i v : Expr} {eo ei ev : EvE} {pos pos' : Pos} (ho : FE X W o eo) (hi : FE X W i ei) (hv : FE X W v ev) (hs : swapsWithSole [.Subscript o i pos'] v pos.line X.env = pure false := by rfl) (hw : swappedStores [.Subscript o i pos'] v X.env = pure none := by rfl)
    (h1 : (assignEach [.Subscript o i pos'] X.env).map (·.2) = [assign (.Subscript o i pos') X.env] := by rfl)
    (ha : ∀ v, assign (.Subscript o i pos') X.env v = (do let ov ← holding [v] (eval o X.env); let iv ← holding [v, ov] (eval i X.env); standAt pos'; holding [v, ov, iv] (setItem ov iv v); release [v, ov, iv] []) := by intro _; rfl) :
    FS X W (.Assign [.Subscript o i pos'] v pos) (sSetL eo ei ev) := fs_setL ho hi hv hs hw h1 ha
theorem lam_takes {X : Cx} {A : Around} {outer : List Env} {s : Shared} {H : Hp} {E : XK} {scope : Scope} {f c : Addr} {ρ : List Addr} : Takes (LamX.lamCx X A outer s H E scope f c) (WE' E ρ H).w := takes_of rfl rfl rfl rfl
theorem room_u1 {k : Nat} {A : Around} (r : Room k A) : A.units + 1 < cLine := by have := r.un; omega
theorem fe_glv {X : Cx} {W : Wsh} {x : Str} {v : FV} {pos : Pos} (h : KnV X.K X.mg x v) (hg : Gl X x := by rfl) (hd : (x == ("__debug__" : Str)) = false := by decide) : FE X W (.Name x pos) (cC v) := by
  obtain ⟨u, h1, h2⟩ := h
  obtain ⟨y, r1, r2⟩ := kVal_ok 6 h2
  exact pe_imp (pe_glob hg h1 r1 hd) fun σ H Q ⟨ρ, σf, h, rs, rh, p⟩ => Post.ok_ (x := v) p rh (r2 _ _)
end FX
set_option maxRecDepth 100000
set_option maxHeartbeats 4000000
namespace FX
open PySem PySem.Spec PyProof.Rows L2
/-! ### what the head tells -/
/-- the tables of the defs that make lambdas -/
def tabsOfDefs (tf : List He.Defn) (K : PySem.W.Frag) : List (Addr × Str) := tf.map fun p => ((He.cT K p).2, lamQ (p.1 ++ ".<locals>."))
/-- .. are apart -/
def apartB (tf : List He.Defn) (K : PySem.W.Frag) : Bool := decide ((tf.map fun p => (He.cT K p).2).Nodup)
theorem apart_one {α : Type} (f : α → Addr) : ∀ {l : List α}, (l.map f).Nodup → ∀ {p q : α}, p ∈ l → q ∈ l → f p = f q → p = q
  | [], _, _, _, hp, _, _ => nomatch hp
  | x :: l, nd, p, q, hp, hq, e => by
    have nd2 : f x ∉ l.map f ∧ (l.map f).Nodup := List.nodup_cons.mp (show (f x :: l.map f).Nodup from nd)
    rcases List.mem_cons.mp hp with e1 | hp1
    · rcases List.mem_cons.mp hq with e2 | hq1
      · rw [e1, e2]
      · exact absurd (List.mem_map.mpr ⟨q, hq1, by rw [← e, e1]⟩) nd2.1
    · rcases List.mem_cons.mp hq with e2 | hq1
      · exact absurd (List.mem_map.mpr ⟨p, hp1, by rw [e, e2]⟩) nd2.1
      · exact apart_one f nd2.2 hp1 hq1 e
section
variable {fa : List He.Fa} {fn : List He.DefD} {ts : List He.Tab} {tf : List He.Defn} {ex : PySem.W.Frag → Bool} {w : World} {h : Heap} {K : PySem.W.Frag}
theorem tabs_one (a : apartB tf K = true) {p : He.Defn} (hp : p ∈ tf) : ∀ q ∈ tabsOfDefs tf K, q.1 = (He.cT K p).2 → q.2 = lamQ (p.1 ++ ".<locals>.") := fun q hq e => by
  obtain ⟨r, hr, rfl⟩ := List.mem_map.mp hq
  rw [apart_one (fun p => (He.cT K p).2) (of_decide_eq_true a) hr hp e]
theorem tabs_mem {p : He.Defn} (hp : p ∈ tf) : ((He.cT K p).2, lamQ (p.1 ++ ".<locals>.")) ∈ tabsOfDefs tf K := List.mem_map.mpr ⟨p, hp, rfl⟩
theorem tabs_in : ∀ p ∈ tabsOfDefs tf K, p.1 ∈ (tf.map (He.cT K)).map (·.2) := fun q hq => by
  obtain ⟨r, hr, rfl⟩ := List.mem_map.mp hq
  exact List.mem_map_of_mem (List.mem_map_of_mem hr)
theorem code_of_def {x qual : Str} {params : Arguments} {body : List Stmt} {scope : Scope} {dvs : List V} {kws : List (Str × V)} {p : He.Defn} {fd : FuncData} (F : FunD K x qual params body scope dvs kws (He.fAd K p) fd) : fd.code = .ref (He.cT K p).1 := by
  obtain ⟨oc, od, dV, kV, doc, pm, an, cdv, ct, osl, rfl, lk, hcd, _, _⟩ := F.ex
  obtain ⟨c, rfl⟩ := He.codeIn_ref hcd
  have e := He.codeOf_eq (c := c) lk rfl
  show Value.ref c = .ref (He.codeOf K p)
  rw [e]
theorem law_of_says [LamT] {P : Program} {k n : Nat} {x : Str} {mg : Str → Option Value} {fa0 : Addr} {fd : FuncData} {g : Fn} (i : K.In h) (c : He.SaysX fa fn ts tf ex w h K) (hT : LamT.T K = tabsOfDefs tf K) (b : ∀ (s : Shared) (u : Value), BindsTo s fd ⟨[u], []⟩ [(x, u)])
    (pure : ∀ ns : List Int, ns.length ≤ n → (∀ i ∈ ns, Builtin.Int.intBits i ≤ 1048576) → ∃ h', g [.ref 0] [.ro (ns.map FV.int)] = .ok (.bl true) h')
    (F : ∀ base : Heap, K.In base → base.Ns mainGlobals mg → (∀ p ∈ tf, LamX.TabB base mg (He.cT K p).1 (He.cT K p).2) → FnF P w K mg base k fa0 fd [x] g) : LawF P w K k n x mg fa0 h := by
  refine ⟨fd, tf.map (He.cT K), g, fun p hp => ?_, fun p hp => ?_, fun p hp => ?_, by rw [hT]; exact tabs_in, b, pure, fun base a1 a2 a3 => F base a1 a2 fun p hp => a3 _ (List.mem_map_of_mem hp)⟩
  · obtain ⟨q, hq, rfl⟩ := List.mem_map.mp hp
    exact c.empty q hq
  · obtain ⟨q, hq, rfl⟩ := List.mem_map.mp hp
    exact c.out q hq
  · obtain ⟨q, hq, rfl⟩ := List.mem_map.mp hp
    exact PySem.W.codeHd_of_K i (c.hd q hq)
end
end FX
set_option maxRecDepth 100000
set_option maxHeartbeats 4000000
namespace FX
open PySem PySem.Spec PyProof.Rows L2
/-! ### the functions, step by step -/
section
variable {α β : Type} {σ : FSt} {h : FH} {x : α}
@[simp] theorem r_bind_ok {k : α → FH → Res β} : (Res.ok x h).bind k = k x h := rfl
@[simp] theorem r_bind_stuck {k : α → FH → Res β} : (Res.stuck : Res α).bind k = .stuck := rfl
@[simp] theorem r_toS_ok {k : α → FH → SR} : (Res.ok x h).toS σ k = k x h := rfl
@[simp] theorem r_of_some {h : FH} : Res.of (some (x, h)) = .ok x h := rfl
@[simp] theorem then_nx {k : EvS} : (SR.nx σ h).then_ k = k σ h := rfl
@[simp] theorem then_rt {v : FV} {k : EvS} : (SR.rt v h).then_ k = .rt v h := rfl
@[simp] theorem then_bk {k : EvS} : (SR.bk σ h).then_ k = .bk σ h := rfl
@[simp] theorem then_ct {k : EvS} : (SR.ct σ h).then_ k = .ct σ h := rfl
variable {g g' : Op2} {ea eb ec : EvE} {er : EvA} {ta tb : EvT} {ei : EvI}
@[simp] theorem a_cC {v : FV} : cC v σ h = .ok v h := rfl
@[simp] theorem a_cVar {i : Nat} : cVar i σ h = match σ[i]? with
  | some (some v) => .ok v h
  | _ => .stuck := rfl
@[simp] theorem a_cNil : cNil σ h = .ok [] h := rfl
@[simp] theorem a_cCons : cCons ea er σ h = (ea σ h).bind fun x h1 => (er σ h1).bind fun xs h2 => .ok (x :: xs) h2 := rfl
@[simp] theorem a_cBin : cBin g ea eb σ h = (ea σ h).bind fun x h1 => (eb σ h1).bind fun y h2 => Res.of (g x y h2) := rfl
@[simp] theorem a_cTb : cTb ea σ h = (ea σ h).bind fun x h1 => match x with
  | .bl b => .ok b h1
  | _ => .stuck := rfl
@[simp] theorem a_cAndT : cAndT ta tb σ h = (ta σ h).bind fun b h1 => if b = true then tb σ h1 else .ok false h1 := rfl
@[simp] theorem a_cOrT : cOrT ta tb σ h = (ta σ h).bind fun b h1 => if b = true then .ok true h1 else tb σ h1 := rfl
@[simp] theorem a_cNotT : cNotT ta σ h = (ta σ h).bind fun b h1 => .ok (!b) h1 := rfl
@[simp] theorem a_cIf : cIf ta ea eb σ h = (ta σ h).bind fun k h1 => if k = true then ea σ h1 else eb σ h1 := rfl
@[simp] theorem a_cTru : cTru ea σ h = (ea σ h).bind fun x h1 => match truF x h1 with
  | some b => .ok b h1
  | none => .stuck := rfl
@[simp] theorem truF_bl {b : Bool} : truF (.bl b) h = some b := rfl
@[simp] theorem a_cCB {g : OpN} : cCB g er σ h = (er σ h).bind fun xs h1 => Res.of (g xs h1) := rfl
@[simp] theorem a_cCall {n : Nat} {g : Fn} : cCall n g er σ h = (er σ h).bind fun xs h1 => if xs.length = n then g xs h1 else .stuck := rfl
@[simp] theorem a_cTup : cTup er σ h = (er σ h).bind fun xs h1 => if small xs.length = true then .ok (.tup xs) h1 else .stuck := rfl
@[simp] theorem a_cLst : cLst er σ h = (er σ h).bind fun xs h1 => if small xs.length = true then .ok (.ref h1.length) (h1 ++ [.lst xs]) else .stuck := rfl
@[simp] theorem a_cDic0 : cDic0 σ h = .ok (.ref h.length) (h ++ [.dic []]) := rfl
@[simp] theorem a_cIt : cIt ea σ h = (ea σ h).bind fun x h1 => match x with
  | .tup xs => .ok (.seq xs) h1
  | .ref n => (match lstF n h1 with
    | some _ => .ok (.own n) h1
    | none => .stuck)
  | _ => .stuck := rfl
@[simp] theorem a_sRet : sRet ea σ h = (ea σ h).toS σ fun v h1 => .rt v h1 := rfl
@[simp] theorem a_sRetN : sRetN σ h = .rt .non h := rfl
@[simp] theorem a_sExpr : sExpr ea σ h = (ea σ h).toS σ fun _ h1 => .nx σ h1 := rfl
@[simp] theorem a_sSkip : sSkip σ h = .nx σ h := rfl
@[simp] theorem a_sBrk : sBrk σ h = .bk σ h := rfl
@[simp] theorem a_sSeq {a b : EvS} : sSeq a b σ h = (a σ h).then_ b := rfl
@[simp] theorem a_sAsg {i : Nat} : sAsg i ea σ h = (ea σ h).toS σ fun v h1 => .nx (σ.set i (some v)) h1 := rfl
@[simp] theorem a_sIf {a b : EvS} : sIf ta a b σ h = (ta σ h).toS σ fun k h1 => if k = true then a σ h1 else b σ h1 := rfl
@[simp] theorem a_sAsgT {t : Tg} : sAsgT t ea σ h = (ea σ h).toS σ fun v h1 => match setT t v σ with
  | some σ' => .nx σ' h1
  | none => .stuck := rfl
@[simp] theorem a_sPar {i j : Nat} : sPar i j er σ h = (er σ h).toS σ fun xs h1 => match xs with
  | [v, w] => .nx ((σ.set i (some v)).set j (some w)) h1
  | _ => .stuck := rfl
@[simp] theorem a_sPar3 {i j k : Nat} : sPar3 i j k er σ h = (er σ h).toS σ fun xs h1 => match xs with
  | [v, w, u] => .nx (((σ.set i (some v)).set j (some w)).set k (some u)) h1
  | _ => .stuck := rfl
@[simp] theorem setT_nm {i : Nat} {v : FV} : setT (.nm i) v σ = some (σ.set i (some v)) := rfl
@[simp] theorem setT_tp {ts : List Tg} {xs : List FV} : setT (.tp ts) (.tup xs) σ = setTs ts xs σ := rfl
@[simp] theorem setTs_nil : setTs [] [] σ = some σ := rfl
@[simp] theorem setTs_cons {t : Tg} {ts : List Tg} {x : FV} {xs : List FV} : setTs (t :: ts) (x :: xs) σ = match setT t x σ with
  | some σ' => setTs ts xs σ'
  | none => none := rfl
@[simp] theorem a_cLM {g : OpM} : cLM g ea er σ h = (ea σ h).bind fun x h1 => if isLst x h1 = true then ((er σ h1).bind fun xs h2 => Res.of (g x xs h2)) else .stuck := rfl
@[simp] theorem add_int {i j : Int} : addF (.int i) (.int j) h = some (.int (i + j), h) := rfl
@[simp] theorem sub_int {i j : Int} : subF (.int i) (.int j) h = some (.int (i - j), h) := rfl
@[simp] theorem lt_int {i j : Int} : ltF (.int i) (.int j) h = some (.bl (decide (i < j)), h) := rfl
@[simp] theorem le_int {i j : Int} : leF (.int i) (.int j) h = some (.bl (decide (i ≤ j)), h) := rfl
@[simp] theorem gt_int {i j : Int} : gtF (.int i) (.int j) h = some (.bl (decide (j < i)), h) := rfl
@[simp] theorem ge_int {i j : Int} : geF (.int i) (.int j) h = some (.bl (decide (j ≤ i)), h) := rfl
theorem eq_int_ (i j : Int) : eqF (.int i) (.int j) h = some (.bl (i == j), h) := by
  show some (FV.bl (PyData.eqv (.int i) (.int j)), h) = _
  simp only [PyData.eqv]
@[simp] theorem eq_int (i j : Int) : eqF (.int i) (.int j) h = some (.bl (decide (i = j)), h) := by
  rw [eq_int_]
  by_cases q : i = j
  · rw [decide_eq_true q, beq_iff_eq.mpr q]
  · rw [decide_eq_false q, beq_eq_false_iff_ne.mpr q]
@[simp] theorem ne_int (i j : Int) : neF (.int i) (.int j) h = some (.bl (!decide (i = j)), h) := by
  have e : neF (.int i) (.int j) h = some (.bl (!PyData.eqv (.int i) (.int j)), h) := rfl
  have e2 := eq_int (h := h) i j
  have e3 : eqF (.int i) (.int j) h = some (.bl (PyData.eqv (.int i) (.int j)), h) := rfl
  rw [e3] at e2
  have e4 : PyData.eqv (.int i) (.int j) = decide (i = j) := by injection e2 with e2; injection e2 with e2; injection e2
  rw [e, e4]
theorem x_mul {i j : Int} (a : sm i = true) (b : sm j = true) : mulF (.int i) (.int j) h = some (.int (i * j), h) := by
  have e : mulF (.int i) (.int j) h = if (sm i && sm j) = true then some (.int (i * j), h) else none := rfl
  rw [e, a, b]; rfl
theorem x_mod {i j : Int} (a : j ≠ 0) : modF (.int i) (.int j) h = some (.int (i.fmod j), h) := if_pos a
theorem x_div {i j : Int} (a : j ≠ 0) (b : sm j = true) : divF (.int i) (.int j) h = some (.int (i.fdiv j), h) := if_pos ⟨a, b⟩
theorem sm_of {i : Int} {n : Nat} (a : i.natAbs ≤ n) (b : n ≤ 10 ^ 2000) : sm i = true := decide_eq_true (Nat.lt_of_le_of_lt (Nat.le_trans a b) (by unfold BIG; decide +kernel))
theorem sm_mul {i j : Int} {a b : Nat} (h1 : i.natAbs ≤ 10 ^ a) (h2 : j.natAbs ≤ 10 ^ b) (h3 : a + b ≤ 2000) : sm (i * j) = true := by
  refine sm_of (n := 10 ^ (a + b)) ?_ (Nat.pow_le_pow_right (by decide) h3)
  rw [Int.natAbs_mul, Nat.pow_add]
  exact Nat.mul_le_mul h1 h2
@[simp] theorem a_cNeg : cNeg ea σ h = (ea σ h).bind fun x h1 => match x with
  | .int i => .ok (.int (-i)) h1
  | _ => .stuck := rfl
@[simp] theorem abs_int {i : Int} : absF [.int i] h = some (.int i.natAbs, h) := by
  have e : absF [.int i] h = some (.int (if i < 0 then -i else i), h) := rfl
  rw [e]
  have : (if i < 0 then -i else i) = (i.natAbs : Int) := by split <;> omega
  rw [this]
@[simp] theorem int_int {i : Int} : intF [.int i] h = some (.int i, h) := rfl
theorem x_divmod {i j : Int} (a : 0 < j) (b : sm j = true) : divmodF [.int i, .int j] h = some (.tup [.int (i / j), .int (i % j)], h) := if_pos ⟨a, b⟩
@[simp] theorem a_cOr : cOr ea eb σ h = (ea σ h).bind fun x h1 => match x with
  | .bl b => if b = true then .ok (.bl true) h1 else eb σ h1
  | _ => .stuck := by
  show (ea σ h).bind _ = _
  congr
  funext x h1
  cases x with
  | bl b => cases b <;> rfl
  | _ => rfl
@[simp] theorem a_cAnd : cAnd ea eb σ h = (ea σ h).bind fun x h1 => match x with
  | .bl b => if b = true then eb σ h1 else .ok (.bl false) h1
  | _ => .stuck := by
  show (ea σ h).bind _ = _
  congr
  funext x h1
  cases x with
  | bl b => cases b <;> rfl
  | _ => rfl
@[simp] theorem a_cNot : cNot ea σ h = (ea σ h).bind fun x h1 => match x with
  | .bl b => .ok (.bl (!b)) h1
  | _ => .stuck := rfl
@[simp] theorem a_cChain : cChain g g' ea eb ec σ h = (ea σ h).bind fun x h1 => (eb σ h1).bind fun y h2 => (Res.of (g x y h2)).bind fun k h3 => match k with
  | .bl b => if b = true then (ec σ h3).bind fun z h4 => Res.of (g' y z h4) else .ok (.bl false) h3
  | _ => .stuck := by
  show (ea σ h).bind _ = _
  congr
  funext x h1
  congr
  funext y h2
  congr
  funext k h3
  cases k with
  | bl b => cases b <;> rfl
  | _ => rfl
@[simp] theorem in_int2 {x a b : Int} : inF (.int x) (.tup [.int a, .int b]) h = some (.bl (decide (x = a) || decide (x = b)), h) := by
  have e : inF (.int x) (.tup [.int a, .int b]) h = some (.bl ((PyData.eqv (.int a) (.int x)) || ((PyData.eqv (.int b) (.int x)) || false)), h) := rfl
  rw [e]
  simp only [PyData.eqv, Bool.or_false]
  have q : ∀ u v : Int, (u == v) = decide (v = u) := fun u v => by
    by_cases z : v = u
    · subst z; simp
    · rw [decide_eq_false z, beq_eq_false_iff_ne.mpr (fun y => z y.symm)]
  rw [q, q]
@[simp] theorem nin_int2 {x a b : Int} : ninF (.int x) (.tup [.int a, .int b]) h = some (.bl (!(decide (x = a) || decide (x = b))), h) := by
  have e : ninF (.int x) (.tup [.int a, .int b]) h = some (.bl (!((PyData.eqv (.int a) (.int x)) || ((PyData.eqv (.int b) (.int x)) || false))), h) := rfl
  rw [e]
  simp only [PyData.eqv, Bool.or_false]
  have q : ∀ u v : Int, (u == v) = decide (v = u) := fun u v => by
    by_cases z : v = u
    · subst z; simp
    · rw [decide_eq_false z, beq_eq_false_iff_ne.mpr (fun y => z y.symm)]
  rw [q, q]
@[simp] theorem in_int3 {x a b c : Int} : inF (.int x) (.tup [.int a, .int b, .int c]) h = some (.bl (decide (x = a) || (decide (x = b) || decide (x = c))), h) := by
  have e : inF (.int x) (.tup [.int a, .int b, .int c]) h = some (.bl ((PyData.eqv (.int a) (.int x)) || ((PyData.eqv (.int b) (.int x)) || ((PyData.eqv (.int c) (.int x)) || false))), h) := rfl
  rw [e]
  simp only [PyData.eqv, Bool.or_false]
  have q : ∀ u v : Int, (u == v) = decide (v = u) := fun u v => by
    by_cases z : v = u
    · subst z; simp
    · rw [decide_eq_false z, beq_eq_false_iff_ne.mpr (fun y => z y.symm)]
  rw [q, q, q]
@[simp] theorem small_ok {n : Nat} (a : n ≤ 1000) : small n = true := decide_eq_true (Nat.le_trans a (by decide +kernel))
def lm (i : Int) : Prop := i.natAbs ≤ 10 ^ 600
theorem lm.sm {i : Int} (a : lm i) : sm i = true := sm_of a (Nat.pow_le_pow_right (by decide) (by decide))
theorem lm_le {i : Int} {n : Nat} (a : i.natAbs ≤ n) (b : n ≤ 10 ^ 600) : lm i := Nat.le_trans a b
theorem cDef_rt {n : Nat} {ev : EvS} {xs : List FV} {h h' : FH} {v : FV} (e : ev (xs.map some ++ List.replicate (n - xs.length) none) h = .rt v h') : cDef n ev xs h = .ok v h' := by
  unfold cDef; rw [e]
end
end FX
set_option maxRecDepth 100000
set_option maxHeartbeats 4000000
namespace FX
open PySem PySem.Spec PyProof.Rows L2
/-! ### lists of the heap -/
section
variable {h : FH} {j : Nat} {σ : FSt}
theorem ix_lst {xs : List FV} {i : Int} {v : FV} (e : h[j]? = some (.lst xs)) (q : atI xs i = some v) : ixF (.ref j) (.int i) h = some (v, h) := by
  have e1 : seqF (.ref j) h = some xs := by unfold seqF; simp only [e]
  unfold ixF
  simp only [e1, q]
theorem ix_ro {xs : List FV} {i : Int} {v : FV} (e : h[j]? = some (.ro xs)) (q : atI xs i = some v) : ixF (.ref j) (.int i) h = some (v, h) := by
  have e1 : seqF (.ref j) h = some xs := by unfold seqF; simp only [e]
  unfold ixF
  simp only [e1, q]
theorem ix_tup {xs : List FV} {i : Int} {v : FV} (q : atI xs i = some v) : ixF (.tup xs) (.int i) h = some (v, h) := by
  have e1 : seqF (.tup xs) h = some xs := rfl
  unfold ixF
  simp only [e1, q]
theorem isLst_of {xs : List FV} (e : h[j]? = some (.lst xs)) : isLst (.ref j) h = true := by unfold isLst; simp only [e]
theorem len_lst {xs : List FV} (e : h[j]? = some (.lst xs)) : lenF [.ref j] h = some (.int xs.length, h) := by
  have e1 : seqF (.ref j) h = some xs := by unfold seqF; simp only [e]
  unfold lenF
  simp only [e1]
theorem len_ro {xs : List FV} (e : h[j]? = some (.ro xs)) : lenF [.ref j] h = some (.int xs.length, h) := by
  have e1 : seqF (.ref j) h = some xs := by unfold seqF; simp only [e]
  unfold lenF
  simp only [e1]
@[simp] theorem len_tup {xs : List FV} : lenF [.tup xs] h = some (.int xs.length, h) := rfl
@[simp] theorem a_sSetL {eo ei ev : EvE} : sSetL eo ei ev σ h = (ev σ h).toS σ fun v h1 => (eo σ h1).toS σ fun o h2 => (ei σ h2).toS σ fun i h3 => if isLst o h3 = true then (match setIxF o i v h3 with
  | some h4 => .nx σ h4
  | none => .stuck) else .stuck := rfl
@[simp] theorem a_sSetD {eo ei ev : EvE} : sSetD eo ei ev σ h = (ev σ h).toS σ fun v h1 => (eo σ h1).toS σ fun o h2 => (ei σ h2).toS σ fun i h3 => if isDic o h3 = true then (match setIxF o i v h3 with
  | some h4 => .nx σ h4
  | none => .stuck) else .stuck := rfl
/-! ### beside one place -/
def Bes (j : Nat) (h h' : FH) : Prop := h.length ≤ h'.length ∧ ∀ i, i ≠ j → i < h.length → h'[i]? = h[i]?
theorem Bes.refl : Bes j h h := ⟨Nat.le_refl _, fun _ _ _ => rfl⟩
theorem Bes.trans {h1 h2 : FH} (a : Bes j h h1) (b : Bes j h1 h2) : Bes j h h2 := ⟨Nat.le_trans a.1 b.1, fun i n l => (b.2 i n (Nat.lt_of_lt_of_le l a.1)).trans (a.2 i n l)⟩
theorem Bes.set {o : FO} : Bes j h (h.set j o) := ⟨by simp, fun i n _ => List.getElem?_set_ne (Ne.symm n)⟩
theorem Bes.app {l : FH} : Bes j h (h ++ l) := ⟨by simp, fun i _ q => List.getElem?_append_left q⟩
theorem Bes.at_ {h' : FH} (b : Bes j h h') {i : Nat} {o : FO} (n : i ≠ j) (e : h[i]? = some o) : h'[i]? = some o := (b.2 i n (List.getElem?_eq_some_iff.mp e).1).trans e
/-- all stays -/
def Grw (h h' : FH) : Prop := h.length ≤ h'.length ∧ ∀ i, i < h.length → h'[i]? = h[i]?
theorem Grw.refl : Grw h h := ⟨Nat.le_refl _, fun _ _ => rfl⟩
theorem Grw.trans {h1 h2 : FH} (a : Grw h h1) (b : Grw h1 h2) : Grw h h2 := ⟨Nat.le_trans a.1 b.1, fun i l => (b.2 i (Nat.lt_of_lt_of_le l a.1)).trans (a.2 i l)⟩
theorem Grw.app {l : FH} : Grw h (h ++ l) := ⟨by simp, fun i q => List.getElem?_append_left q⟩
theorem Grw.at_ {h' : FH} (b : Grw h h') {i : Nat} {o : FO} (e : h[i]? = some o) : h'[i]? = some o := (b.2 i (List.getElem?_eq_some_iff.mp e).1).trans e
theorem Grw.bes {h' : FH} (b : Grw h h') : Bes j h h' := ⟨b.1, fun i _ l => b.2 i l⟩
/-- what was made behind and written there -/
theorem Grw.behind {h' : FH} (b : Grw h h') {n : Nat} {o : FO} (l : h.length ≤ n) : Grw h (h'.set n o) := ⟨by simpa using b.1, fun i q => by rw [List.getElem?_set_ne (by omega)]; exact b.2 i q⟩
/-! ### the jar: digits, stirred, count -/
structure Jar (j n : Nat) (h : FH) : Prop where
  ex : ∃ d s c : Int, h[j]? = some (.lst [.int d, .int s, .int c]) ∧ 0 ≤ d ∧ d < 10 ^ 200 ∧ 0 ≤ s ∧ s < 2147483648 ∧ 0 ≤ c ∧ c ≤ n
theorem Jar.mono {n m : Nat} (J : Jar j n h) (l : n ≤ m) : Jar j m h := let ⟨d, s, c, e, a1, a2, a3, a4, a5, a6⟩ := J.ex; ⟨d, s, c, e, a1, a2, a3, a4, a5, by omega⟩
theorem Jar.grw {n : Nat} {h' : FH} (J : Jar j n h) (b : Grw h h') : Jar j n h' := let ⟨d, s, c, e, r⟩ := J.ex; ⟨d, s, c, b.at_ e, r⟩
theorem Jar.lt {n : Nat} (J : Jar j n h) : j < h.length := let ⟨_, _, _, e, _⟩ := J.ex; (List.getElem?_eq_some_iff.mp e).1
end
def jPoolE : EvS := (sSeq (sAsgT (.tp [(.nm 1), (.nm 2)]) (cTup (cCons (cC (.int 0)) (cCons (cC (.int 7)) cNil))))
    (sSeq (sFor (cRng1 (cCons (cCB lenF (cCons (cVar 0) cNil)) cNil)) (.nm 3) (sSeq (sAsg 4 (cIf (cTb (cBin geF (cBin ixF (cVar 0) (cVar 3)) (cC (.int 0)))) (cCB intF (cCons (cBin ixF (cVar 0) (cVar 3)) cNil)) (cCB intF (cCons (cBin subF (cNeg (cC (.int 1))) (cBin ixF (cVar 0) (cVar 3))) cNil))))
    (sSeq (sAsg 2 (cBin modF (cCB intF (cCons (cBin addF (cBin addF (cBin mulF (cVar 2) (cC (.int 48271))) (cBin modF (cVar 4) (cC (.int 2147483629)))) (cC (.int 11))) cNil)) (cC (.int 2147483647))))
    (sAsg 1 (cIf (cAndT (cTb (cBin geF (cVar 4) (cBin powF (cC (.int 10)) (cC (.int 12))))) (cTb (cBin ltF (cVar 1) (cBin powF (cC (.int 10)) (cC (.int 60)))))) (cCB intF (cCons (cBin addF (cBin mulF (cVar 1) (cBin powF (cC (.int 10)) (cC (.int 60)))) (cBin modF (cVar 4) (cBin powF (cC (.int 10)) (cC (.int 60))))) cNil)) (cVar 1))))))
    (sRet (cLst (cCons (cVar 1) (cCons (cVar 2) (cCons (cC (.int 0)) cNil)))))))
def jPool : Fn := cDef 5 jPoolE
def jTakeE : EvS := (sSeq (sIf (cTb (cBin gtF (cBin ixF (cVar 0) (cC (.int 0))) (cC (.int 0)))) (sSeq (sAsg 2 (cBin modF (cCB intF (cCons (cBin ixF (cVar 0) (cC (.int 0))) cNil)) (cVar 1)))
    (sSeq (sSetL (cVar 0) (cC (.int 0)) (cBin divF (cBin ixF (cVar 0) (cC (.int 0))) (cVar 1)))
    (sRet (cVar 2)))) sSkip)
    (sSeq (sSetL (cVar 0) (cC (.int 2)) (cBin addF (cBin ixF (cVar 0) (cC (.int 2))) (cC (.int 1))))
    (sSeq (sSetL (cVar 0) (cC (.int 1)) (cBin modF (cCB intF (cCons (cBin addF (cBin addF (cBin mulF (cBin ixF (cVar 0) (cC (.int 1))) (cC (.int 39373))) (cBin mulF (cC (.int 7919)) (cBin ixF (cVar 0) (cC (.int 2))))) (cC (.int 7))) cNil)) (cC (.int 2147483647))))
    (sRet (cBin modF (cCB intF (cCons (cBin divF (cBin modF (cCB intF (cCons (cBin mulF (cBin ixF (cVar 0) (cC (.int 1))) (cBin ixF (cVar 0) (cC (.int 1)))) cNil)) (cC (.int 2147483629))) (cC (.int 32))) cNil)) (cVar 1))))))
def jTake : Fn := cDef 3 jTakeE
def jOneE : EvS := (sRet (cBin ixF (cVar 1) (cCall 2 jTake (cCons (cVar 0) (cCons (cCB lenF (cCons (cVar 1) cNil)) cNil)))))
def jOne : Fn := cDef 2 jOneE

section
variable {h : FH} {j n : Nat}
theorem set3_0 {a b c v : FV} (e : h[j]? = some (.lst [a, b, c])) : setIxF (.ref j) (.int 0) v h = some (h.set j (.lst [v, b, c])) := by unfold setIxF; simp only [e]; rfl
theorem set3_1 {a b c v : FV} (e : h[j]? = some (.lst [a, b, c])) : setIxF (.ref j) (.int 1) v h = some (h.set j (.lst [a, v, c])) := by unfold setIxF; simp only [e]; rfl
theorem set3_2 {a b c v : FV} (e : h[j]? = some (.lst [a, b, c])) : setIxF (.ref j) (.int 2) v h = some (h.set j (.lst [a, b, v])) := by unfold setIxF; simp only [e]; rfl
theorem jTake_ok (J : Jar j n h) (hn : n < 10 ^ 12) {m : Int} (m0 : 0 < m) (ms : sm m = true) : ∃ (f : Int) (h' : FH), jTake [.ref j, .int m] h = .ok (.int f) h' ∧ 0 ≤ f ∧ f < m ∧ Jar j (n + 1) h' ∧ Bes j h h' := by
  obtain ⟨d, s, c, e, d0, d1, s0, s1, c0, c1⟩ := J.ex
  have mz : m ≠ 0 := by omega
  have lt := J.lt
  have i0 := ix_lst (i := 0) (v := .int d) e rfl
  have i1 := ix_lst (i := 1) (v := .int s) e rfl
  have i2 := ix_lst (i := 2) (v := .int c) e rfl
  by_cases q : 0 < d
  · refine ⟨d.fmod m, h.set j (.lst [.int (d.fdiv m), .int s, .int c]), ?_, Int.fmod_nonneg_of_pos d m0, Int.fmod_lt_of_pos d m0, ⟨_, _, _, List.getElem?_set_self lt, ?_, ?_, s0, s1, c0, by omega⟩, .set⟩
    · simp [jTake, jTakeE, cDef, i0, q, x_mod, x_div, mz, ms, isLst_of e, set3_0 e]
    · rw [Int.fdiv_eq_ediv_of_nonneg _ (by omega)]
      exact Int.ediv_nonneg d0 (by omega)
    · rw [Int.fdiv_eq_ediv_of_nonneg _ (by omega)]
      exact Int.lt_of_le_of_lt (Int.ediv_le_self _ d0) d1
  · have e2 : (h.set j (.lst [.int d, .int s, .int (c + 1)]))[j]? = some (.lst [.int d, .int s, .int (c + 1)]) := List.getElem?_set_self lt
    have e3 : ∀ z : Int, (h.set j (.lst [.int d, .int z, .int (c + 1)]))[j]? = some (.lst [.int d, .int z, .int (c + 1)]) := fun z => List.getElem?_set_self lt
    have k1 : ∀ z : Int, ixF (.ref j) (.int 1) (h.set j (.lst [.int d, .int z, .int (c + 1)])) = some (.int z, h.set j (.lst [.int d, .int z, .int (c + 1)])) := fun z => ix_lst (i := 1) (v := .int z) (e3 z) rfl
    have k2 := ix_lst (i := 2) (v := .int (c + 1)) (e3 s) rfl
    have t1 : sm s = true := sm_of (n := 2147483648) (by omega) (by decide +kernel)
    have t2 : sm (c + 1) = true := sm_of (n := 10 ^ 12 + 1) (by omega) (by decide +kernel)
    have t3 : sm 39373 = true := by decide +kernel
    have t4 : sm 7919 = true := by decide +kernel
    have t5 : sm 32 = true := by decide +kernel
    obtain ⟨s', hs'⟩ : ∃ s', s' = (s * 39373 + 7919 * (c + 1) + 7).fmod 2147483647 := ⟨_, rfl⟩
    have b1 : 0 ≤ s' := by rw [hs']; exact Int.fmod_nonneg_of_pos _ (by decide)
    have b2 : s' < 2147483647 := by rw [hs']; exact Int.fmod_lt_of_pos _ (by decide)
    have t6 : sm s' = true := sm_of (n := 2147483648) (by omega) (by decide +kernel)
    refine ⟨(((s' * s').fmod 2147483629).fdiv 32).fmod m, h.set j (.lst [.int d, .int s', .int (c + 1)]), ?_, Int.fmod_nonneg_of_pos _ m0, Int.fmod_lt_of_pos _ m0, ⟨_, _, _, e3 s', d0, d1, b1, by omega, by omega, by omega⟩, .set⟩
    simp [jTake, jTakeE, cDef, i0, i1, i2, q, x_mod, x_div, x_mul, mz, ms, isLst_of e, isLst_of e2, set3_2 e, set3_1 e2, k1, k2, t1, t2, t3, t4, t5, t6, ← hs']
theorem jOne_ok (J : Jar j n h) (hn : n < 10 ^ 12) {xs : List FV} {t : Nat} (e : h[t]? = some (.lst xs)) (nj : t ≠ j) (x0 : xs ≠ []) (xl : xs.length ≤ 1000) : ∃ (x : FV) (h' : FH), jOne [.ref j, .ref t] h = .ok x h' ∧ x ∈ xs ∧ Jar j (n + 1) h' ∧ Bes j h h' := by
  have l0 : 0 < xs.length := List.length_pos_iff.mpr x0
  obtain ⟨f, h', e1, f0, f1, J', B⟩ := jTake_ok J hn (m := xs.length) (by omega) (sm_of (n := 1000) (by omega) (by decide +kernel))
  have e2 := B.at_ nj e
  have hf : f.toNat < xs.length := by omega
  have at_ : atI xs f = some xs[f.toNat] := by
    unfold atI ixN
    rw [if_pos f0, if_pos f1]
    simp [hf]
  refine ⟨xs[f.toNat], h', ?_, List.getElem_mem hf, J', B⟩
  simp [jOne, jOneE, cDef, len_lst e, e1, ix_lst e2 at_]
end

/-! ### loops -/
theorem forG_loop {s : Src} {t : Tg} {b : EvS} {P : Nat → FSt → FH → Prop} {B : FSt → FH → Prop} {n : Nat} (done : ∀ σ h, P n σ h → nextI s n h = some none)
    (step : ∀ i σ h, i < n → P i σ h → ∃ (x : FV) (σ1 σ2 : FSt) (h2 : FH), nextI s i h = some (some x) ∧ setT t x σ = some σ1 ∧ ((b σ1 h = .nx σ2 h2 ∧ P (i + 1) σ2 h2) ∨ (b σ1 h = .ct σ2 h2 ∧ P (i + 1) σ2 h2) ∨ (b σ1 h = .bk σ2 h2 ∧ B σ2 h2))) :
    ∀ (m i f : Nat) (σ : FSt) (h : FH), i + m = n → m < f → P i σ h → ∃ (σ' : FSt) (h' : FH), forG s t b f i σ h = .nx σ' h' ∧ (P n σ' h' ∨ B σ' h')
  | 0, i, f + 1, σ, h, e, _, p => by
    have e' : i = n := by omega
    subst e'
    exact ⟨σ, h, by unfold forG; rw [done σ h p], .inl p⟩
  | m + 1, i, f + 1, σ, h, e, l, p => by
    obtain ⟨x, σ1, σ2, h2, e1, e2, q⟩ := step i σ h (by omega) p
    unfold forG
    rw [e1]
    simp only [e2]
    rcases q with ⟨q, p2⟩ | ⟨q, p2⟩ | ⟨q, p2⟩
    · rw [q]
      exact forG_loop done step m (i + 1) f σ2 h2 (by omega) (by omega) p2
    · rw [q]
      exact forG_loop done step m (i + 1) f σ2 h2 (by omega) (by omega) p2
    · rw [q]
      exact ⟨σ2, h2, rfl, .inr p2⟩
theorem sFor_loop {ei : EvI} {s : Src} {t : Tg} {b : EvS} (P : Nat → FSt → FH → Prop) (B : FSt → FH → Prop) (n : Nat) {σ : FSt} {h h1 : FH} (e : ei σ h = .ok s h1) (el : lenI s h1 = n) (p0 : P 0 σ h1) (done : ∀ σ h, P n σ h → nextI s n h = some none)
    (step : ∀ i σ h, i < n → P i σ h → ∃ (x : FV) (σ1 σ2 : FSt) (h2 : FH), nextI s i h = some (some x) ∧ setT t x σ = some σ1 ∧ ((b σ1 h = .nx σ2 h2 ∧ P (i + 1) σ2 h2) ∨ (b σ1 h = .ct σ2 h2 ∧ P (i + 1) σ2 h2) ∨ (b σ1 h = .bk σ2 h2 ∧ B σ2 h2))) :
    ∃ (σ' : FSt) (h' : FH), sFor ei t b σ h = .nx σ' h' ∧ (P n σ' h' ∨ B σ' h') := by
  unfold sFor
  rw [e, r_toS_ok, el]
  exact forG_loop done step n 0 (n + 1) σ h1 (by omega) (by omega) p0
theorem rng_some {lo : Int} {k i : Nat} {h : FH} (l : i < k) : nextI (.rng lo k) i h = some (some (.int (lo + i))) := by simp [nextI, l]
theorem rng_none {lo : Int} {k : Nat} {h : FH} : nextI (.rng lo k) k h = some none := by simp [nextI]
theorem bnd_of {i : Int} (a : -1000000 ≤ i) (b : i ≤ 1000000) : bnd i = true := decide_eq_true ⟨by omega, by omega⟩
theorem cRng1_int {er : EvA} {σ : FSt} {h h1 : FH} {j : Int} (e : er σ h = .ok [.int j] h1) (b0 : -1000000 ≤ j) (b : j ≤ 1000000) : cRng1 er σ h = .ok (.rng 0 j.toNat) h1 := by
  unfold cRng1
  rw [e]
  show (if bnd j = true then Res.ok (Src.rng 0 j.toNat) h1 else .stuck) = _
  rw [bnd_of b0 b]
  rfl
theorem cRng1_nat {er : EvA} {σ : FSt} {h h1 : FH} {n : Nat} (e : er σ h = .ok [.int n] h1) (b : n ≤ 1000000) : cRng1 er σ h = .ok (.rng 0 n) h1 := by
  rw [cRng1_int e (by omega) (by omega), Int.toNat_natCast]
theorem cRng2_int {er : EvA} {σ : FSt} {h h1 : FH} {i j : Int} (e : er σ h = .ok [.int i, .int j] h1) (a0 : -1000000 ≤ i) (a : i ≤ 1000000) (b0 : -1000000 ≤ j) (b : j ≤ 1000000) : cRng2 er σ h = .ok (.rng i (j - i).toNat) h1 := by
  unfold cRng2
  rw [e]
  show (if (bnd i && bnd j) = true then Res.ok (Src.rng i (j - i).toNat) h1 else .stuck) = _
  rw [bnd_of a0 a, bnd_of b0 b]
  rfl
theorem pow_int {i j : Int} {h : FH} (a : 0 ≤ j) (b : j ≤ 1000000) (c : i.natAbs < 2 ^ 64) : powF (.int i) (.int j) h = some (.int (i ^ j.toNat), h) := if_pos ⟨a, b, c⟩
theorem pow_ten {j : Int} {h : FH} (a : 0 ≤ j := by decide) (b : j ≤ 1000000 := by decide) : powF (.int 10) (.int j) h = some (.int (10 ^ j.toNat), h) := pow_int a b (by decide)
theorem atI_nat {α : Type} {xs : List α} {i : Nat} {x : α} (e : xs[i]? = some x) : atI xs (i : Int) = some x := by
  have l := (List.getElem?_eq_some_iff.mp e).1
  unfold atI ixN
  rw [if_pos (by omega), if_pos (by omega)]
  simp [e]
end FX
set_option maxRecDepth 100000
set_option maxHeartbeats 4000000
namespace FX
open PySem PySem.Spec PyProof.Rows L2
/-! ### the jar's making -/
def T60 : Int := 10 ^ 60
theorem sm_T60 : sm T60 = true := by decide +kernel
theorem T60_pos : 0 < T60 := by decide +kernel
theorem T60_ne : T60 ≠ 0 := by decide +kernel
theorem T60_sq : T60 * T60 < 10 ^ 200 := by decide +kernel
theorem pow60 {h : FH} : powF (.int 10) (.int 60) h = some (.int T60, h) := pow_int (by decide) (by decide) (by decide)
theorem pow12 {h : FH} : powF (.int 10) (.int 12) h = some (.int 1000000000000, h) := pow_int (by decide) (by decide) (by decide)
def pst1 : EvS := (sSeq (sAsg 2 (cBin modF (cCB intF (cCons (cBin addF (cBin addF (cBin mulF (cVar 2) (cC (.int 48271))) (cBin modF (cVar 4) (cC (.int 2147483629)))) (cC (.int 11))) cNil)) (cC (.int 2147483647))))
    (sAsg 1 (cIf (cAndT (cTb (cBin geF (cVar 4) (cBin powF (cC (.int 10)) (cC (.int 12))))) (cTb (cBin ltF (cVar 1) (cBin powF (cC (.int 10)) (cC (.int 60)))))) (cCB intF (cCons (cBin addF (cBin mulF (cVar 1) (cBin powF (cC (.int 10)) (cC (.int 60)))) (cBin modF (cVar 4) (cBin powF (cC (.int 10)) (cC (.int 60))))) cNil)) (cVar 1))))
def pst0 : EvS := sAsg 4 (cIf (cTb (cBin geF (cBin ixF (cVar 0) (cVar 3)) (cC (.int 0)))) (cCB intF (cCons (cBin ixF (cVar 0) (cVar 3)) cNil)) (cCB intF (cCons (cBin subF (cNeg (cC (.int 1))) (cBin ixF (cVar 0) (cVar 3))) cNil)))
theorem pst1_ok {d s c i : Int} {h : FH} {x : Option FV} (d0 : 0 ≤ d) (d1 : d < 10 ^ 200) (s0 : 0 ≤ s) (s1 : s < 2147483648) : pst1 [x, some (.int d), some (.int s), some (.int i), some (.int c)] h =
    .nx [x, some (.int (if 1000000000000 ≤ c ∧ d < T60 then d * T60 + c.fmod T60 else d)), some (.int ((s * 48271 + c.fmod 2147483629 + 11).fmod 2147483647)), some (.int i), some (.int c)] h := by
  have ts : sm s = true := sm_of (n := 2147483648) (by omega) (by decide +kernel)
  have t3 : sm 48271 = true := by decide +kernel
  by_cases q1 : 1000000000000 ≤ c
  · by_cases q2 : d < T60
    · have sd : sm d = true := sm_of (n := 10 ^ 200) (by omega) (by decide +kernel)
      simp [pst1, x_mul, x_mod, ts, t3, q1, q2, sd, sm_T60, T60_ne, pow60, pow12]
    · simp [pst1, x_mul, x_mod, ts, t3, q1, q2, pow60, pow12]
  · simp [pst1, x_mul, x_mod, ts, t3, q1, pow60, pow12]
theorem pst1_fin {d c : Int} (d0 : 0 ≤ d) (d1 : d < 10 ^ 200) : 0 ≤ (if 1000000000000 ≤ c ∧ d < T60 then d * T60 + c.fmod T60 else d) ∧ (if 1000000000000 ≤ c ∧ d < T60 then d * T60 + c.fmod T60 else d) < 10 ^ 200 := by
  have f0 := Int.fmod_nonneg_of_pos c T60_pos
  have f1 := Int.fmod_lt_of_pos c T60_pos
  have tp := T60_pos
  have tq := T60_sq
  split
  · rename_i z
    have m0 : 0 ≤ d * T60 := Int.mul_nonneg d0 (Int.le_of_lt tp)
    have m1 : d * T60 ≤ (T60 - 1) * T60 := Int.mul_le_mul_of_nonneg_right (by omega) (Int.le_of_lt tp)
    have m2 : (T60 - 1) * T60 = T60 * T60 - T60 := by rw [Int.sub_mul, Int.one_mul]
    exact ⟨by omega, by omega⟩
  · exact ⟨d0, d1⟩
theorem pst0_ok {ns : List Int} {i : Nat} (hi : i < ns.length) {a b c : Option FV} : pst0 [some (.ref 0), a, b, some (.int (0 + i)), c] [.ro (ns.map FV.int)] = .nx [some (.ref 0), a, b, some (.int (0 + i)), some (.int (if 0 ≤ ns[i] then ns[i] else -1 - ns[i]))] [.ro (ns.map FV.int)] := by
  have e0 : ([FO.ro (ns.map FV.int)] : FH)[0]? = some (.ro (ns.map FV.int)) := rfl
  have at1 := ix_ro (i := (i : Int)) e0 (atI_nat (x := FV.int ns[i]) (by simp [hi]))
  by_cases q : 0 ≤ ns[i] <;> simp [pst0, at1, q]
theorem jPool_ok {ns : List Int} (l : ns.length ≤ 63) : ∃ h', jPool [.ref 0] [.ro (ns.map FV.int)] = .ok (.ref 1) h' ∧ Jar 1 0 h' ∧ h'.length = 2 := by
  have e0 : ([FO.ro (ns.map FV.int)] : FH)[0]? = some (.ro (ns.map FV.int)) := rfl
  have loop := sFor_loop (ei := cRng1 (cCons (cCB lenF (cCons (cVar 0) cNil)) cNil)) (s := .rng 0 ns.length) (t := .nm 3) (b := sSeq pst0 pst1) (σ := [some (.ref 0), some (.int 0), some (.int 7), none, none]) (h := [.ro (ns.map FV.int)]) (h1 := [.ro (ns.map FV.int)])
    (fun _ σ h => h = [.ro (ns.map FV.int)] ∧ ∃ (d s : Int) (a b : Option FV), σ = [some (.ref 0), some (.int d), some (.int s), a, b] ∧ 0 ≤ d ∧ d < 10 ^ 200 ∧ 0 ≤ s ∧ s < 2147483648) (fun _ _ => False) ns.length
    (cRng1_nat (by simp [len_ro e0]) (by omega)) rfl ⟨rfl, 0, 7, none, none, rfl, by decide, by decide +kernel, by decide, by decide⟩ (fun _ _ _ => rng_none) ?_
  · obtain ⟨σ', h', e1, (⟨rfl, d, s, a, b, rfl, d0, d1, s0, s1⟩ | f)⟩ := loop
    · refine ⟨[.ro (ns.map FV.int), .lst [.int d, .int s, .int 0]], ?_, ⟨d, s, 0, rfl, d0, d1, s0, s1, by decide, by decide⟩, rfl⟩
      refine cDef_rt (ev := jPoolE) ?_
      show (sSeq (sAsgT (.tp [(.nm 1), (.nm 2)]) (cTup (cCons (cC (.int 0)) (cCons (cC (.int 7)) cNil)))) (sSeq (sFor (cRng1 (cCons (cCB lenF (cCons (cVar 0) cNil)) cNil)) (.nm 3) (sSeq pst0 pst1)) (sRet (cLst (cCons (cVar 1) (cCons (cVar 2) (cCons (cC (.int 0)) cNil))))))) [some (.ref 0), none, none, none, none] [.ro (ns.map FV.int)] = _
      rw [a_sSeq, show sAsgT (.tp [(.nm 1), (.nm 2)]) (cTup (cCons (cC (.int 0)) (cCons (cC (.int 7)) cNil))) [some (.ref 0), none, none, none, none] [.ro (ns.map FV.int)] = .nx [some (.ref 0), some (.int 0), some (.int 7), none, none] [.ro (ns.map FV.int)] from by simp, then_nx, a_sSeq, e1, then_nx]
      simp
    · exact f.elim
  · rintro i σ h hi ⟨rfl, d, s, a, b, rfl, d0, d1, s0, s1⟩
    obtain ⟨c, hc⟩ : ∃ c : Int, c = if 0 ≤ ns[i] then ns[i] else -1 - ns[i] := ⟨_, rfl⟩
    have q := pst1_fin (c := c) d0 d1
    have z0 : 0 ≤ (s * 48271 + c.fmod 2147483629 + 11).fmod 2147483647 := Int.fmod_nonneg_of_pos _ (by decide)
    have z1 : (s * 48271 + c.fmod 2147483629 + 11).fmod 2147483647 < 2147483647 := Int.fmod_lt_of_pos _ (by decide)
    refine ⟨.int (0 + i), [some (.ref 0), some (.int d), some (.int s), some (.int (0 + i)), b], [some (.ref 0), some (.int (if 1000000000000 ≤ c ∧ d < T60 then d * T60 + c.fmod T60 else d)), some (.int ((s * 48271 + c.fmod 2147483629 + 11).fmod 2147483647)), some (.int (0 + i)), some (.int c)], _, rng_some hi, rfl, .inl ⟨?_, rfl, _, _, _, _, rfl, q.1, q.2, z0, by omega⟩⟩
    rw [a_sSeq, pst0_ok hi, then_nx, pst1_ok d0 d1 s0 s1, hc]
end FX
set_option maxRecDepth 100000
set_option maxHeartbeats 4000000
namespace FX
open PySem PySem.Spec PyProof.Rows L2
/-! ### the text of a pair of numbers -/
theorem strOk_str (s : String) : PyData.strOk (Str.ofString s) = true := by
  rw [Str.ofString_eq_toList]
  unfold PyData.strOk
  rw [Array.all_eq_true']
  intro c hc
  have hc' : c ∈ s.toList.map Char.toNat := by simpa using hc
  obtain ⟨u, _, rfl⟩ := List.mem_map.mp hc'
  have := u.valid
  simp only [decide_eq_true_eq]
  unfold Char.toNat
  rcases this with q | ⟨_, q⟩ <;> omega
theorem strOk_app {a b : Str} (ha : PyData.strOk a = true) (hb : PyData.strOk b = true) : PyData.strOk (a ++ b) = true := by
  unfold PyData.strOk at *
  rw [Str.cps_append, Array.all_append, ha, hb]
  rfl
theorem len_str (s : String) : (Str.ofString s).length = s.length := by
  rw [Str.ofString_eq_toList]
  show (s.toList.map Char.toNat).toArray.size = s.length
  rw [List.size_toArray, List.length_map]
  exact String.length_toList
theorem repr_pair {a b : Int} (ha : a.natAbs.log2 < 1920) (hb : b.natAbs.log2 < 1920) : ∃ S : Str, PyData.strOk S = true ∧ ∀ h : FH, reprF [.tup [.int a, .int b]] h = some (.str S, h) := by
  have la := int_text_length_le (k := 1920) (by decide) ha
  have lb := int_text_length_le (k := 1920) (by decide) hb
  have e : (PyData.tuple [.int a, .int b]).shown = ("(" : Str) ++ (Str.ofString (toString a) ++ (", " : Str) ++ Str.ofString (toString b)) ++ (")" : Str) := by
    simp only [PyData.shown, PyData.shownAll]
    rfl
  refine ⟨(PyData.tuple [.int a, .int b]).shown, ?_, fun h => ?_⟩
  · rw [e]
    exact strOk_app (strOk_app (strOk_str _) (strOk_app (strOk_app (strOk_str _) (strOk_str _)) (strOk_str _))) (strOk_str _)
  · have d : datF h DEEP (.tup [.int a, .int b]) = some (.tuple [.int a, .int b]) := rfl
    have s : (PyData.tuple [.int a, .int b]).showable = true := by
      simp only [PyData.showable, PyData.showableAll, ha, hb]
      rfl
    have l : (PyData.tuple [.int a, .int b]).shown.length ≤ sizeLine := by
      rw [e]
      simp only [Str.length_append, len_str]
      have l1 : "(".length = 1 := rfl
      have l2 : ", ".length = 2 := rfl
      have l3 : ")".length = 1 := rfl
      have : sizeLine = 16777216 := by decide +kernel
      omega
    unfold reprF
    simp only [d]
    rw [if_pos ⟨s, l⟩]
theorem ne_same {S : Str} (a : PyData.strOk S = true) (h : FH) : neF (.str S) (.str S) h = some (.bl false, h) := by
  have e : datF h DEEP (.str S) = some (.str S) := (if_pos a : (if PyData.strOk S = true then some (PyData.str S) else none) = some (.str S))
  unfold neF
  rw [e]
  show some (FV.bl (!PyData.eqv (.str S) (.str S)), h) = _
  simp [PyData.eqv]
end FX
set_option maxRecDepth 100000
set_option maxHeartbeats 4000000
namespace LW_k15
open PySem PySem.Spec PyProof.Rows L2 FX
def v_RULES : FV := (.tup [(.str "down"), (.str "up"), (.str "zero"), (.str "positive"), (.str "near")])
def e__law_kh_heard (n : Nat) (d : Cl) : EvS := (sTry0 (sRet (cTup (cCons (cC (.str "told")) (cCons (cClo 0 n d) cNil)))))
def g__law_kh_heard : FnC := fun n d => cDef 5 (e__law_kh_heard n d)
def e_is_greater : EvS := (sMatch (cVar 0) (mVal (cC (.str "down")) (sRet (cBin ltF (cBin mulF (cVar 1) (cVar 2)) (cC (.int 0)))) (mVal (cC (.str "up")) (sRet (cBin gtF (cBin mulF (cVar 1) (cVar 2)) (cC (.int 0)))) (mVal (cC (.str "positive")) (sRet (cBin ltF (cVar 1) (cC (.int 0)))) (mVal (cC (.str "near")) (sRet (cOr (cBin gtF (cBin mulF (cC (.int 2)) (cVar 3)) (cVar 4)) (cAnd (cBin eqF (cBin mulF (cC (.int 2)) (cVar 3)) (cVar 4)) (cBin ltF (cVar 1) (cC (.int 0)))))) (mWild (sRet (cC (.bl false)))))))))
def g_is_greater : Fn := cDef 5 e_is_greater
def e_sign_of : EvS := (sRet (cBin subF (cCB intF (cCons (cBin gtF (cVar 0) (cC (.int 0))) cNil)) (cCB intF (cCons (cBin ltF (cVar 0) (cC (.int 0))) cNil))))
def g_sign_of : Fn := cDef 1 e_sign_of
def e_divided : EvS := (sSeq (sPar 3 4 (cCons (cCB absF (cCons (cVar 2) cNil)) (cCons (cCall 1 g_sign_of (cCons (cVar 1) cNil)) cNil)))
    (sSeq (sAsgT (.tp [(.nm 5), (.nm 6)]) (cCB divmodF (cCons (cCB absF (cCons (cVar 1) cNil)) (cCons (cVar 3) cNil))))
    (sSeq (sIf (cAndT (cTb (cBin gtF (cVar 6) (cC (.int 0)))) (cTru (cCall 5 g_is_greater (cCons (cVar 0) (cCons (cVar 4) (cCons (cCall 1 g_sign_of (cCons (cVar 2) cNil)) (cCons (cVar 6) (cCons (cVar 3) cNil)))))))) (sPar 5 6 (cCons (cBin addF (cVar 5) (cC (.int 1))) (cCons (cBin subF (cVar 6) (cVar 3)) cNil))) sSkip)
    (sRet (cTup (cCons (cBin mulF (cBin mulF (cVar 4) (cCall 1 g_sign_of (cCons (cVar 2) cNil))) (cVar 5)) (cCons (cBin mulF (cVar 4) (cVar 6)) cNil)))))))
def g_divided : Fn := cDef 7 e_divided
def e_is_integer : EvS := (sRet (cAnd (cCB isiF (cCons (cVar 0) (cCons (cC (.ty "int")) cNil))) (cNot (cCB isiF (cCons (cVar 0) (cCons (cC (.ty "bool")) cNil))))))
def g_is_integer : Fn := cDef 1 e_is_integer
def e_is_rule : EvS := (sRet (cAnd (cCB isiF (cCons (cVar 0) (cCons (cC (.ty "str")) cNil))) (cBin inF (cVar 0) (cC v_RULES))))
def g_is_rule : Fn := cDef 1 e_is_rule
def e_require_rule : EvS := (sIf (cNotT (cTru (cCall 1 g_is_rule (cCons (cVar 0) cNil)))) sNo sSkip)
def g_require_rule : Fn := cDef 1 e_require_rule
def e_divide : EvS := (sSeq (sExpr (cCall 1 g_require_rule (cCons (cVar 0) cNil)))
    (sSeq (sIf (cNotT (cTru (cCall 1 g_is_integer (cCons (cVar 1) cNil)))) sNo sSkip)
    (sSeq (sIf (cOrT (cNotT (cTru (cCall 1 g_is_integer (cCons (cVar 2) cNil)))) (cTb (cBin eqF (cVar 2) (cC (.int 0))))) sNo sSkip)
    (sRet (cCall 3 g_divided (cCons (cVar 0) (cCons (cVar 1) (cCons (cVar 2) cNil))))))))
def g_divide : Fn := cDef 3 e_divide
def e__law_divided : EvS := (sRet (cLam 1 g__law_kh_heard (cCall 3 g_divide (cCons (cVar 0) (cCons (cVar 1) (cCons (cVar 2) cNil)))) cNil))
def g__law_divided : Fn := cDef 3 e__law_divided
def e__law_kd_figures : EvS := (sSeq (sPar 2 3 (cCons (cLst cNil) (cCons (cCB absF (cCons (cVar 0) cNil)) cNil)))
    (sSeq (sFor (cRng1 (cCons (cC (.int 400)) cNil)) (.nm 4) (sSeq (sIf (cTb (cBin eqF (cVar 3) (cC (.int 0)))) sBrk sSkip)
    (sSeq (sExpr (cLM appendF (cVar 2) (cCons (cBin modF (cVar 3) (cVar 1)) cNil)))
    (sAsg 3 (cBin divF (cVar 3) (cVar 1))))))
    (sRet (cCB tupleF (cCons (cVar 2) cNil)))))
def g__law_kd_figures : Fn := cDef 5 e__law_kd_figures
def e__law_kd_rules : EvS := (sRet (cLst (cCons (cC (.str "down")) (cCons (cC (.str "up")) (cCons (cC (.str "zero")) (cCons (cC (.str "positive")) (cCons (cC (.str "near")) cNil)))))))
def g__law_kd_rules : Fn := cDef 0 e__law_kd_rules
def e__law_take : EvS := (sSeq (sIf (cTb (cBin gtF (cBin ixF (cVar 0) (cC (.int 0))) (cC (.int 0)))) (sSeq (sAsg 2 (cBin modF (cCB intF (cCons (cBin ixF (cVar 0) (cC (.int 0))) cNil)) (cVar 1)))
    (sSeq (sSetL (cVar 0) (cC (.int 0)) (cBin divF (cBin ixF (cVar 0) (cC (.int 0))) (cVar 1)))
    (sRet (cVar 2)))) sSkip)
    (sSeq (sSetL (cVar 0) (cC (.int 2)) (cBin addF (cBin ixF (cVar 0) (cC (.int 2))) (cC (.int 1))))
    (sSeq (sSetL (cVar 0) (cC (.int 1)) (cBin modF (cCB intF (cCons (cBin addF (cBin addF (cBin mulF (cBin ixF (cVar 0) (cC (.int 1))) (cC (.int 39373))) (cBin mulF (cC (.int 7919)) (cBin ixF (cVar 0) (cC (.int 2))))) (cC (.int 7))) cNil)) (cC (.int 2147483647))))
    (sRet (cBin modF (cCB intF (cCons (cBin divF (cBin modF (cCB intF (cCons (cBin mulF (cBin ixF (cVar 0) (cC (.int 1))) (cBin ixF (cVar 0) (cC (.int 1)))) cNil)) (cC (.int 2147483629))) (cC (.int 32))) cNil)) (cVar 1))))))
def g__law_take : Fn := cDef 3 e__law_take
def e__law_one : EvS := (sRet (cBin ixF (cVar 1) (cCall 2 g__law_take (cCons (cVar 0) (cCons (cCB lenF (cCons (cVar 1) cNil)) cNil)))))
def g__law_one : Fn := cDef 2 e__law_one
def e__law_kg_base : EvS := (sRet (cBin mulF (cCall 2 g__law_one (cCons (cVar 0) (cCons (cLst (cCons (cC (.int 2)) (cCons (cC (.int 3)) (cCons (cC (.int 10)) (cCons (cBin addF (cC (.int 2)) (cCall 2 g__law_take (cCons (cVar 0) (cCons (cC (.int 9)) cNil)))) cNil))))) cNil))) (cCall 2 g__law_one (cCons (cVar 0) (cCons (cLst (cCons (cC (.int 1)) (cCons (cC (.int 1)) (cCons (cNeg (cC (.int 1))) cNil)))) cNil)))))
def g__law_kg_base : Fn := cDef 1 e__law_kg_base
def e__law_kg_integer : EvS := (sSeq (sAsg 1 (cLst (cCons (cC (.int 0)) (cCons (cC (.int 1)) (cCons (cNeg (cC (.int 1))) (cCons (cBin subF (cCall 2 g__law_take (cCons (cVar 0) (cCons (cC (.int 400)) cNil))) (cC (.int 200))) (cCons (cCall 2 g__law_take (cCons (cVar 0) (cCons (cBin powF (cC (.int 10)) (cC (.int 20))) cNil))) (cCons (cNeg (cCall 2 g__law_take (cCons (cVar 0) (cCons (cBin powF (cC (.int 10)) (cC (.int 20))) cNil)))) (cCons (cBin subF (cBin powF (cC (.int 10)) (cC (.int 60))) (cC (.int 1))) cNil)))))))))
    (sRet (cCall 2 g__law_one (cCons (cVar 0) (cCons (cBin addF (cVar 1) (cLst (cCons (cBin subF (cC (.int 1)) (cBin powF (cC (.int 10)) (cC (.int 60)))) (cCons (cBin powF (cCall 2 g__law_one (cCons (cVar 0) (cCons (cLst (cCons (cC (.int 2)) (cCons (cNeg (cC (.int 2))) (cCons (cC (.int 3)) (cCons (cC (.int 10)) cNil))))) cNil))) (cC (.int 50))) cNil)))) cNil)))))
def g__law_kg_integer : Fn := cDef 2 e__law_kg_integer
def e__law_far_right : EvS := (sSeq (sPar 1 2 (cCons (cCall 1 g__law_kg_base (cCons (cVar 0) cNil)) (cCons (cCall 2 g__law_one (cCons (cVar 0) (cCons (cCall 0 g__law_kd_rules cNil) cNil))) cNil)))
    (sSeq (sAsg 3 (cCall 1 g__law_kg_integer (cCons (cVar 0) cNil)))
    (sSeq (sAsg 4 (cCB lenF (cCons (cCall 2 g__law_kd_figures (cCons (cVar 3) (cCons (cCB absF (cCons (cVar 1) cNil)) cNil))) cNil)))
    (sSeq (sFor (cRng1 (cCons (cVar 4) cNil)) (.nm 5) (sSeq (sAsgT (.tp [(.nm 6), (.nm 7)]) (cCall 3 g__law_divided (cCons (cVar 2) (cCons (cVar 3) (cCons (cVar 1) cNil)))))
    (sSeq (sIf (cOrT (cTb (cBin neF (cVar 6) (cC (.str "told")))) (cNotT (cTru (cCB isiF (cCons (cVar 7) (cCons (cC (.ty "tuple")) cNil)))))) (sRet (cC (.bl false))) sSkip)
    (sAsg 3 (cBin ixF (cVar 7) (cC (.int 0)))))))
    (sRet (cBin inF (cVar 3) (cTup (cCons (cNeg (cC (.int 1))) (cCons (cC (.int 0)) (cCons (cC (.int 1)) cNil))))))))))
def g__law_far_right : Fn := cDef 8 e__law_far_right
def e__law_kd_is_whole : EvS := (sRet (cAnd (cCB isiF (cCons (cVar 0) (cCons (cC (.ty "int")) cNil))) (cNot (cCB isiF (cCons (cVar 0) (cCons (cC (.ty "bool")) cNil))))))
def g__law_kd_is_whole : Fn := cDef 1 e__law_kd_is_whole
def e__law_all : EvS := (sSeq (sAsg 2 cDic0)
    (sSeq (sFor (cIt (cCall 0 g__law_kd_rules cNil)) (.nm 3) (sSeq (sAsgT (.tp [(.nm 4), (.nm 5)]) (cCall 3 g__law_divided (cCons (cVar 3) (cCons (cVar 0) (cCons (cVar 1) cNil)))))
    (sSeq (sIf (cOrT (cTb (cBin neF (cVar 4) (cC (.str "told")))) (cOrT (cNotT (cTru (cCB isiF (cCons (cVar 5) (cCons (cC (.ty "tuple")) cNil))))) (cTb (cBin neF (cLc (cIt (cVar 5)) (.nm 6) [6] (cNotT (cTru (cCall 1 g__law_kd_is_whole (cCons (cVar 6) cNil)))) (cVar 6)) (cLst cNil))))) (sRet (cC .non)) sSkip)
    (sSeq (sIf (cOrT (cTb (cBin neF (cCB lenF (cCons (cVar 5) cNil)) (cC (.int 2)))) (cOrT (cTb (cBin neF (cBin addF (cBin mulF (cBin ixF (cVar 5) (cC (.int 0))) (cVar 1)) (cBin ixF (cVar 5) (cC (.int 1)))) (cVar 0))) (cTb (cBin geF (cCB absF (cCons (cBin ixF (cVar 5) (cC (.int 1))) cNil)) (cCB absF (cCons (cVar 1) cNil)))))) (sRet (cC .non)) sSkip)
    (sSetD (cVar 2) (cVar 3) (cVar 5))))))
    (sRet (cVar 2))))
def g__law_all : Fn := cDef 7 e__law_all
def e__law_hang_right : EvS := (sSeq (sPar3 2 3 4 (cCons (cCall 2 g__law_all (cCons (cVar 0) (cCons (cVar 1) cNil))) (cCons (cCall 2 g__law_all (cCons (cNeg (cVar 0)) (cCons (cVar 1) cNil))) (cCons (cCall 2 g__law_all (cCons (cVar 0) (cCons (cNeg (cVar 1)) cNil))) cNil))))
    (sSeq (sIf (cOrT (cTb (cBin isF (cVar 2) (cC .non))) (cOrT (cTb (cBin isF (cVar 3) (cC .non))) (cTb (cBin isF (cVar 4) (cC .non))))) (sRet (cC (.bl false))) sSkip)
    (sSeq (sPar3 5 6 7 (cCons (cBin ixF (cBin ixF (cVar 2) (cC (.str "down"))) (cC (.int 0))) (cCons (cBin ixF (cBin ixF (cVar 2) (cC (.str "up"))) (cC (.int 0))) (cCons (cBin ixF (cBin ixF (cVar 2) (cC (.str "zero"))) (cC (.int 0))) cNil))))
    (sSeq (sIf (cOrT (cTb (cBin neF (cBin subF (cVar 6) (cVar 5)) (cCB intF (cCons (cBin neF (cBin modF (cVar 0) (cVar 1)) (cC (.int 0))) cNil)))) (cOrT (cTb (cBin gtF (cCB absF (cCons (cVar 7) cNil)) (cCB absF (cCons (cVar 5) cNil)))) (cOrT (cTb (cBin gtF (cCB absF (cCons (cVar 7) cNil)) (cCB absF (cCons (cVar 6) cNil)))) (cTb (cBin ninF (cVar 7) (cTup (cCons (cVar 5) (cCons (cVar 6) cNil)))))))) (sRet (cC (.bl false))) sSkip)
    (sSeq (sIf (cOrT (cTb (cBin neF (cBin ixF (cBin ixF (cVar 2) (cC (.str "positive"))) (cC (.int 0))) (cIf (cTb (cBin gtF (cVar 1) (cC (.int 0)))) (cVar 5) (cVar 6)))) (cTb (cBin ltF (cBin ixF (cBin ixF (cVar 2) (cC (.str "positive"))) (cC (.int 1))) (cC (.int 0))))) (sRet (cC (.bl false))) sSkip)
    (sSeq (sAsg 8 (cBin ixF (cBin ixF (cVar 2) (cC (.str "near"))) (cC (.int 1))))
    (sSeq (sIf (cOrT (cTb (cBin gtF (cBin mulF (cC (.int 2)) (cCB absF (cCons (cVar 8) cNil))) (cCB absF (cCons (cVar 1) cNil)))) (cOrT (cTb (cBin eqF (cBin mulF (cC (.int 2)) (cVar 8)) (cNeg (cCB absF (cCons (cVar 1) cNil))))) (cTb (cBin ninF (cBin ixF (cBin ixF (cVar 2) (cC (.str "near"))) (cC (.int 0))) (cTup (cCons (cVar 5) (cCons (cVar 6) cNil))))))) (sRet (cC (.bl false))) sSkip)
    (sSeq (sIf (cOrT (cTb (cBin neF (cBin ixF (cBin ixF (cVar 3) (cC (.str "up"))) (cC (.int 0))) (cNeg (cVar 5)))) (cOrT (cTb (cBin neF (cBin ixF (cBin ixF (cVar 3) (cC (.str "down"))) (cC (.int 0))) (cNeg (cVar 6)))) (cTb (cBin neF (cBin ixF (cBin ixF (cVar 3) (cC (.str "zero"))) (cC (.int 0))) (cNeg (cVar 7)))))) (sRet (cC (.bl false))) sSkip)
    (sRet (cAnd (cBin eqF (cBin ixF (cBin ixF (cVar 4) (cC (.str "zero"))) (cC (.int 0))) (cNeg (cVar 7))) (cAnd (cBin eqF (cBin ixF (cBin ixF (cVar 4) (cC (.str "down"))) (cC (.int 0))) (cNeg (cVar 6))) (cBin eqF (cBin ixF (cBin ixF (cVar 4) (cC (.str "positive"))) (cC (.int 1))) (cBin ixF (cBin ixF (cVar 2) (cC (.str "positive"))) (cC (.int 1)))))))))))))))
def g__law_hang_right : Fn := cDef 9 e__law_hang_right
def e__law_pool : EvS := (sSeq (sAsgT (.tp [(.nm 1), (.nm 2)]) (cTup (cCons (cC (.int 0)) (cCons (cC (.int 7)) cNil))))
    (sSeq (sFor (cRng1 (cCons (cCB lenF (cCons (cVar 0) cNil)) cNil)) (.nm 3) (sSeq (sAsg 4 (cIf (cTb (cBin geF (cBin ixF (cVar 0) (cVar 3)) (cC (.int 0)))) (cCB intF (cCons (cBin ixF (cVar 0) (cVar 3)) cNil)) (cCB intF (cCons (cBin subF (cNeg (cC (.int 1))) (cBin ixF (cVar 0) (cVar 3))) cNil))))
    (sSeq (sAsg 2 (cBin modF (cCB intF (cCons (cBin addF (cBin addF (cBin mulF (cVar 2) (cC (.int 48271))) (cBin modF (cVar 4) (cC (.int 2147483629)))) (cC (.int 11))) cNil)) (cC (.int 2147483647))))
    (sAsg 1 (cIf (cAndT (cTb (cBin geF (cVar 4) (cBin powF (cC (.int 10)) (cC (.int 12))))) (cTb (cBin ltF (cVar 1) (cBin powF (cC (.int 10)) (cC (.int 60)))))) (cCB intF (cCons (cBin addF (cBin mulF (cVar 1) (cBin powF (cC (.int 10)) (cC (.int 60)))) (cBin modF (cVar 4) (cBin powF (cC (.int 10)) (cC (.int 60))))) cNil)) (cVar 1))))))
    (sRet (cLst (cCons (cVar 1) (cCons (cVar 2) (cCons (cC (.int 0)) cNil)))))))
def g__law_pool : Fn := cDef 5 e__law_pool
def e__law_kd_divide : EvS := (sSeq (sAsg 3 (cCB absF (cCons (cVar 2) cNil)))
    (sSeq (sIf (cTb (cBin eqF (cVar 0) (cC (.str "zero")))) (sAsg 0 (cIf (cTb (cBin eqF (cBin geF (cVar 1) (cC (.int 0))) (cBin gtF (cVar 2) (cC (.int 0))))) (cC (.str "down")) (cC (.str "up")))) sSkip)
    (sSeq (sIf (cTb (cBin eqF (cVar 0) (cC (.str "down")))) (sAsg 4 (cBin divF (cVar 1) (cVar 2))) (sIf (cTb (cBin eqF (cVar 0) (cC (.str "up")))) (sAsg 4 (cNeg (cBin divF (cNeg (cVar 1)) (cVar 2)))) (sSeq (sAsg 5 (cBin modF (cVar 1) (cVar 3)))
    (sSeq (sAsg 5 (cIf (cAndT (cTb (cBin eqF (cVar 0) (cC (.str "near")))) (cTb (cBin gtF (cBin mulF (cC (.int 2)) (cVar 5)) (cVar 3)))) (cBin subF (cVar 5) (cVar 3)) (cVar 5)))
    (sAsg 4 (cBin divF (cBin subF (cVar 1) (cVar 5)) (cVar 2)))))))
    (sRet (cTup (cCons (cVar 4) (cCons (cBin subF (cVar 1) (cBin mulF (cVar 4) (cVar 2))) cNil)))))))
def g__law_kd_divide : Fn := cDef 6 e__law_kd_divide
def e_carried : EvS := (sSeq (sAsg 4 (cCB absF (cCons (cVar 2) cNil)))
    (sSeq (sIf (cTb (cBin eqF (cVar 3) (cVar 4))) (sRet (cTup (cCons (cC (.int 1)) (cCons (cC (.int 0)) cNil)))) sSkip)
    (sSeq (sIf (cAndT (cTb (cBin gtF (cVar 3) (cC (.int 0)))) (cTru (cCall 5 g_is_greater (cCons (cVar 0) (cCons (cVar 1) (cCons (cCall 1 g_sign_of (cCons (cVar 2) cNil)) (cCons (cVar 3) (cCons (cVar 4) cNil)))))))) (sRet (cTup (cCons (cC (.int 1)) (cCons (cBin mulF (cVar 1) (cBin subF (cVar 3) (cVar 4))) cNil)))) sSkip)
    (sRet (cTup (cCons (cC (.int 0)) (cCons (cBin mulF (cVar 1) (cVar 3)) cNil)))))))
def g_carried : Fn := cDef 5 e_carried
def e_is_base : EvS := (sRet (cAnd (cCall 1 g_is_integer (cCons (cVar 0) cNil)) (cChain leF leF (cC (.int 2)) (cCB absF (cCons (cVar 0) cNil)) (cC (.int 10)))))
def g_is_base : Fn := cDef 1 e_is_base
def e_is_between : EvS := (sRet (cAnd (cCall 1 g_is_integer (cCons (cVar 0) cNil)) (cChain leF leF (cVar 1) (cVar 0) (cVar 2))))
def g_is_between : Fn := cDef 3 e_is_between
def e_is_sign : EvS := (sRet (cAnd (cCall 1 g_is_integer (cCons (cVar 0) cNil)) (cBin inF (cVar 0) (cTup (cCons (cNeg (cC (.int 1))) (cCons (cC (.int 1)) cNil))))))
def g_is_sign : Fn := cDef 1 e_is_sign
def e_carry : EvS := (sSeq (sExpr (cCall 1 g_require_rule (cCons (cVar 0) cNil)))
    (sSeq (sIf (cNotT (cTru (cCall 1 g_is_sign (cCons (cVar 1) cNil)))) sNo sSkip)
    (sSeq (sIf (cNotT (cTru (cCall 1 g_is_base (cCons (cVar 2) cNil)))) sNo sSkip)
    (sSeq (sIf (cNotT (cTru (cCall 3 g_is_between (cCons (cVar 3) (cCons (cC (.int 0)) (cCons (cCB absF (cCons (cVar 2) cNil)) cNil)))))) sNo sSkip)
    (sRet (cCall 4 g_carried (cCons (cVar 0) (cCons (cVar 1) (cCons (cVar 2) (cCons (cVar 3) cNil))))))))))
def g_carry : Fn := cDef 4 e_carry
def e__law_row_right : EvS := (sSeq (sAsgT (.tp [(.nm 8), (.nm 1)]) (cTup (cCons (cCall 1 g__law_kg_base (cCons (cVar 0) cNil)) (cCons (cCall 1 g__law_kg_integer (cCons (cVar 0) cNil)) cNil))))
    (sSeq (sAsgT (.tp [(.nm 2), (.nm 3), (.nm 12), (.nm 10)]) (cTup (cCons (cCB absF (cCons (cVar 8) cNil)) (cCons (cVar 1) (cCons (cIf (cTb (cBin geF (cVar 1) (cC (.int 0)))) (cC (.int 1)) (cNeg (cC (.int 1)))) (cCons (cC (.int 0)) cNil))))))
    (sSeq (sAsg 4 (cBin addF (cCall 2 g__law_kd_figures (cCons (cVar 1) (cCons (cVar 2) cNil))) (cTup (cCons (cC (.int 0)) (cCons (cC (.int 0)) (cCons (cC (.int 0)) cNil))))))
    (sSeq (sAsg 5 (cCB absF (cCons (cVar 1) cNil)))
    (sSeq (sFor (cIt (cSl (cVar 4) cNoP (cPart (cC (.int 60))))) (.nm 9) (sSeq (sAsg 11 (cCall 2 g__law_one (cCons (cVar 0) (cCons (cCall 0 g__law_kd_rules cNil) cNil))))
    (sSeq (sPar 6 7 (cCons (cCall 3 g__law_divided (cCons (cVar 11) (cCons (cVar 3) (cCons (cVar 8) cNil)))) (cCons (cLam 1 g__law_kh_heard (cCall 4 g_carry (cCons (cVar 11) (cCons (cVar 12) (cCons (cVar 8) (cCons (cBin addF (cVar 9) (cVar 10)) cNil))))) cNil) cNil)))
    (sSeq (sIf (cOrT (cTb (cBin neF (cBin ixF (cVar 6) (cC (.int 0))) (cC (.str "told")))) (cOrT (cTb (cBin neF (cBin ixF (cVar 7) (cC (.int 0))) (cC (.str "told")))) (cTb (cBin neF (cCB reprF (cCons (cBin ixF (cVar 6) (cC (.int 1))) cNil)) (cCB reprF (cCons (cCall 3 g__law_kd_divide (cCons (cVar 11) (cCons (cVar 3) (cCons (cVar 8) cNil)))) cNil)))))) (sRet (cC (.bl false))) sSkip)
    (sSeq (sPar 3 5 (cCons (cBin ixF (cBin ixF (cVar 6) (cC (.int 1))) (cC (.int 0))) (cCons (cBin divF (cVar 5) (cVar 2)) cNil)))
    (sSeq (sAsg 12 (cIf (cTb (cBin gtF (cVar 8) (cC (.int 0)))) (cVar 12) (cNeg (cVar 12))))
    (sSeq (sIf (cOrT (cNotT (cTru (cCB isiF (cCons (cBin ixF (cVar 7) (cC (.int 1))) (cCons (cC (.ty "tuple")) cNil))))) (cOrT (cTb (cBin neF (cCB lenF (cCons (cBin ixF (cVar 7) (cC (.int 1))) cNil)) (cC (.int 2)))) (cTb (cBin neF (cBin ixF (cBin ixF (cVar 7) (cC (.int 1))) (cC (.int 1))) (cBin ixF (cBin ixF (cVar 6) (cC (.int 1))) (cC (.int 1))))))) (sRet (cC (.bl false))) sSkip)
    (sSeq (sAsg 10 (cBin ixF (cBin ixF (cVar 7) (cC (.int 1))) (cC (.int 0))))
    (sIf (cOrT (cTb (cBin ninF (cVar 10) (cTup (cCons (cC (.int 0)) (cCons (cC (.int 1)) cNil))))) (cTb (cBin neF (cVar 3) (cBin mulF (cVar 12) (cBin addF (cVar 5) (cVar 10)))))) (sRet (cC (.bl false))) sSkip)))))))))
    (sRet (cC (.bl true))))))))
def g__law_row_right : Fn := cDef 13 e__law_row_right
def e_law : EvS := (sSeq (sAsg 1 (cCall 1 g__law_pool (cCons (cVar 0) cNil)))
    (sSeq (sFor (cRng1 (cCons (cC (.int 25)) cNil)) (.nm 2) (sSeq (sAsg 3 (cCall 2 g__law_one (cCons (cVar 1) (cCons (cLst (cCons (cCall 1 g__law_kg_base (cCons (cVar 1) cNil)) (cCons (cCall 1 g__law_kg_base (cCons (cVar 1) cNil)) (cCons (cC (.int 1)) (cCons (cNeg (cC (.int 1))) (cCons (cBin addF (cBin powF (cC (.int 10)) (cC (.int 20))) (cC (.int 39))) (cCons (cNeg (cBin powF (cC (.int 10)) (cC (.int 11)))) (cCons (cC (.int 12)) (cCons (cNeg (cC (.int 17))) cNil))))))))) cNil))))
    (sIf (cNotT (cTru (cCall 2 g__law_hang_right (cCons (cCall 1 g__law_kg_integer (cCons (cVar 1) cNil)) (cCons (cVar 3) cNil))))) (sRet (cC (.bl false))) sSkip)))
    (sSeq (sFor (cRng1 (cCons (cC (.int 6)) cNil)) (.nm 2) (sIf (cOrT (cNotT (cTru (cCall 1 g__law_row_right (cCons (cVar 1) cNil)))) (cNotT (cTru (cCall 1 g__law_far_right (cCons (cVar 1) cNil))))) (sRet (cC (.bl false))) sSkip))
    (sSeq (sFor (cRng2 (cCons (cNeg (cC (.int 12))) (cCons (cC (.int 13)) cNil))) (.nm 4) (sFor (cIt (cTup (cCons (cC (.int 1)) (cCons (cC (.int 2)) (cCons (cC (.int 3)) (cCons (cC (.int 4)) (cCons (cC (.int 5)) (cCons (cC (.int 6)) (cCons (cNeg (cC (.int 1))) (cCons (cNeg (cC (.int 2))) (cCons (cNeg (cC (.int 3))) (cCons (cNeg (cC (.int 4))) (cCons (cNeg (cC (.int 5))) (cCons (cNeg (cC (.int 6))) cNil)))))))))))))) (.nm 3) (sIf (cNotT (cTru (cCall 2 g__law_hang_right (cCons (cVar 4) (cCons (cVar 3) cNil))))) (sRet (cC (.bl false))) sSkip)))
    (sRet (cC (.bl true)))))))
def g_law : Fn := cDef 5 e_law
end LW_k15
set_option maxRecDepth 100000
set_option maxHeartbeats 4000000
namespace LW_k15
open PySem PySem.Spec PyProof.Rows L2 FX
variable [LamT]
def top (i : Nat) : Stmt := PySem.Challenge.pw_stillwords_k15_rules_beside_one_another.main.body.getD i (.Pass ⟨0, 0, 0, 0⟩)
abbrev FnP (K : PySem.W.Frag) (x : Str) (st : Stmt) (f : Addr) (fd : FuncData) : Prop := FunD K x x (defArgs st) (defBody st) (defScope st) [] [] f fd
theorem never_own {X : Cx} : PassesOwn (model X.nox.prog X.nox.w) X.nox.A X.nox.env X.nox.xe := PassesOwn.never
section
variable {P : Program} {w : World} {K : PySem.W.Frag} {mg : Str → Option Value} {base : Heap} {k : Nat} {f : Addr} {fd : FuncData}
abbrev st__law_kh_heard : Stmt := top 44
theorem sc__law_kh_heard : FnScope ["call", "odd", "some", "name", "is_one"] ["call"] (defScope st__law_kh_heard) := ⟨rfl, rfl, rfl, by decide +kernel, rfl, by decide +kernel, by decide +kernel⟩
theorem w__law_kh_heard (lv : Nat) (F : FnP K "_law_kh_heard" st__law_kh_heard f fd) : FnH P w K mg base (lv + 1) lv f fd ["call"] g__law_kh_heard := by
  refine fnH_of (N := ["call", "odd", "some", "name", "is_one"]) (k := lv) (ev := e__law_kh_heard) F sc__law_kh_heard fun cdv A outer s H E ρ fc n d hr hgd hcd hn hcl => ?_
  have hu := hr.units
  have hu1 : _ + 1 < cLine := Nat.lt_of_le_of_lt (Nat.add_le_add_left (by decide) _) hu
  have hgd : (A.deeper (envOfC "_law_kh_heard" (defScope st__law_kh_heard) s.heap.objs.size f cdv)).guards = some [] := hgd
  have hcalm : (cxD P w K mg base ["call", "odd", "some", "name", "is_one"] "_law_kh_heard" (defScope st__law_kh_heard) f cdv A outer s H E).calm = true := rfl
  have hN : (cxD P w K mg base ["call", "odd", "some", "name", "is_one"] "_law_kh_heard" (defScope st__law_kh_heard) f cdv A outer s H E).N.Nodup := sc__law_kh_heard.nd
  have tk := takes_of (X := cxD P w K mg base ["call", "odd", "some", "name", "is_one"] "_law_kh_heard" (defScope st__law_kh_heard) f cdv A outer s H E) (E := E) rfl rfl rfl rfl
  have po := passes_of (X := cxD P w K mg base ["call", "odd", "some", "name", "is_one"] "_law_kh_heard" (defScope st__law_kh_heard) f cdv A outer s H E) rfl
  exact (fss_one (fs_try0 (fss_one (fs_ret (fe_tup (fa_cons fe_str (fa_cons (fe_clo 0 hcl rfl rfl hn hr hgd takes0) fa_nil)))))))
abbrev st_is_greater : Stmt := top 29
theorem sc_is_greater : FnScope ["rule", "sign", "divisor_sign", "part", "size"] ["rule", "sign", "divisor_sign", "part", "size"] (defScope st_is_greater) := ⟨rfl, rfl, rfl, by decide +kernel, rfl, by decide +kernel, by decide +kernel⟩
theorem w_is_greater (F : FnP K "is_greater" st_is_greater f fd) : FnF P w K mg base 1 f fd ["rule", "sign", "divisor_sign", "part", "size"] g_is_greater := by
  refine fnF_of (N := ["rule", "sign", "divisor_sign", "part", "size"]) (k := 0) (ev := e_is_greater) F sc_is_greater fun cdv A outer s H E ρ hr hgd hcd => ?_
  have hu := hr.units
  have hu1 : _ + 1 < cLine := Nat.lt_of_le_of_lt (Nat.add_le_add_left (by decide) _) hu
  have hgd : (A.deeper (envOfC "is_greater" (defScope st_is_greater) s.heap.objs.size f cdv)).guards = some [] := hgd
  have hcalm : (cxD P w K mg base ["rule", "sign", "divisor_sign", "part", "size"] "is_greater" (defScope st_is_greater) f cdv A outer s H E).calm = true := rfl
  have hN : (cxD P w K mg base ["rule", "sign", "divisor_sign", "part", "size"] "is_greater" (defScope st_is_greater) f cdv A outer s H E).N.Nodup := sc_is_greater.nd
  have tk := takes_of (X := cxD P w K mg base ["rule", "sign", "divisor_sign", "part", "size"] "is_greater" (defScope st_is_greater) f cdv A outer s H E) (E := E) rfl rfl rfl rfl
  have po := passes_of (X := cxD P w K mg base ["rule", "sign", "divisor_sign", "part", "size"] "is_greater" (defScope st_is_greater) f cdv A outer s H E) rfl
  exact (fss_one (fs_match (fe_var 0) (fm_val hu fe_str (fss_one (fs_ret (fe_cmp of_lt (fe_bin of_mul (fe_var 1) (fe_var 2)) fe_int))) (fm_val hu fe_str (fss_one (fs_ret (fe_cmp of_gt (fe_bin of_mul (fe_var 1) (fe_var 2)) fe_int))) (fm_val hu fe_str (fss_one (fs_ret (fe_cmp of_lt (fe_var 1) fe_int))) (fm_val hu fe_str (fss_one (fs_ret (fe_or (fe_cmp of_gt (fe_bin of_mul fe_int (fe_var 3)) (fe_var 4)) (fe_one (fe_and (fe_cmp (of_eq hu) (fe_bin of_mul fe_int (fe_var 3)) (fe_var 4)) (fe_one (fe_cmp of_lt (fe_var 1) fe_int))))))) (fm_wild (fss_one (fs_ret fe_bl)))))))))
abbrev st_sign_of : Stmt := top 24
theorem sc_sign_of : FnScope ["number"] ["number"] (defScope st_sign_of) := ⟨rfl, rfl, rfl, by decide +kernel, rfl, by decide +kernel, by decide +kernel⟩
theorem w_sign_of (F : FnP K "sign_of" st_sign_of f fd) (n_int : mg "int" = none) : FnF P w K mg base 1 f fd ["number"] g_sign_of := by
  refine fnF_of (N := ["number"]) (k := 0) (ev := e_sign_of) F sc_sign_of fun cdv A outer s H E ρ hr hgd hcd => ?_
  have hu := hr.units
  have hu1 : _ + 1 < cLine := Nat.lt_of_le_of_lt (Nat.add_le_add_left (by decide) _) hu
  have hgd : (A.deeper (envOfC "sign_of" (defScope st_sign_of) s.heap.objs.size f cdv)).guards = some [] := hgd
  have hcalm : (cxD P w K mg base ["number"] "sign_of" (defScope st_sign_of) f cdv A outer s H E).calm = true := rfl
  have hN : (cxD P w K mg base ["number"] "sign_of" (defScope st_sign_of) f cdv A outer s H E).N.Nodup := sc_sign_of.nd
  have tk := takes_of (X := cxD P w K mg base ["number"] "sign_of" (defScope st_sign_of) f cdv A outer s H E) (E := E) rfl rfl rfl rfl
  have po := passes_of (X := cxD P w K mg base ["number"] "sign_of" (defScope st_sign_of) f cdv A outer s H E) rfl
  exact (fss_one (fs_ret (fe_bin of_sub (fe_callTy of_int n_int rfl (fa_cons (fe_cmp of_gt (fe_var 0) fe_int) fa_nil)) (fe_callTy of_int n_int rfl (fa_cons (fe_cmp of_lt (fe_var 0) fe_int) fa_nil)))))
abbrev st_divided : Stmt := top 30
theorem sc_divided : FnScope ["rule", "x", "divisor", "size", "sign", "whole", "part"] ["rule", "x", "divisor"] (defScope st_divided) := ⟨rfl, rfl, rfl, by decide +kernel, rfl, by decide +kernel, by decide +kernel⟩
theorem w_divided (F : FnP K "divided" st_divided f fd) (d_is_greater : Kn P w K mg base 1 "is_greater" ["rule", "sign", "divisor_sign", "part", "size"] g_is_greater) (d_sign_of : Kn P w K mg base 1 "sign_of" ["number"] g_sign_of) (n_abs : mg "abs" = none) (n_divmod : mg "divmod" = none) : FnF P w K mg base 2 f fd ["rule", "x", "divisor"] g_divided := by
  refine fnF_of (N := ["rule", "x", "divisor", "size", "sign", "whole", "part"]) (k := 1) (ev := e_divided) F sc_divided fun cdv A outer s H E ρ hr hgd hcd => ?_
  have hu := hr.units
  have hu1 : _ + 1 < cLine := Nat.lt_of_le_of_lt (Nat.add_le_add_left (by decide) _) hu
  have hgd : (A.deeper (envOfC "divided" (defScope st_divided) s.heap.objs.size f cdv)).guards = some [] := hgd
  have hcalm : (cxD P w K mg base ["rule", "x", "divisor", "size", "sign", "whole", "part"] "divided" (defScope st_divided) f cdv A outer s H E).calm = true := rfl
  have hN : (cxD P w K mg base ["rule", "x", "divisor", "size", "sign", "whole", "part"] "divided" (defScope st_divided) f cdv A outer s H E).N.Nodup := sc_divided.nd
  have tk := takes_of (X := cxD P w K mg base ["rule", "x", "divisor", "size", "sign", "whole", "part"] "divided" (defScope st_divided) f cdv A outer s H E) (E := E) rfl rfl rfl rfl
  have po := passes_of (X := cxD P w K mg base ["rule", "x", "divisor", "size", "sign", "whole", "part"] "divided" (defScope st_divided) f cdv A outer s H E) rfl
  exact (fss_cons (fs_par (i := 3) (j := 4) hcalm hN (fa_cons (fe_callB of_abs n_abs rfl (fa_cons (fe_var 2) fa_nil)) (fa_cons (fe_cl d_sign_of (hr.mono (by decide)) hgd tk (fa_cons (fe_var 1) fa_nil)) fa_nil)))
    (fss_cons (fs_asgT (fe_callB of_divmod n_divmod rfl (fa_cons (fe_callB of_abs n_abs rfl (fa_cons (fe_var 1) fa_nil)) (fa_cons (fe_var 3) fa_nil))) (fg_tup hcalm (fgs_cons (fg_nm 5 hN) (fgs_cons (fg_nm 6 hN) fgs_nil))))
    (fss_cons (fs_if (ft_w (fw_and (ft_cmp of_gt (fe_var 6) fe_int) (fw_and1 (ft_val (fe_cl d_is_greater (hr.mono (by decide)) hgd tk (fa_cons (fe_var 0) (fa_cons (fe_var 4) (fa_cons (fe_cl d_sign_of (hr.mono (by decide)) hgd tk (fa_cons (fe_var 2) fa_nil)) (fa_cons (fe_var 6) (fa_cons (fe_var 3) fa_nil)))))))))) (fss_one (fs_par (i := 5) (j := 6) hcalm hN (fa_cons (fe_bin of_add (fe_var 5) fe_int) (fa_cons (fe_bin of_sub (fe_var 6) (fe_var 3)) fa_nil)))) fss_nil)
    (fss_one (fs_ret (fe_tup (fa_cons (fe_bin of_mul (fe_bin of_mul (fe_var 4) (fe_cl d_sign_of (hr.mono (by decide)) hgd tk (fa_cons (fe_var 2) fa_nil))) (fe_var 5)) (fa_cons (fe_bin of_mul (fe_var 4) (fe_var 6)) fa_nil))))))))
abbrev st_is_integer : Stmt := top 20
theorem sc_is_integer : FnScope ["value"] ["value"] (defScope st_is_integer) := ⟨rfl, rfl, rfl, by decide +kernel, rfl, by decide +kernel, by decide +kernel⟩
theorem w_is_integer (F : FnP K "is_integer" st_is_integer f fd) (n_bool : mg "bool" = none) (n_int : mg "int" = none) (n_isinstance : mg "isinstance" = none) : FnF P w K mg base 1 f fd ["value"] g_is_integer := by
  refine fnF_of (N := ["value"]) (k := 0) (ev := e_is_integer) F sc_is_integer fun cdv A outer s H E ρ hr hgd hcd => ?_
  have hu := hr.units
  have hu1 : _ + 1 < cLine := Nat.lt_of_le_of_lt (Nat.add_le_add_left (by decide) _) hu
  have hgd : (A.deeper (envOfC "is_integer" (defScope st_is_integer) s.heap.objs.size f cdv)).guards = some [] := hgd
  have hcalm : (cxD P w K mg base ["value"] "is_integer" (defScope st_is_integer) f cdv A outer s H E).calm = true := rfl
  have hN : (cxD P w K mg base ["value"] "is_integer" (defScope st_is_integer) f cdv A outer s H E).N.Nodup := sc_is_integer.nd
  have tk := takes_of (X := cxD P w K mg base ["value"] "is_integer" (defScope st_is_integer) f cdv A outer s H E) (E := E) rfl rfl rfl rfl
  have po := passes_of (X := cxD P w K mg base ["value"] "is_integer" (defScope st_is_integer) f cdv A outer s H E) rfl
  exact (fss_one (fs_ret (fe_and (fe_callB of_isi n_isinstance rfl (fa_cons (fe_var 0) (fa_cons (fe_ty (T := "int") n_int rfl) fa_nil))) (fe_one (fe_not (fe_callB of_isi n_isinstance rfl (fa_cons (fe_var 0) (fa_cons (fe_ty (T := "bool") n_bool rfl) fa_nil))))))))
abbrev st_is_rule : Stmt := top 27
theorem sc_is_rule : FnScope ["value"] ["value"] (defScope st_is_rule) := ⟨rfl, rfl, rfl, by decide +kernel, rfl, by decide +kernel, by decide +kernel⟩
theorem w_is_rule (F : FnP K "is_rule" st_is_rule f fd) (n_isinstance : mg "isinstance" = none) (n_str : mg "str" = none) (q_RULES : KnV K mg "RULES" v_RULES) : FnF P w K mg base 1 f fd ["value"] g_is_rule := by
  refine fnF_of (N := ["value"]) (k := 0) (ev := e_is_rule) F sc_is_rule fun cdv A outer s H E ρ hr hgd hcd => ?_
  have hu := hr.units
  have hu1 : _ + 1 < cLine := Nat.lt_of_le_of_lt (Nat.add_le_add_left (by decide) _) hu
  have hgd : (A.deeper (envOfC "is_rule" (defScope st_is_rule) s.heap.objs.size f cdv)).guards = some [] := hgd
  have hcalm : (cxD P w K mg base ["value"] "is_rule" (defScope st_is_rule) f cdv A outer s H E).calm = true := rfl
  have hN : (cxD P w K mg base ["value"] "is_rule" (defScope st_is_rule) f cdv A outer s H E).N.Nodup := sc_is_rule.nd
  have tk := takes_of (X := cxD P w K mg base ["value"] "is_rule" (defScope st_is_rule) f cdv A outer s H E) (E := E) rfl rfl rfl rfl
  have po := passes_of (X := cxD P w K mg base ["value"] "is_rule" (defScope st_is_rule) f cdv A outer s H E) rfl
  exact (fss_one (fs_ret (fe_and (fe_callB of_isi n_isinstance rfl (fa_cons (fe_var 0) (fa_cons (fe_ty (T := "str") n_str rfl) fa_nil))) (fe_one (fe_cmp (of_in hu) (fe_var 0) (fe_glv q_RULES))))))
abbrev st_require_rule : Stmt := top 28
theorem sc_require_rule : FnScope ["value"] ["value"] (defScope st_require_rule) := ⟨rfl, rfl, rfl, by decide +kernel, rfl, by decide +kernel, by decide +kernel⟩
theorem w_require_rule (F : FnP K "require_rule" st_require_rule f fd) (d_is_rule : Kn P w K mg base 1 "is_rule" ["value"] g_is_rule) : FnF P w K mg base 2 f fd ["value"] g_require_rule := by
  refine fnF_of (N := ["value"]) (k := 1) (ev := e_require_rule) F sc_require_rule fun cdv A outer s H E ρ hr hgd hcd => ?_
  have hu := hr.units
  have hu1 : _ + 1 < cLine := Nat.lt_of_le_of_lt (Nat.add_le_add_left (by decide) _) hu
  have hgd : (A.deeper (envOfC "require_rule" (defScope st_require_rule) s.heap.objs.size f cdv)).guards = some [] := hgd
  have hcalm : (cxD P w K mg base ["value"] "require_rule" (defScope st_require_rule) f cdv A outer s H E).calm = true := rfl
  have hN : (cxD P w K mg base ["value"] "require_rule" (defScope st_require_rule) f cdv A outer s H E).N.Nodup := sc_require_rule.nd
  have tk := takes_of (X := cxD P w K mg base ["value"] "require_rule" (defScope st_require_rule) f cdv A outer s H E) (E := E) rfl rfl rfl rfl
  have po := passes_of (X := cxD P w K mg base ["value"] "require_rule" (defScope st_require_rule) f cdv A outer s H E) rfl
  exact (fss_one (fs_if (ft_not (ft_val (fe_cl d_is_rule (hr.mono (by decide)) hgd tk (fa_cons (fe_var 0) fa_nil)))) (fss_one fs_no) fss_nil))
abbrev st_divide : Stmt := top 31
theorem sc_divide : FnScope ["rule", "x", "base"] ["rule", "x", "base"] (defScope st_divide) := ⟨rfl, rfl, rfl, by decide +kernel, rfl, by decide +kernel, by decide +kernel⟩
theorem w_divide (F : FnP K "divide" st_divide f fd) (d_divided : Kn P w K mg base 2 "divided" ["rule", "x", "divisor"] g_divided) (d_is_integer : Kn P w K mg base 1 "is_integer" ["value"] g_is_integer) (d_require_rule : Kn P w K mg base 2 "require_rule" ["value"] g_require_rule) : FnF P w K mg base 3 f fd ["rule", "x", "base"] g_divide := by
  refine fnF_of (N := ["rule", "x", "base"]) (k := 2) (ev := e_divide) F sc_divide fun cdv A outer s H E ρ hr hgd hcd => ?_
  have hu := hr.units
  have hu1 : _ + 1 < cLine := Nat.lt_of_le_of_lt (Nat.add_le_add_left (by decide) _) hu
  have hgd : (A.deeper (envOfC "divide" (defScope st_divide) s.heap.objs.size f cdv)).guards = some [] := hgd
  have hcalm : (cxD P w K mg base ["rule", "x", "base"] "divide" (defScope st_divide) f cdv A outer s H E).calm = true := rfl
  have hN : (cxD P w K mg base ["rule", "x", "base"] "divide" (defScope st_divide) f cdv A outer s H E).N.Nodup := sc_divide.nd
  have tk := takes_of (X := cxD P w K mg base ["rule", "x", "base"] "divide" (defScope st_divide) f cdv A outer s H E) (E := E) rfl rfl rfl rfl
  have po := passes_of (X := cxD P w K mg base ["rule", "x", "base"] "divide" (defScope st_divide) f cdv A outer s H E) rfl
  exact (fss_cons (fs_expr (fe_cl d_require_rule (hr.mono (by decide)) hgd tk (fa_cons (fe_var 0) fa_nil)))
    (fss_cons (fs_if (ft_not (ft_val (fe_cl d_is_integer (hr.mono (by decide)) hgd tk (fa_cons (fe_var 1) fa_nil)))) (fss_one fs_no) fss_nil)
    (fss_cons (fs_if (ft_w (fw_or (ft_not (ft_val (fe_cl d_is_integer (hr.mono (by decide)) hgd tk (fa_cons (fe_var 2) fa_nil)))) (fw_or1 (ft_cmp (of_eq hu) (fe_var 2) fe_int)))) (fss_one fs_no) fss_nil)
    (fss_one (fs_ret (fe_cl d_divided (hr.mono (by decide)) hgd tk (fa_cons (fe_var 0) (fa_cons (fe_var 1) (fa_cons (fe_var 2) fa_nil)))))))))
abbrev st__law_divided : Stmt := top 45
theorem sc__law_divided : FnScope ["rule", "x", "base"] ["rule", "x", "base"] (defScope st__law_divided) := ⟨rfl, rfl, rfl, by decide +kernel, rfl, by decide +kernel, by decide +kernel⟩
theorem w__law_divided (F : FnP K "_law_divided" st__law_divided f fd) (d__law_kh_heard : KnH P w K mg base 5 4 "_law_kh_heard" ["call"] g__law_kh_heard) (d_divide : Kn P w K mg base 3 "divide" ["rule", "x", "base"] g_divide) {c0 P0 : Addr} (hcode0 : fd.code = .ref c0) (hTB : LamX.TabB base mg c0 P0) (hT : (P0, lamQ (("_law_divided" : Str) ++ ".<locals>.")) ∈ LamT.T K) (hTu : ∀ q ∈ LamT.T K, q.1 = P0 → q.2 = lamQ (("_law_divided" : Str) ++ ".<locals>.")) : FnF P w K mg base 6 f fd ["rule", "x", "base"] g__law_divided := by
  refine fnF_of (N := ["rule", "x", "base"]) (k := 5) (ev := e__law_divided) F sc__law_divided fun cdv A outer s H E ρ hr hgd hcd => ?_
  have hu := hr.units
  have hu1 : _ + 1 < cLine := Nat.lt_of_le_of_lt (Nat.add_le_add_left (by decide) _) hu
  have hgd : (A.deeper (envOfC "_law_divided" (defScope st__law_divided) s.heap.objs.size f cdv)).guards = some [] := hgd
  have hcalm : (cxD P w K mg base ["rule", "x", "base"] "_law_divided" (defScope st__law_divided) f cdv A outer s H E).calm = true := rfl
  have hN : (cxD P w K mg base ["rule", "x", "base"] "_law_divided" (defScope st__law_divided) f cdv A outer s H E).N.Nodup := sc__law_divided.nd
  have tk := takes_of (X := cxD P w K mg base ["rule", "x", "base"] "_law_divided" (defScope st__law_divided) f cdv A outer s H E) (E := E) rfl rfl rfl rfl
  have po := passes_of (X := cxD P w K mg base ["rule", "x", "base"] "_law_divided" (defScope st__law_divided) f cdv A outer s H E) rfl
  have hcode : (cxD P w K mg base ["rule", "x", "base"] "_law_divided" (defScope st__law_divided) f cdv A outer s H E).env.code = .ref c0 := hcd.symm.trans hcode0
  exact (fss_one (fs_ret (fe_lm_ d__law_kh_heard (hr.mono (by decide)) hgd tk hTB hcode hT hTu (by kernel_rfl) (fun f2 c2 A2 o2 s2 H2 E2 ρ2 hrL hgdL => (fe_cl d_divide (hrL.mono (by decide)) hgdL lam_takes (fa_cons (fe_var 0) (fa_cons (fe_var 1) (fa_cons (fe_var 2) fa_nil))))) fa_nil)))
abbrev st__law_kd_figures : Stmt := top 41
theorem sc__law_kd_figures : FnScope ["number", "size", "made", "left", "go"] ["number", "size"] (defScope st__law_kd_figures) := ⟨rfl, rfl, rfl, by decide +kernel, rfl, by decide +kernel, by decide +kernel⟩
theorem w__law_kd_figures (F : FnP K "_law_kd_figures" st__law_kd_figures f fd) (n_abs : mg "abs" = none) (n_range : mg "range" = none) (n_tuple : mg "tuple" = none) : FnF P w K mg base 1 f fd ["number", "size"] g__law_kd_figures := by
  refine fnF_of (N := ["number", "size", "made", "left", "go"]) (k := 0) (ev := e__law_kd_figures) F sc__law_kd_figures fun cdv A outer s H E ρ hr hgd hcd => ?_
  have hu := hr.units
  have hu1 : _ + 1 < cLine := Nat.lt_of_le_of_lt (Nat.add_le_add_left (by decide) _) hu
  have hgd : (A.deeper (envOfC "_law_kd_figures" (defScope st__law_kd_figures) s.heap.objs.size f cdv)).guards = some [] := hgd
  have hcalm : (cxD P w K mg base ["number", "size", "made", "left", "go"] "_law_kd_figures" (defScope st__law_kd_figures) f cdv A outer s H E).calm = true := rfl
  have hN : (cxD P w K mg base ["number", "size", "made", "left", "go"] "_law_kd_figures" (defScope st__law_kd_figures) f cdv A outer s H E).N.Nodup := sc__law_kd_figures.nd
  have tk := takes_of (X := cxD P w K mg base ["number", "size", "made", "left", "go"] "_law_kd_figures" (defScope st__law_kd_figures) f cdv A outer s H E) (E := E) rfl rfl rfl rfl
  have po := passes_of (X := cxD P w K mg base ["number", "size", "made", "left", "go"] "_law_kd_figures" (defScope st__law_kd_figures) f cdv A outer s H E) rfl
  exact (fss_cons (fs_par (i := 2) (j := 3) hcalm hN (fa_cons (fe_lst fa_nil) (fa_cons (fe_callB of_abs n_abs rfl (fa_cons (fe_var 0) fa_nil)) fa_nil)))
    (fss_cons (fs_for po hcalm (fi_rng1 n_range (fa_cons fe_int fa_nil)) (fg_nm 4 hN) (fss_cons (fs_if (ft_cmp (of_eq hu) (fe_var 3) fe_int) (fss_one fs_break) fss_nil)
    (fss_cons (fs_expr (fe_lm PySem.F.plainAttrs_list PySem.F.slot_list_append PySem.F.type_list_append of_append (fe_var 2) (fa_cons (fe_bin of_mod (fe_var 3) (fe_var 1)) fa_nil)))
    (fss_one (fs_asg 3 (fe_bin of_div (fe_var 3) (fe_var 1)) hN)))))
    (fss_one (fs_ret (fe_callTy of_tuple n_tuple rfl (fa_cons (fe_var 2) fa_nil))))))
abbrev st__law_kd_rules : Stmt := top 38
theorem sc__law_kd_rules : FnScope [] [] (defScope st__law_kd_rules) := ⟨rfl, rfl, rfl, by decide +kernel, rfl, by decide +kernel, by decide +kernel⟩
theorem w__law_kd_rules (F : FnP K "_law_kd_rules" st__law_kd_rules f fd) : FnF P w K mg base 1 f fd [] g__law_kd_rules := by
  refine fnF_of (N := []) (k := 0) (ev := e__law_kd_rules) F sc__law_kd_rules fun cdv A outer s H E ρ hr hgd hcd => ?_
  have hu := hr.units
  have hu1 : _ + 1 < cLine := Nat.lt_of_le_of_lt (Nat.add_le_add_left (by decide) _) hu
  have hgd : (A.deeper (envOfC "_law_kd_rules" (defScope st__law_kd_rules) s.heap.objs.size f cdv)).guards = some [] := hgd
  have hcalm : (cxD P w K mg base [] "_law_kd_rules" (defScope st__law_kd_rules) f cdv A outer s H E).calm = true := rfl
  have hN : (cxD P w K mg base [] "_law_kd_rules" (defScope st__law_kd_rules) f cdv A outer s H E).N.Nodup := sc__law_kd_rules.nd
  have tk := takes_of (X := cxD P w K mg base [] "_law_kd_rules" (defScope st__law_kd_rules) f cdv A outer s H E) (E := E) rfl rfl rfl rfl
  have po := passes_of (X := cxD P w K mg base [] "_law_kd_rules" (defScope st__law_kd_rules) f cdv A outer s H E) rfl
  exact (fss_one (fs_ret (fe_lst (fa_cons fe_str (fa_cons fe_str (fa_cons fe_str (fa_cons fe_str (fa_cons fe_str fa_nil))))))))
abbrev st__law_take : Stmt := top 36
theorem sc__law_take : FnScope ["jar", "many", "found"] ["jar", "many"] (defScope st__law_take) := ⟨rfl, rfl, rfl, by decide +kernel, rfl, by decide +kernel, by decide +kernel⟩
theorem w__law_take (F : FnP K "_law_take" st__law_take f fd) (n_int : mg "int" = none) : FnF P w K mg base 1 f fd ["jar", "many"] g__law_take := by
  refine fnF_of (N := ["jar", "many", "found"]) (k := 0) (ev := e__law_take) F sc__law_take fun cdv A outer s H E ρ hr hgd hcd => ?_
  have hu := hr.units
  have hu1 : _ + 1 < cLine := Nat.lt_of_le_of_lt (Nat.add_le_add_left (by decide) _) hu
  have hgd : (A.deeper (envOfC "_law_take" (defScope st__law_take) s.heap.objs.size f cdv)).guards = some [] := hgd
  have hcalm : (cxD P w K mg base ["jar", "many", "found"] "_law_take" (defScope st__law_take) f cdv A outer s H E).calm = true := rfl
  have hN : (cxD P w K mg base ["jar", "many", "found"] "_law_take" (defScope st__law_take) f cdv A outer s H E).N.Nodup := sc__law_take.nd
  have tk := takes_of (X := cxD P w K mg base ["jar", "many", "found"] "_law_take" (defScope st__law_take) f cdv A outer s H E) (E := E) rfl rfl rfl rfl
  have po := passes_of (X := cxD P w K mg base ["jar", "many", "found"] "_law_take" (defScope st__law_take) f cdv A outer s H E) rfl
  exact (fss_cons (fs_if (ft_cmp of_gt (fe_ix hu1 (fe_var 0) fe_int) fe_int) (fss_cons (fs_asg 2 (fe_bin of_mod (fe_callTy of_int n_int rfl (fa_cons (fe_ix hu1 (fe_var 0) fe_int) fa_nil)) (fe_var 1)) hN)
    (fss_cons (fs_lset (fe_var 0) fe_int (fe_bin of_div (fe_ix hu1 (fe_var 0) fe_int) (fe_var 1)))
    (fss_one (fs_ret (fe_var 2))))) fss_nil)
    (fss_cons (fs_lset (fe_var 0) fe_int (fe_bin of_add (fe_ix hu1 (fe_var 0) fe_int) fe_int))
    (fss_cons (fs_lset (fe_var 0) fe_int (fe_bin of_mod (fe_callTy of_int n_int rfl (fa_cons (fe_bin of_add (fe_bin of_add (fe_bin of_mul (fe_ix hu1 (fe_var 0) fe_int) fe_int) (fe_bin of_mul fe_int (fe_ix hu1 (fe_var 0) fe_int))) fe_int) fa_nil)) fe_int))
    (fss_one (fs_ret (fe_bin of_mod (fe_callTy of_int n_int rfl (fa_cons (fe_bin of_div (fe_bin of_mod (fe_callTy of_int n_int rfl (fa_cons (fe_bin of_mul (fe_ix hu1 (fe_var 0) fe_int) (fe_ix hu1 (fe_var 0) fe_int)) fa_nil)) fe_int) fe_int) fa_nil)) (fe_var 1)))))))
abbrev st__law_one : Stmt := top 37
theorem sc__law_one : FnScope ["jar", "things"] ["jar", "things"] (defScope st__law_one) := ⟨rfl, rfl, rfl, by decide +kernel, rfl, by decide +kernel, by decide +kernel⟩
theorem w__law_one (F : FnP K "_law_one" st__law_one f fd) (d__law_take : Kn P w K mg base 1 "_law_take" ["jar", "many"] g__law_take) (n_len : mg "len" = none) : FnF P w K mg base 2 f fd ["jar", "things"] g__law_one := by
  refine fnF_of (N := ["jar", "things"]) (k := 1) (ev := e__law_one) F sc__law_one fun cdv A outer s H E ρ hr hgd hcd => ?_
  have hu := hr.units
  have hu1 : _ + 1 < cLine := Nat.lt_of_le_of_lt (Nat.add_le_add_left (by decide) _) hu
  have hgd : (A.deeper (envOfC "_law_one" (defScope st__law_one) s.heap.objs.size f cdv)).guards = some [] := hgd
  have hcalm : (cxD P w K mg base ["jar", "things"] "_law_one" (defScope st__law_one) f cdv A outer s H E).calm = true := rfl
  have hN : (cxD P w K mg base ["jar", "things"] "_law_one" (defScope st__law_one) f cdv A outer s H E).N.Nodup := sc__law_one.nd
  have tk := takes_of (X := cxD P w K mg base ["jar", "things"] "_law_one" (defScope st__law_one) f cdv A outer s H E) (E := E) rfl rfl rfl rfl
  have po := passes_of (X := cxD P w K mg base ["jar", "things"] "_law_one" (defScope st__law_one) f cdv A outer s H E) rfl
  exact (fss_one (fs_ret (fe_ix hu1 (fe_var 1) (fe_cl d__law_take (hr.mono (by decide)) hgd tk (fa_cons (fe_var 0) (fa_cons (fe_callB of_len n_len rfl (fa_cons (fe_var 1) fa_nil)) fa_nil))))))
abbrev st__law_kg_base : Stmt := top 42
theorem sc__law_kg_base : FnScope ["jar"] ["jar"] (defScope st__law_kg_base) := ⟨rfl, rfl, rfl, by decide +kernel, rfl, by decide +kernel, by decide +kernel⟩
theorem w__law_kg_base (F : FnP K "_law_kg_base" st__law_kg_base f fd) (d__law_one : Kn P w K mg base 2 "_law_one" ["jar", "things"] g__law_one) (d__law_take : Kn P w K mg base 1 "_law_take" ["jar", "many"] g__law_take) : FnF P w K mg base 3 f fd ["jar"] g__law_kg_base := by
  refine fnF_of (N := ["jar"]) (k := 2) (ev := e__law_kg_base) F sc__law_kg_base fun cdv A outer s H E ρ hr hgd hcd => ?_
  have hu := hr.units
  have hu1 : _ + 1 < cLine := Nat.lt_of_le_of_lt (Nat.add_le_add_left (by decide) _) hu
  have hgd : (A.deeper (envOfC "_law_kg_base" (defScope st__law_kg_base) s.heap.objs.size f cdv)).guards = some [] := hgd
  have hcalm : (cxD P w K mg base ["jar"] "_law_kg_base" (defScope st__law_kg_base) f cdv A outer s H E).calm = true := rfl
  have hN : (cxD P w K mg base ["jar"] "_law_kg_base" (defScope st__law_kg_base) f cdv A outer s H E).N.Nodup := sc__law_kg_base.nd
  have tk := takes_of (X := cxD P w K mg base ["jar"] "_law_kg_base" (defScope st__law_kg_base) f cdv A outer s H E) (E := E) rfl rfl rfl rfl
  have po := passes_of (X := cxD P w K mg base ["jar"] "_law_kg_base" (defScope st__law_kg_base) f cdv A outer s H E) rfl
  exact (fss_one (fs_ret (fe_bin of_mul (fe_cl d__law_one (hr.mono (by decide)) hgd tk (fa_cons (fe_var 0) (fa_cons (fe_lst (fa_cons fe_int (fa_cons fe_int (fa_cons fe_int (fa_cons (fe_bin of_add fe_int (fe_cl d__law_take (hr.mono (by decide)) hgd tk (fa_cons (fe_var 0) (fa_cons fe_int fa_nil)))) fa_nil))))) fa_nil))) (fe_cl d__law_one (hr.mono (by decide)) hgd tk (fa_cons (fe_var 0) (fa_cons (fe_lst (fa_cons fe_int (fa_cons fe_int (fa_cons (fe_neg fe_int) fa_nil)))) fa_nil))))))
abbrev st__law_kg_integer : Stmt := top 43
theorem sc__law_kg_integer : FnScope ["jar", "some"] ["jar"] (defScope st__law_kg_integer) := ⟨rfl, rfl, rfl, by decide +kernel, rfl, by decide +kernel, by decide +kernel⟩
theorem w__law_kg_integer (F : FnP K "_law_kg_integer" st__law_kg_integer f fd) (d__law_one : Kn P w K mg base 2 "_law_one" ["jar", "things"] g__law_one) (d__law_take : Kn P w K mg base 1 "_law_take" ["jar", "many"] g__law_take) : FnF P w K mg base 3 f fd ["jar"] g__law_kg_integer := by
  refine fnF_of (N := ["jar", "some"]) (k := 2) (ev := e__law_kg_integer) F sc__law_kg_integer fun cdv A outer s H E ρ hr hgd hcd => ?_
  have hu := hr.units
  have hu1 : _ + 1 < cLine := Nat.lt_of_le_of_lt (Nat.add_le_add_left (by decide) _) hu
  have hgd : (A.deeper (envOfC "_law_kg_integer" (defScope st__law_kg_integer) s.heap.objs.size f cdv)).guards = some [] := hgd
  have hcalm : (cxD P w K mg base ["jar", "some"] "_law_kg_integer" (defScope st__law_kg_integer) f cdv A outer s H E).calm = true := rfl
  have hN : (cxD P w K mg base ["jar", "some"] "_law_kg_integer" (defScope st__law_kg_integer) f cdv A outer s H E).N.Nodup := sc__law_kg_integer.nd
  have tk := takes_of (X := cxD P w K mg base ["jar", "some"] "_law_kg_integer" (defScope st__law_kg_integer) f cdv A outer s H E) (E := E) rfl rfl rfl rfl
  have po := passes_of (X := cxD P w K mg base ["jar", "some"] "_law_kg_integer" (defScope st__law_kg_integer) f cdv A outer s H E) rfl
  exact (fss_cons (fs_asg 1 (fe_lst (fa_cons fe_int (fa_cons fe_int (fa_cons (fe_neg fe_int) (fa_cons (fe_bin of_sub (fe_cl d__law_take (hr.mono (by decide)) hgd tk (fa_cons (fe_var 0) (fa_cons fe_int fa_nil))) fe_int) (fa_cons (fe_cl d__law_take (hr.mono (by decide)) hgd tk (fa_cons (fe_var 0) (fa_cons (fe_bin of_pow fe_int fe_int) fa_nil))) (fa_cons (fe_neg (fe_cl d__law_take (hr.mono (by decide)) hgd tk (fa_cons (fe_var 0) (fa_cons (fe_bin of_pow fe_int fe_int) fa_nil)))) (fa_cons (fe_bin of_sub (fe_bin of_pow fe_int fe_int) fe_int) fa_nil)))))))) hN)
    (fss_one (fs_ret (fe_cl d__law_one (hr.mono (by decide)) hgd tk (fa_cons (fe_var 0) (fa_cons (fe_bin of_add (fe_var 1) (fe_lst (fa_cons (fe_bin of_sub fe_int (fe_bin of_pow fe_int fe_int)) (fa_cons (fe_bin of_pow (fe_cl d__law_one (hr.mono (by decide)) hgd tk (fa_cons (fe_var 0) (fa_cons (fe_lst (fa_cons fe_int (fa_cons (fe_neg fe_int) (fa_cons fe_int (fa_cons fe_int fa_nil))))) fa_nil))) fe_int) fa_nil)))) fa_nil))))))
abbrev st__law_far_right : Stmt := top 49
theorem sc__law_far_right : FnScope ["jar", "base", "rule", "x", "many", "go", "sign", "told"] ["jar"] (defScope st__law_far_right) := ⟨rfl, rfl, rfl, by decide +kernel, rfl, by decide +kernel, by decide +kernel⟩
theorem w__law_far_right (F : FnP K "_law_far_right" st__law_far_right f fd) (d__law_divided : Kn P w K mg base 6 "_law_divided" ["rule", "x", "base"] g__law_divided) (d__law_kd_figures : Kn P w K mg base 1 "_law_kd_figures" ["number", "size"] g__law_kd_figures) (d__law_kd_rules : Kn P w K mg base 1 "_law_kd_rules" [] g__law_kd_rules) (d__law_kg_base : Kn P w K mg base 3 "_law_kg_base" ["jar"] g__law_kg_base) (d__law_kg_integer : Kn P w K mg base 3 "_law_kg_integer" ["jar"] g__law_kg_integer) (d__law_one : Kn P w K mg base 2 "_law_one" ["jar", "things"] g__law_one) (n_abs : mg "abs" = none) (n_isinstance : mg "isinstance" = none) (n_len : mg "len" = none) (n_range : mg "range" = none) (n_tuple : mg "tuple" = none) : FnF P w K mg base 7 f fd ["jar"] g__law_far_right := by
  refine fnF_of (N := ["jar", "base", "rule", "x", "many", "go", "sign", "told"]) (k := 6) (ev := e__law_far_right) F sc__law_far_right fun cdv A outer s H E ρ hr hgd hcd => ?_
  have hu := hr.units
  have hu1 : _ + 1 < cLine := Nat.lt_of_le_of_lt (Nat.add_le_add_left (by decide) _) hu
  have hgd : (A.deeper (envOfC "_law_far_right" (defScope st__law_far_right) s.heap.objs.size f cdv)).guards = some [] := hgd
  have hcalm : (cxD P w K mg base ["jar", "base", "rule", "x", "many", "go", "sign", "told"] "_law_far_right" (defScope st__law_far_right) f cdv A outer s H E).calm = true := rfl
  have hN : (cxD P w K mg base ["jar", "base", "rule", "x", "many", "go", "sign", "told"] "_law_far_right" (defScope st__law_far_right) f cdv A outer s H E).N.Nodup := sc__law_far_right.nd
  have tk := takes_of (X := cxD P w K mg base ["jar", "base", "rule", "x", "many", "go", "sign", "told"] "_law_far_right" (defScope st__law_far_right) f cdv A outer s H E) (E := E) rfl rfl rfl rfl
  have po := passes_of (X := cxD P w K mg base ["jar", "base", "rule", "x", "many", "go", "sign", "told"] "_law_far_right" (defScope st__law_far_right) f cdv A outer s H E) rfl
  exact (fss_cons (fs_par (i := 1) (j := 2) hcalm hN (fa_cons (fe_cl d__law_kg_base (hr.mono (by decide)) hgd tk (fa_cons (fe_var 0) fa_nil)) (fa_cons (fe_cl d__law_one (hr.mono (by decide)) hgd tk (fa_cons (fe_var 0) (fa_cons (fe_cl0 d__law_kd_rules (hr.mono (by decide)) hgd tk) fa_nil))) fa_nil)))
    (fss_cons (fs_asg 3 (fe_cl d__law_kg_integer (hr.mono (by decide)) hgd tk (fa_cons (fe_var 0) fa_nil)) hN)
    (fss_cons (fs_asg 4 (fe_callB of_len n_len rfl (fa_cons (fe_cl d__law_kd_figures (hr.mono (by decide)) hgd tk (fa_cons (fe_var 3) (fa_cons (fe_callB of_abs n_abs rfl (fa_cons (fe_var 1) fa_nil)) fa_nil))) fa_nil)) hN)
    (fss_cons (fs_for po hcalm (fi_rng1 n_range (fa_cons (fe_var 4) fa_nil)) (fg_nm 5 hN) (fss_cons (fs_asgT (fe_cl d__law_divided (hr.mono (by decide)) hgd tk (fa_cons (fe_var 2) (fa_cons (fe_var 3) (fa_cons (fe_var 1) fa_nil)))) (fg_tup hcalm (fgs_cons (fg_nm 6 hN) (fgs_cons (fg_nm 7 hN) fgs_nil))))
    (fss_cons (fs_if (ft_w (fw_or (ft_cmp (of_ne hu) (fe_var 6) fe_str) (fw_or1 (ft_not (ft_val (fe_callB of_isi n_isinstance rfl (fa_cons (fe_var 7) (fa_cons (fe_ty (T := "tuple") n_tuple rfl) fa_nil)))))))) (fss_one (fs_ret fe_bl)) fss_nil)
    (fss_one (fs_asg 3 (fe_ix hu1 (fe_var 7) fe_int) hN)))))
    (fss_one (fs_ret (fe_cmp (of_in hu) (fe_var 3) (fe_tup (fa_cons (fe_neg fe_int) (fa_cons fe_int (fa_cons fe_int fa_nil)))))))))))
abbrev st__law_kd_is_whole : Stmt := top 40
theorem sc__law_kd_is_whole : FnScope ["thing"] ["thing"] (defScope st__law_kd_is_whole) := ⟨rfl, rfl, rfl, by decide +kernel, rfl, by decide +kernel, by decide +kernel⟩
theorem w__law_kd_is_whole (F : FnP K "_law_kd_is_whole" st__law_kd_is_whole f fd) (n_bool : mg "bool" = none) (n_int : mg "int" = none) (n_isinstance : mg "isinstance" = none) : FnF P w K mg base 1 f fd ["thing"] g__law_kd_is_whole := by
  refine fnF_of (N := ["thing"]) (k := 0) (ev := e__law_kd_is_whole) F sc__law_kd_is_whole fun cdv A outer s H E ρ hr hgd hcd => ?_
  have hu := hr.units
  have hu1 : _ + 1 < cLine := Nat.lt_of_le_of_lt (Nat.add_le_add_left (by decide) _) hu
  have hgd : (A.deeper (envOfC "_law_kd_is_whole" (defScope st__law_kd_is_whole) s.heap.objs.size f cdv)).guards = some [] := hgd
  have hcalm : (cxD P w K mg base ["thing"] "_law_kd_is_whole" (defScope st__law_kd_is_whole) f cdv A outer s H E).calm = true := rfl
  have hN : (cxD P w K mg base ["thing"] "_law_kd_is_whole" (defScope st__law_kd_is_whole) f cdv A outer s H E).N.Nodup := sc__law_kd_is_whole.nd
  have tk := takes_of (X := cxD P w K mg base ["thing"] "_law_kd_is_whole" (defScope st__law_kd_is_whole) f cdv A outer s H E) (E := E) rfl rfl rfl rfl
  have po := passes_of (X := cxD P w K mg base ["thing"] "_law_kd_is_whole" (defScope st__law_kd_is_whole) f cdv A outer s H E) rfl
  exact (fss_one (fs_ret (fe_and (fe_callB of_isi n_isinstance rfl (fa_cons (fe_var 0) (fa_cons (fe_ty (T := "int") n_int rfl) fa_nil))) (fe_one (fe_not (fe_callB of_isi n_isinstance rfl (fa_cons (fe_var 0) (fa_cons (fe_ty (T := "bool") n_bool rfl) fa_nil))))))))
abbrev st__law_all : Stmt := top 46
theorem sc__law_all : FnScope ["x", "base", "made", "rule", "sign", "told", "one"] ["x", "base"] (defScope st__law_all) := ⟨rfl, rfl, rfl, by decide +kernel, rfl, by decide +kernel, by decide +kernel⟩
theorem w__law_all (F : FnP K "_law_all" st__law_all f fd) (d__law_divided : Kn P w K mg base 6 "_law_divided" ["rule", "x", "base"] g__law_divided) (d__law_kd_is_whole : Kn P w K mg base 1 "_law_kd_is_whole" ["thing"] g__law_kd_is_whole) (d__law_kd_rules : Kn P w K mg base 1 "_law_kd_rules" [] g__law_kd_rules) (n_abs : mg "abs" = none) (n_isinstance : mg "isinstance" = none) (n_len : mg "len" = none) (n_tuple : mg "tuple" = none) : FnF P w K mg base 7 f fd ["x", "base"] g__law_all := by
  refine fnF_of (N := ["x", "base", "made", "rule", "sign", "told", "one"]) (k := 6) (ev := e__law_all) F sc__law_all fun cdv A outer s H E ρ hr hgd hcd => ?_
  have hu := hr.units
  have hu1 : _ + 1 < cLine := Nat.lt_of_le_of_lt (Nat.add_le_add_left (by decide) _) hu
  have hgd : (A.deeper (envOfC "_law_all" (defScope st__law_all) s.heap.objs.size f cdv)).guards = some [] := hgd
  have hcalm : (cxD P w K mg base ["x", "base", "made", "rule", "sign", "told", "one"] "_law_all" (defScope st__law_all) f cdv A outer s H E).calm = true := rfl
  have hN : (cxD P w K mg base ["x", "base", "made", "rule", "sign", "told", "one"] "_law_all" (defScope st__law_all) f cdv A outer s H E).N.Nodup := sc__law_all.nd
  have tk := takes_of (X := cxD P w K mg base ["x", "base", "made", "rule", "sign", "told", "one"] "_law_all" (defScope st__law_all) f cdv A outer s H E) (E := E) rfl rfl rfl rfl
  have po := passes_of (X := cxD P w K mg base ["x", "base", "made", "rule", "sign", "told", "one"] "_law_all" (defScope st__law_all) f cdv A outer s H E) rfl
  exact (fss_cons (fs_asg 2 fe_dic0 hN)
    (fss_cons (fs_for po hcalm (fi_val (fe_cl0 d__law_kd_rules (hr.mono (by decide)) hgd tk)) (fg_nm 3 hN) (fss_cons (fs_asgT (fe_cl d__law_divided (hr.mono (by decide)) hgd tk (fa_cons (fe_var 3) (fa_cons (fe_var 0) (fa_cons (fe_var 1) fa_nil)))) (fg_tup hcalm (fgs_cons (fg_nm 4 hN) (fgs_cons (fg_nm 5 hN) fgs_nil))))
    (fss_cons (fs_if (ft_w (fw_or (ft_cmp (of_ne hu) (fe_var 4) fe_str) (fw_or (ft_not (ft_val (fe_callB of_isi n_isinstance rfl (fa_cons (fe_var 5) (fa_cons (fe_ty (T := "tuple") n_tuple rfl) fa_nil))))) (fw_or1 (ft_cmp (of_ne hu) (fe_lc (own := [("one", 6)]) hcalm hN (fi_val (fe_var 5)) rfl (by decide) (fun s5 H5 C5 cl5 fp5 => (fg_nm 6 hN)) (fun s5 H5 C5 cl5 fp5 => (fts_one (ft_not (ft_val (fe_cl d__law_kd_is_whole (hr.mono (by decide)) hgd takes0 (fa_cons (fe_var 6) fa_nil)))))) (fun s5 H5 C5 cl5 fp5 => (fe_var 6))) (fe_lst fa_nil)))))) (fss_one (fs_ret fe_non)) fss_nil)
    (fss_cons (fs_if (ft_w (fw_or (ft_cmp (of_ne hu) (fe_callB of_len n_len rfl (fa_cons (fe_var 5) fa_nil)) fe_int) (fw_or (ft_cmp (of_ne hu) (fe_bin of_add (fe_bin of_mul (fe_ix hu1 (fe_var 5) fe_int) (fe_var 1)) (fe_ix hu1 (fe_var 5) fe_int)) (fe_var 0)) (fw_or1 (ft_cmp of_ge (fe_callB of_abs n_abs rfl (fa_cons (fe_ix hu1 (fe_var 5) fe_int) fa_nil)) (fe_callB of_abs n_abs rfl (fa_cons (fe_var 1) fa_nil))))))) (fss_one (fs_ret fe_non)) fss_nil)
    (fss_one (fs_dset hu1 (fe_var 2) (fe_var 3) (fe_var 5)))))))
    (fss_one (fs_ret (fe_var 2)))))
abbrev st__law_hang_right : Stmt := top 47
theorem sc__law_hang_right : FnScope ["x", "base", "told", "turned", "other", "down", "up", "zero", "near"] ["x", "base"] (defScope st__law_hang_right) := ⟨rfl, rfl, rfl, by decide +kernel, rfl, by decide +kernel, by decide +kernel⟩
theorem w__law_hang_right (F : FnP K "_law_hang_right" st__law_hang_right f fd) (d__law_all : Kn P w K mg base 7 "_law_all" ["x", "base"] g__law_all) (n_abs : mg "abs" = none) (n_int : mg "int" = none) : FnF P w K mg base 8 f fd ["x", "base"] g__law_hang_right := by
  refine fnF_of (N := ["x", "base", "told", "turned", "other", "down", "up", "zero", "near"]) (k := 7) (ev := e__law_hang_right) F sc__law_hang_right fun cdv A outer s H E ρ hr hgd hcd => ?_
  have hu := hr.units
  have hu1 : _ + 1 < cLine := Nat.lt_of_le_of_lt (Nat.add_le_add_left (by decide) _) hu
  have hgd : (A.deeper (envOfC "_law_hang_right" (defScope st__law_hang_right) s.heap.objs.size f cdv)).guards = some [] := hgd
  have hcalm : (cxD P w K mg base ["x", "base", "told", "turned", "other", "down", "up", "zero", "near"] "_law_hang_right" (defScope st__law_hang_right) f cdv A outer s H E).calm = true := rfl
  have hN : (cxD P w K mg base ["x", "base", "told", "turned", "other", "down", "up", "zero", "near"] "_law_hang_right" (defScope st__law_hang_right) f cdv A outer s H E).N.Nodup := sc__law_hang_right.nd
  have tk := takes_of (X := cxD P w K mg base ["x", "base", "told", "turned", "other", "down", "up", "zero", "near"] "_law_hang_right" (defScope st__law_hang_right) f cdv A outer s H E) (E := E) rfl rfl rfl rfl
  have po := passes_of (X := cxD P w K mg base ["x", "base", "told", "turned", "other", "down", "up", "zero", "near"] "_law_hang_right" (defScope st__law_hang_right) f cdv A outer s H E) rfl
  exact (fss_cons (fs_par3 (i := 2) (j := 3) (k := 4) hcalm hN (fa_cons (fe_cl d__law_all (hr.mono (by decide)) hgd tk (fa_cons (fe_var 0) (fa_cons (fe_var 1) fa_nil))) (fa_cons (fe_cl d__law_all (hr.mono (by decide)) hgd tk (fa_cons (fe_neg (fe_var 0)) (fa_cons (fe_var 1) fa_nil))) (fa_cons (fe_cl d__law_all (hr.mono (by decide)) hgd tk (fa_cons (fe_var 0) (fa_cons (fe_neg (fe_var 1)) fa_nil))) fa_nil))))
    (fss_cons (fs_if (ft_w (fw_or (ft_cmp of_is (fe_var 2) fe_non) (fw_or (ft_cmp of_is (fe_var 3) fe_non) (fw_or1 (ft_cmp of_is (fe_var 4) fe_non))))) (fss_one (fs_ret fe_bl)) fss_nil)
    (fss_cons (fs_par3 (i := 5) (j := 6) (k := 7) hcalm hN (fa_cons (fe_ix hu1 (fe_ix hu1 (fe_var 2) fe_str) fe_int) (fa_cons (fe_ix hu1 (fe_ix hu1 (fe_var 2) fe_str) fe_int) (fa_cons (fe_ix hu1 (fe_ix hu1 (fe_var 2) fe_str) fe_int) fa_nil))))
    (fss_cons (fs_if (ft_w (fw_or (ft_cmp (of_ne hu) (fe_bin of_sub (fe_var 6) (fe_var 5)) (fe_callTy of_int n_int rfl (fa_cons (fe_cmp (of_ne hu) (fe_bin of_mod (fe_var 0) (fe_var 1)) fe_int) fa_nil))) (fw_or (ft_cmp of_gt (fe_callB of_abs n_abs rfl (fa_cons (fe_var 7) fa_nil)) (fe_callB of_abs n_abs rfl (fa_cons (fe_var 5) fa_nil))) (fw_or (ft_cmp of_gt (fe_callB of_abs n_abs rfl (fa_cons (fe_var 7) fa_nil)) (fe_callB of_abs n_abs rfl (fa_cons (fe_var 6) fa_nil))) (fw_or1 (ft_cmp (of_nin hu) (fe_var 7) (fe_tup (fa_cons (fe_var 5) (fa_cons (fe_var 6) fa_nil))))))))) (fss_one (fs_ret fe_bl)) fss_nil)
    (fss_cons (fs_if (ft_w (fw_or (ft_cmp (of_ne hu) (fe_ix hu1 (fe_ix hu1 (fe_var 2) fe_str) fe_int) (fe_ifExp (ft_cmp of_gt (fe_var 1) fe_int) (fe_var 5) (fe_var 6))) (fw_or1 (ft_cmp of_lt (fe_ix hu1 (fe_ix hu1 (fe_var 2) fe_str) fe_int) fe_int)))) (fss_one (fs_ret fe_bl)) fss_nil)
    (fss_cons (fs_asg 8 (fe_ix hu1 (fe_ix hu1 (fe_var 2) fe_str) fe_int) hN)
    (fss_cons (fs_if (ft_w (fw_or (ft_cmp of_gt (fe_bin of_mul fe_int (fe_callB of_abs n_abs rfl (fa_cons (fe_var 8) fa_nil))) (fe_callB of_abs n_abs rfl (fa_cons (fe_var 1) fa_nil))) (fw_or (ft_cmp (of_eq hu) (fe_bin of_mul fe_int (fe_var 8)) (fe_neg (fe_callB of_abs n_abs rfl (fa_cons (fe_var 1) fa_nil)))) (fw_or1 (ft_cmp (of_nin hu) (fe_ix hu1 (fe_ix hu1 (fe_var 2) fe_str) fe_int) (fe_tup (fa_cons (fe_var 5) (fa_cons (fe_var 6) fa_nil)))))))) (fss_one (fs_ret fe_bl)) fss_nil)
    (fss_cons (fs_if (ft_w (fw_or (ft_cmp (of_ne hu) (fe_ix hu1 (fe_ix hu1 (fe_var 3) fe_str) fe_int) (fe_neg (fe_var 5))) (fw_or (ft_cmp (of_ne hu) (fe_ix hu1 (fe_ix hu1 (fe_var 3) fe_str) fe_int) (fe_neg (fe_var 6))) (fw_or1 (ft_cmp (of_ne hu) (fe_ix hu1 (fe_ix hu1 (fe_var 3) fe_str) fe_int) (fe_neg (fe_var 7))))))) (fss_one (fs_ret fe_bl)) fss_nil)
    (fss_one (fs_ret (fe_and (fe_cmp (of_eq hu) (fe_ix hu1 (fe_ix hu1 (fe_var 4) fe_str) fe_int) (fe_neg (fe_var 7))) (fe_and (fe_cmp (of_eq hu) (fe_ix hu1 (fe_ix hu1 (fe_var 4) fe_str) fe_int) (fe_neg (fe_var 6))) (fe_one (fe_cmp (of_eq hu) (fe_ix hu1 (fe_ix hu1 (fe_var 4) fe_str) fe_int) (fe_ix hu1 (fe_ix hu1 (fe_var 2) fe_str) fe_int)))))))))))))))
abbrev st__law_pool : Stmt := top 35
theorem sc__law_pool : FnScope ["script", "digits", "stirred", "at", "cell"] ["script"] (defScope st__law_pool) := ⟨rfl, rfl, rfl, by decide +kernel, rfl, by decide +kernel, by decide +kernel⟩
theorem w__law_pool (F : FnP K "_law_pool" st__law_pool f fd) (n_int : mg "int" = none) (n_len : mg "len" = none) (n_range : mg "range" = none) : FnF P w K mg base 1 f fd ["script"] g__law_pool := by
  refine fnF_of (N := ["script", "digits", "stirred", "at", "cell"]) (k := 0) (ev := e__law_pool) F sc__law_pool fun cdv A outer s H E ρ hr hgd hcd => ?_
  have hu := hr.units
  have hu1 : _ + 1 < cLine := Nat.lt_of_le_of_lt (Nat.add_le_add_left (by decide) _) hu
  have hgd : (A.deeper (envOfC "_law_pool" (defScope st__law_pool) s.heap.objs.size f cdv)).guards = some [] := hgd
  have hcalm : (cxD P w K mg base ["script", "digits", "stirred", "at", "cell"] "_law_pool" (defScope st__law_pool) f cdv A outer s H E).calm = true := rfl
  have hN : (cxD P w K mg base ["script", "digits", "stirred", "at", "cell"] "_law_pool" (defScope st__law_pool) f cdv A outer s H E).N.Nodup := sc__law_pool.nd
  have tk := takes_of (X := cxD P w K mg base ["script", "digits", "stirred", "at", "cell"] "_law_pool" (defScope st__law_pool) f cdv A outer s H E) (E := E) rfl rfl rfl rfl
  have po := passes_of (X := cxD P w K mg base ["script", "digits", "stirred", "at", "cell"] "_law_pool" (defScope st__law_pool) f cdv A outer s H E) rfl
  exact (fss_cons (fs_asgT (fe_tup (fa_cons fe_int (fa_cons fe_int fa_nil))) (fg_tup hcalm (fgs_cons (fg_nm 1 hN) (fgs_cons (fg_nm 2 hN) fgs_nil))))
    (fss_cons (fs_for po hcalm (fi_rng1 n_range (fa_cons (fe_callB of_len n_len rfl (fa_cons (fe_var 0) fa_nil)) fa_nil)) (fg_nm 3 hN) (fss_cons (fs_asg 4 (fe_ifExp (ft_cmp of_ge (fe_ix hu1 (fe_var 0) (fe_var 3)) fe_int) (fe_callTy of_int n_int rfl (fa_cons (fe_ix hu1 (fe_var 0) (fe_var 3)) fa_nil)) (fe_callTy of_int n_int rfl (fa_cons (fe_bin of_sub (fe_neg fe_int) (fe_ix hu1 (fe_var 0) (fe_var 3))) fa_nil))) hN)
    (fss_cons (fs_asg 2 (fe_bin of_mod (fe_callTy of_int n_int rfl (fa_cons (fe_bin of_add (fe_bin of_add (fe_bin of_mul (fe_var 2) fe_int) (fe_bin of_mod (fe_var 4) fe_int)) fe_int) fa_nil)) fe_int) hN)
    (fss_one (fs_asg 1 (fe_ifExp (ft_w (fw_and (ft_cmp of_ge (fe_var 4) (fe_bin of_pow fe_int fe_int)) (fw_and1 (ft_cmp of_lt (fe_var 1) (fe_bin of_pow fe_int fe_int))))) (fe_callTy of_int n_int rfl (fa_cons (fe_bin of_add (fe_bin of_mul (fe_var 1) (fe_bin of_pow fe_int fe_int)) (fe_bin of_mod (fe_var 4) (fe_bin of_pow fe_int fe_int))) fa_nil)) (fe_var 1)) hN)))))
    (fss_one (fs_ret (fe_lst (fa_cons (fe_var 1) (fa_cons (fe_var 2) (fa_cons fe_int fa_nil))))))))
abbrev st__law_kd_divide : Stmt := top 39
theorem sc__law_kd_divide : FnScope ["rule", "x", "base", "size", "quotient", "left"] ["rule", "x", "base"] (defScope st__law_kd_divide) := ⟨rfl, rfl, rfl, by decide +kernel, rfl, by decide +kernel, by decide +kernel⟩
theorem w__law_kd_divide (F : FnP K "_law_kd_divide" st__law_kd_divide f fd) (n_abs : mg "abs" = none) : FnF P w K mg base 1 f fd ["rule", "x", "base"] g__law_kd_divide := by
  refine fnF_of (N := ["rule", "x", "base", "size", "quotient", "left"]) (k := 0) (ev := e__law_kd_divide) F sc__law_kd_divide fun cdv A outer s H E ρ hr hgd hcd => ?_
  have hu := hr.units
  have hu1 : _ + 1 < cLine := Nat.lt_of_le_of_lt (Nat.add_le_add_left (by decide) _) hu
  have hgd : (A.deeper (envOfC "_law_kd_divide" (defScope st__law_kd_divide) s.heap.objs.size f cdv)).guards = some [] := hgd
  have hcalm : (cxD P w K mg base ["rule", "x", "base", "size", "quotient", "left"] "_law_kd_divide" (defScope st__law_kd_divide) f cdv A outer s H E).calm = true := rfl
  have hN : (cxD P w K mg base ["rule", "x", "base", "size", "quotient", "left"] "_law_kd_divide" (defScope st__law_kd_divide) f cdv A outer s H E).N.Nodup := sc__law_kd_divide.nd
  have tk := takes_of (X := cxD P w K mg base ["rule", "x", "base", "size", "quotient", "left"] "_law_kd_divide" (defScope st__law_kd_divide) f cdv A outer s H E) (E := E) rfl rfl rfl rfl
  have po := passes_of (X := cxD P w K mg base ["rule", "x", "base", "size", "quotient", "left"] "_law_kd_divide" (defScope st__law_kd_divide) f cdv A outer s H E) rfl
  exact (fss_cons (fs_asg 3 (fe_callB of_abs n_abs rfl (fa_cons (fe_var 2) fa_nil)) hN)
    (fss_cons (fs_if (ft_cmp (of_eq hu) (fe_var 0) fe_str) (fss_one (fs_asg 0 (fe_ifExp (ft_cmp (of_eq hu) (fe_cmp of_ge (fe_var 1) fe_int) (fe_cmp of_gt (fe_var 2) fe_int)) fe_str fe_str) hN)) fss_nil)
    (fss_cons (fs_if (ft_cmp (of_eq hu) (fe_var 0) fe_str) (fss_one (fs_asg 4 (fe_bin of_div (fe_var 1) (fe_var 2)) hN)) (fss_one (fs_if (ft_cmp (of_eq hu) (fe_var 0) fe_str) (fss_one (fs_asg 4 (fe_neg (fe_bin of_div (fe_neg (fe_var 1)) (fe_var 2))) hN)) (fss_cons (fs_asg 5 (fe_bin of_mod (fe_var 1) (fe_var 3)) hN)
    (fss_cons (fs_asg 5 (fe_ifExp (ft_w (fw_and (ft_cmp (of_eq hu) (fe_var 0) fe_str) (fw_and1 (ft_cmp of_gt (fe_bin of_mul fe_int (fe_var 5)) (fe_var 3))))) (fe_bin of_sub (fe_var 5) (fe_var 3)) (fe_var 5)) hN)
    (fss_one (fs_asg 4 (fe_bin of_div (fe_bin of_sub (fe_var 1) (fe_var 5)) (fe_var 2)) hN)))))))
    (fss_one (fs_ret (fe_tup (fa_cons (fe_var 4) (fa_cons (fe_bin of_sub (fe_var 1) (fe_bin of_mul (fe_var 4) (fe_var 2))) fa_nil))))))))
abbrev st_carried : Stmt := top 32
theorem sc_carried : FnScope ["rule", "sign", "base", "figure", "size"] ["rule", "sign", "base", "figure"] (defScope st_carried) := ⟨rfl, rfl, rfl, by decide +kernel, rfl, by decide +kernel, by decide +kernel⟩
theorem w_carried (F : FnP K "carried" st_carried f fd) (d_is_greater : Kn P w K mg base 1 "is_greater" ["rule", "sign", "divisor_sign", "part", "size"] g_is_greater) (d_sign_of : Kn P w K mg base 1 "sign_of" ["number"] g_sign_of) (n_abs : mg "abs" = none) : FnF P w K mg base 2 f fd ["rule", "sign", "base", "figure"] g_carried := by
  refine fnF_of (N := ["rule", "sign", "base", "figure", "size"]) (k := 1) (ev := e_carried) F sc_carried fun cdv A outer s H E ρ hr hgd hcd => ?_
  have hu := hr.units
  have hu1 : _ + 1 < cLine := Nat.lt_of_le_of_lt (Nat.add_le_add_left (by decide) _) hu
  have hgd : (A.deeper (envOfC "carried" (defScope st_carried) s.heap.objs.size f cdv)).guards = some [] := hgd
  have hcalm : (cxD P w K mg base ["rule", "sign", "base", "figure", "size"] "carried" (defScope st_carried) f cdv A outer s H E).calm = true := rfl
  have hN : (cxD P w K mg base ["rule", "sign", "base", "figure", "size"] "carried" (defScope st_carried) f cdv A outer s H E).N.Nodup := sc_carried.nd
  have tk := takes_of (X := cxD P w K mg base ["rule", "sign", "base", "figure", "size"] "carried" (defScope st_carried) f cdv A outer s H E) (E := E) rfl rfl rfl rfl
  have po := passes_of (X := cxD P w K mg base ["rule", "sign", "base", "figure", "size"] "carried" (defScope st_carried) f cdv A outer s H E) rfl
  exact (fss_cons (fs_asg 4 (fe_callB of_abs n_abs rfl (fa_cons (fe_var 2) fa_nil)) hN)
    (fss_cons (fs_if (ft_cmp (of_eq hu) (fe_var 3) (fe_var 4)) (fss_one (fs_ret (fe_tup (fa_cons fe_int (fa_cons fe_int fa_nil))))) fss_nil)
    (fss_cons (fs_if (ft_w (fw_and (ft_cmp of_gt (fe_var 3) fe_int) (fw_and1 (ft_val (fe_cl d_is_greater (hr.mono (by decide)) hgd tk (fa_cons (fe_var 0) (fa_cons (fe_var 1) (fa_cons (fe_cl d_sign_of (hr.mono (by decide)) hgd tk (fa_cons (fe_var 2) fa_nil)) (fa_cons (fe_var 3) (fa_cons (fe_var 4) fa_nil)))))))))) (fss_one (fs_ret (fe_tup (fa_cons fe_int (fa_cons (fe_bin of_mul (fe_var 1) (fe_bin of_sub (fe_var 3) (fe_var 4))) fa_nil))))) fss_nil)
    (fss_one (fs_ret (fe_tup (fa_cons fe_int (fa_cons (fe_bin of_mul (fe_var 1) (fe_var 3)) fa_nil))))))))
abbrev st_is_base : Stmt := top 22
theorem sc_is_base : FnScope ["value"] ["value"] (defScope st_is_base) := ⟨rfl, rfl, rfl, by decide +kernel, rfl, by decide +kernel, by decide +kernel⟩
theorem w_is_base (F : FnP K "is_base" st_is_base f fd) (d_is_integer : Kn P w K mg base 1 "is_integer" ["value"] g_is_integer) (n_abs : mg "abs" = none) : FnF P w K mg base 2 f fd ["value"] g_is_base := by
  refine fnF_of (N := ["value"]) (k := 1) (ev := e_is_base) F sc_is_base fun cdv A outer s H E ρ hr hgd hcd => ?_
  have hu := hr.units
  have hu1 : _ + 1 < cLine := Nat.lt_of_le_of_lt (Nat.add_le_add_left (by decide) _) hu
  have hgd : (A.deeper (envOfC "is_base" (defScope st_is_base) s.heap.objs.size f cdv)).guards = some [] := hgd
  have hcalm : (cxD P w K mg base ["value"] "is_base" (defScope st_is_base) f cdv A outer s H E).calm = true := rfl
  have hN : (cxD P w K mg base ["value"] "is_base" (defScope st_is_base) f cdv A outer s H E).N.Nodup := sc_is_base.nd
  have tk := takes_of (X := cxD P w K mg base ["value"] "is_base" (defScope st_is_base) f cdv A outer s H E) (E := E) rfl rfl rfl rfl
  have po := passes_of (X := cxD P w K mg base ["value"] "is_base" (defScope st_is_base) f cdv A outer s H E) rfl
  exact (fss_one (fs_ret (fe_and (fe_cl d_is_integer (hr.mono (by decide)) hgd tk (fa_cons (fe_var 0) fa_nil)) (fe_one (fe_chain of_le of_le fe_int (fe_callB of_abs n_abs rfl (fa_cons (fe_var 0) fa_nil)) fe_int)))))
abbrev st_is_between : Stmt := top 21
theorem sc_is_between : FnScope ["value", "least", "greatest"] ["value", "least", "greatest"] (defScope st_is_between) := ⟨rfl, rfl, rfl, by decide +kernel, rfl, by decide +kernel, by decide +kernel⟩
theorem w_is_between (F : FnP K "is_between" st_is_between f fd) (d_is_integer : Kn P w K mg base 1 "is_integer" ["value"] g_is_integer) : FnF P w K mg base 2 f fd ["value", "least", "greatest"] g_is_between := by
  refine fnF_of (N := ["value", "least", "greatest"]) (k := 1) (ev := e_is_between) F sc_is_between fun cdv A outer s H E ρ hr hgd hcd => ?_
  have hu := hr.units
  have hu1 : _ + 1 < cLine := Nat.lt_of_le_of_lt (Nat.add_le_add_left (by decide) _) hu
  have hgd : (A.deeper (envOfC "is_between" (defScope st_is_between) s.heap.objs.size f cdv)).guards = some [] := hgd
  have hcalm : (cxD P w K mg base ["value", "least", "greatest"] "is_between" (defScope st_is_between) f cdv A outer s H E).calm = true := rfl
  have hN : (cxD P w K mg base ["value", "least", "greatest"] "is_between" (defScope st_is_between) f cdv A outer s H E).N.Nodup := sc_is_between.nd
  have tk := takes_of (X := cxD P w K mg base ["value", "least", "greatest"] "is_between" (defScope st_is_between) f cdv A outer s H E) (E := E) rfl rfl rfl rfl
  have po := passes_of (X := cxD P w K mg base ["value", "least", "greatest"] "is_between" (defScope st_is_between) f cdv A outer s H E) rfl
  exact (fss_one (fs_ret (fe_and (fe_cl d_is_integer (hr.mono (by decide)) hgd tk (fa_cons (fe_var 0) fa_nil)) (fe_one (fe_chain of_le of_le (fe_var 1) (fe_var 0) (fe_var 2))))))
abbrev st_is_sign : Stmt := top 23
theorem sc_is_sign : FnScope ["value"] ["value"] (defScope st_is_sign) := ⟨rfl, rfl, rfl, by decide +kernel, rfl, by decide +kernel, by decide +kernel⟩
theorem w_is_sign (F : FnP K "is_sign" st_is_sign f fd) (d_is_integer : Kn P w K mg base 1 "is_integer" ["value"] g_is_integer) : FnF P w K mg base 2 f fd ["value"] g_is_sign := by
  refine fnF_of (N := ["value"]) (k := 1) (ev := e_is_sign) F sc_is_sign fun cdv A outer s H E ρ hr hgd hcd => ?_
  have hu := hr.units
  have hu1 : _ + 1 < cLine := Nat.lt_of_le_of_lt (Nat.add_le_add_left (by decide) _) hu
  have hgd : (A.deeper (envOfC "is_sign" (defScope st_is_sign) s.heap.objs.size f cdv)).guards = some [] := hgd
  have hcalm : (cxD P w K mg base ["value"] "is_sign" (defScope st_is_sign) f cdv A outer s H E).calm = true := rfl
  have hN : (cxD P w K mg base ["value"] "is_sign" (defScope st_is_sign) f cdv A outer s H E).N.Nodup := sc_is_sign.nd
  have tk := takes_of (X := cxD P w K mg base ["value"] "is_sign" (defScope st_is_sign) f cdv A outer s H E) (E := E) rfl rfl rfl rfl
  have po := passes_of (X := cxD P w K mg base ["value"] "is_sign" (defScope st_is_sign) f cdv A outer s H E) rfl
  exact (fss_one (fs_ret (fe_and (fe_cl d_is_integer (hr.mono (by decide)) hgd tk (fa_cons (fe_var 0) fa_nil)) (fe_one (fe_cmp (of_in hu) (fe_var 0) (fe_tup (fa_cons (fe_neg fe_int) (fa_cons fe_int fa_nil))))))))
abbrev st_carry : Stmt := top 33
theorem sc_carry : FnScope ["rule", "sign", "base", "figure"] ["rule", "sign", "base", "figure"] (defScope st_carry) := ⟨rfl, rfl, rfl, by decide +kernel, rfl, by decide +kernel, by decide +kernel⟩
theorem w_carry (F : FnP K "carry" st_carry f fd) (d_carried : Kn P w K mg base 2 "carried" ["rule", "sign", "base", "figure"] g_carried) (d_is_base : Kn P w K mg base 2 "is_base" ["value"] g_is_base) (d_is_between : Kn P w K mg base 2 "is_between" ["value", "least", "greatest"] g_is_between) (d_is_sign : Kn P w K mg base 2 "is_sign" ["value"] g_is_sign) (d_require_rule : Kn P w K mg base 2 "require_rule" ["value"] g_require_rule) (n_abs : mg "abs" = none) : FnF P w K mg base 3 f fd ["rule", "sign", "base", "figure"] g_carry := by
  refine fnF_of (N := ["rule", "sign", "base", "figure"]) (k := 2) (ev := e_carry) F sc_carry fun cdv A outer s H E ρ hr hgd hcd => ?_
  have hu := hr.units
  have hu1 : _ + 1 < cLine := Nat.lt_of_le_of_lt (Nat.add_le_add_left (by decide) _) hu
  have hgd : (A.deeper (envOfC "carry" (defScope st_carry) s.heap.objs.size f cdv)).guards = some [] := hgd
  have hcalm : (cxD P w K mg base ["rule", "sign", "base", "figure"] "carry" (defScope st_carry) f cdv A outer s H E).calm = true := rfl
  have hN : (cxD P w K mg base ["rule", "sign", "base", "figure"] "carry" (defScope st_carry) f cdv A outer s H E).N.Nodup := sc_carry.nd
  have tk := takes_of (X := cxD P w K mg base ["rule", "sign", "base", "figure"] "carry" (defScope st_carry) f cdv A outer s H E) (E := E) rfl rfl rfl rfl
  have po := passes_of (X := cxD P w K mg base ["rule", "sign", "base", "figure"] "carry" (defScope st_carry) f cdv A outer s H E) rfl
  exact (fss_cons (fs_expr (fe_cl d_require_rule (hr.mono (by decide)) hgd tk (fa_cons (fe_var 0) fa_nil)))
    (fss_cons (fs_if (ft_not (ft_val (fe_cl d_is_sign (hr.mono (by decide)) hgd tk (fa_cons (fe_var 1) fa_nil)))) (fss_one fs_no) fss_nil)
    (fss_cons (fs_if (ft_not (ft_val (fe_cl d_is_base (hr.mono (by decide)) hgd tk (fa_cons (fe_var 2) fa_nil)))) (fss_one fs_no) fss_nil)
    (fss_cons (fs_if (ft_not (ft_val (fe_cl d_is_between (hr.mono (by decide)) hgd tk (fa_cons (fe_var 3) (fa_cons fe_int (fa_cons (fe_callB of_abs n_abs rfl (fa_cons (fe_var 2) fa_nil)) fa_nil)))))) (fss_one fs_no) fss_nil)
    (fss_one (fs_ret (fe_cl d_carried (hr.mono (by decide)) hgd tk (fa_cons (fe_var 0) (fa_cons (fe_var 1) (fa_cons (fe_var 2) (fa_cons (fe_var 3) fa_nil)))))))))))
abbrev st__law_row_right : Stmt := top 48
theorem sc__law_row_right : FnScope ["jar", "number", "size", "x", "figures", "whole", "told", "led", "base", "figure", "more", "rule", "sign"] ["jar"] (defScope st__law_row_right) := ⟨rfl, rfl, rfl, by decide +kernel, rfl, by decide +kernel, by decide +kernel⟩
theorem w__law_row_right (F : FnP K "_law_row_right" st__law_row_right f fd) (d__law_divided : Kn P w K mg base 6 "_law_divided" ["rule", "x", "base"] g__law_divided) (d__law_kd_divide : Kn P w K mg base 1 "_law_kd_divide" ["rule", "x", "base"] g__law_kd_divide) (d__law_kd_figures : Kn P w K mg base 1 "_law_kd_figures" ["number", "size"] g__law_kd_figures) (d__law_kd_rules : Kn P w K mg base 1 "_law_kd_rules" [] g__law_kd_rules) (d__law_kg_base : Kn P w K mg base 3 "_law_kg_base" ["jar"] g__law_kg_base) (d__law_kg_integer : Kn P w K mg base 3 "_law_kg_integer" ["jar"] g__law_kg_integer) (d__law_kh_heard : KnH P w K mg base 5 4 "_law_kh_heard" ["call"] g__law_kh_heard) (d__law_one : Kn P w K mg base 2 "_law_one" ["jar", "things"] g__law_one) (d_carry : Kn P w K mg base 3 "carry" ["rule", "sign", "base", "figure"] g_carry) (n_abs : mg "abs" = none) (n_isinstance : mg "isinstance" = none) (n_len : mg "len" = none) (n_repr : mg "repr" = none) (n_tuple : mg "tuple" = none) {c0 P0 : Addr} (hcode0 : fd.code = .ref c0) (hTB : LamX.TabB base mg c0 P0) (hT : (P0, lamQ (("_law_row_right" : Str) ++ ".<locals>.")) ∈ LamT.T K) (hTu : ∀ q ∈ LamT.T K, q.1 = P0 → q.2 = lamQ (("_law_row_right" : Str) ++ ".<locals>.")) : FnF P w K mg base 7 f fd ["jar"] g__law_row_right := by
  refine fnF_of (N := ["jar", "number", "size", "x", "figures", "whole", "told", "led", "base", "figure", "more", "rule", "sign"]) (k := 6) (ev := e__law_row_right) F sc__law_row_right fun cdv A outer s H E ρ hr hgd hcd => ?_
  have hu := hr.units
  have hu1 : _ + 1 < cLine := Nat.lt_of_le_of_lt (Nat.add_le_add_left (by decide) _) hu
  have hgd : (A.deeper (envOfC "_law_row_right" (defScope st__law_row_right) s.heap.objs.size f cdv)).guards = some [] := hgd
  have hcalm : (cxD P w K mg base ["jar", "number", "size", "x", "figures", "whole", "told", "led", "base", "figure", "more", "rule", "sign"] "_law_row_right" (defScope st__law_row_right) f cdv A outer s H E).calm = true := rfl
  have hN : (cxD P w K mg base ["jar", "number", "size", "x", "figures", "whole", "told", "led", "base", "figure", "more", "rule", "sign"] "_law_row_right" (defScope st__law_row_right) f cdv A outer s H E).N.Nodup := sc__law_row_right.nd
  have tk := takes_of (X := cxD P w K mg base ["jar", "number", "size", "x", "figures", "whole", "told", "led", "base", "figure", "more", "rule", "sign"] "_law_row_right" (defScope st__law_row_right) f cdv A outer s H E) (E := E) rfl rfl rfl rfl
  have po := passes_of (X := cxD P w K mg base ["jar", "number", "size", "x", "figures", "whole", "told", "led", "base", "figure", "more", "rule", "sign"] "_law_row_right" (defScope st__law_row_right) f cdv A outer s H E) rfl
  have hcode : (cxD P w K mg base ["jar", "number", "size", "x", "figures", "whole", "told", "led", "base", "figure", "more", "rule", "sign"] "_law_row_right" (defScope st__law_row_right) f cdv A outer s H E).env.code = .ref c0 := hcd.symm.trans hcode0
  exact (fss_cons (fs_asgT (fe_tup (fa_cons (fe_cl d__law_kg_base (hr.mono (by decide)) hgd tk (fa_cons (fe_var 0) fa_nil)) (fa_cons (fe_cl d__law_kg_integer (hr.mono (by decide)) hgd tk (fa_cons (fe_var 0) fa_nil)) fa_nil))) (fg_tup hcalm (fgs_cons (fg_nm 8 hN) (fgs_cons (fg_nm 1 hN) fgs_nil))))
    (fss_cons (fs_asgT (fe_tup (fa_cons (fe_callB of_abs n_abs rfl (fa_cons (fe_var 8) fa_nil)) (fa_cons (fe_var 1) (fa_cons (fe_ifExp (ft_cmp of_ge (fe_var 1) fe_int) fe_int (fe_neg fe_int)) (fa_cons fe_int fa_nil))))) (fg_tup hcalm (fgs_cons (fg_nm 2 hN) (fgs_cons (fg_nm 3 hN) (fgs_cons (fg_nm 12 hN) (fgs_cons (fg_nm 10 hN) fgs_nil))))))
    (fss_cons (fs_asg 4 (fe_bin of_add (fe_cl d__law_kd_figures (hr.mono (by decide)) hgd tk (fa_cons (fe_var 1) (fa_cons (fe_var 2) fa_nil))) (fe_tup (fa_cons fe_int (fa_cons fe_int (fa_cons fe_int fa_nil))))) hN)
    (fss_cons (fs_asg 5 (fe_callB of_abs n_abs rfl (fa_cons (fe_var 1) fa_nil)) hN)
    (fss_cons (fs_for po hcalm (fi_val (fe_slice (fe_var 4) fo_none (fo_some fe_int))) (fg_nm 9 hN) (fss_cons (fs_asg 11 (fe_cl d__law_one (hr.mono (by decide)) hgd tk (fa_cons (fe_var 0) (fa_cons (fe_cl0 d__law_kd_rules (hr.mono (by decide)) hgd tk) fa_nil))) hN)
    (fss_cons (fs_par (i := 6) (j := 7) hcalm hN (fa_cons (fe_cl d__law_divided (hr.mono (by decide)) hgd tk (fa_cons (fe_var 11) (fa_cons (fe_var 3) (fa_cons (fe_var 8) fa_nil)))) (fa_cons (fe_lm_ d__law_kh_heard (hr.mono (by decide)) hgd tk hTB hcode hT hTu (by kernel_rfl) (fun f2 c2 A2 o2 s2 H2 E2 ρ2 hrL hgdL => (fe_cl d_carry (hrL.mono (by decide)) hgdL lam_takes (fa_cons (fe_var 11) (fa_cons (fe_var 12) (fa_cons (fe_var 8) (fa_cons (fe_bin of_add (fe_var 9) (fe_var 10)) fa_nil)))))) fa_nil) fa_nil)))
    (fss_cons (fs_if (ft_w (fw_or (ft_cmp (of_ne hu) (fe_ix hu1 (fe_var 6) fe_int) fe_str) (fw_or (ft_cmp (of_ne hu) (fe_ix hu1 (fe_var 7) fe_int) fe_str) (fw_or1 (ft_cmp (of_ne hu) (fe_callB (of_repr hgd hu) n_repr rfl (fa_cons (fe_ix hu1 (fe_var 6) fe_int) fa_nil)) (fe_callB (of_repr hgd hu) n_repr rfl (fa_cons (fe_cl d__law_kd_divide (hr.mono (by decide)) hgd tk (fa_cons (fe_var 11) (fa_cons (fe_var 3) (fa_cons (fe_var 8) fa_nil)))) fa_nil))))))) (fss_one (fs_ret fe_bl)) fss_nil)
    (fss_cons (fs_par (i := 3) (j := 5) hcalm hN (fa_cons (fe_ix hu1 (fe_ix hu1 (fe_var 6) fe_int) fe_int) (fa_cons (fe_bin of_div (fe_var 5) (fe_var 2)) fa_nil)))
    (fss_cons (fs_asg 12 (fe_ifExp (ft_cmp of_gt (fe_var 8) fe_int) (fe_var 12) (fe_neg (fe_var 12))) hN)
    (fss_cons (fs_if (ft_w (fw_or (ft_not (ft_val (fe_callB of_isi n_isinstance rfl (fa_cons (fe_ix hu1 (fe_var 7) fe_int) (fa_cons (fe_ty (T := "tuple") n_tuple rfl) fa_nil))))) (fw_or (ft_cmp (of_ne hu) (fe_callB of_len n_len rfl (fa_cons (fe_ix hu1 (fe_var 7) fe_int) fa_nil)) fe_int) (fw_or1 (ft_cmp (of_ne hu) (fe_ix hu1 (fe_ix hu1 (fe_var 7) fe_int) fe_int) (fe_ix hu1 (fe_ix hu1 (fe_var 6) fe_int) fe_int)))))) (fss_one (fs_ret fe_bl)) fss_nil)
    (fss_cons (fs_asg 10 (fe_ix hu1 (fe_ix hu1 (fe_var 7) fe_int) fe_int) hN)
    (fss_one (fs_if (ft_w (fw_or (ft_cmp (of_nin hu) (fe_var 10) (fe_tup (fa_cons fe_int (fa_cons fe_int fa_nil)))) (fw_or1 (ft_cmp (of_ne hu) (fe_var 3) (fe_bin of_mul (fe_var 12) (fe_bin of_add (fe_var 5) (fe_var 10))))))) (fss_one (fs_ret fe_bl)) fss_nil))))))))))
    (fss_one (fs_ret fe_bl)))))))
abbrev st_law : Stmt := top 50
theorem sc_law : FnScope ["script", "jar", "go", "base", "x"] ["script"] (defScope st_law) := ⟨rfl, rfl, rfl, by decide +kernel, rfl, by decide +kernel, by decide +kernel⟩
theorem w_law (F : FnP K "law" st_law f fd) (d__law_far_right : Kn P w K mg base 7 "_law_far_right" ["jar"] g__law_far_right) (d__law_hang_right : Kn P w K mg base 8 "_law_hang_right" ["x", "base"] g__law_hang_right) (d__law_kg_base : Kn P w K mg base 3 "_law_kg_base" ["jar"] g__law_kg_base) (d__law_kg_integer : Kn P w K mg base 3 "_law_kg_integer" ["jar"] g__law_kg_integer) (d__law_one : Kn P w K mg base 2 "_law_one" ["jar", "things"] g__law_one) (d__law_pool : Kn P w K mg base 1 "_law_pool" ["script"] g__law_pool) (d__law_row_right : Kn P w K mg base 7 "_law_row_right" ["jar"] g__law_row_right) (n_range : mg "range" = none) : FnF P w K mg base 9 f fd ["script"] g_law := by
  refine fnF_of (N := ["script", "jar", "go", "base", "x"]) (k := 8) (ev := e_law) F sc_law fun cdv A outer s H E ρ hr hgd hcd => ?_
  have hu := hr.units
  have hu1 : _ + 1 < cLine := Nat.lt_of_le_of_lt (Nat.add_le_add_left (by decide) _) hu
  have hgd : (A.deeper (envOfC "law" (defScope st_law) s.heap.objs.size f cdv)).guards = some [] := hgd
  have hcalm : (cxD P w K mg base ["script", "jar", "go", "base", "x"] "law" (defScope st_law) f cdv A outer s H E).calm = true := rfl
  have hN : (cxD P w K mg base ["script", "jar", "go", "base", "x"] "law" (defScope st_law) f cdv A outer s H E).N.Nodup := sc_law.nd
  have tk := takes_of (X := cxD P w K mg base ["script", "jar", "go", "base", "x"] "law" (defScope st_law) f cdv A outer s H E) (E := E) rfl rfl rfl rfl
  have po := passes_of (X := cxD P w K mg base ["script", "jar", "go", "base", "x"] "law" (defScope st_law) f cdv A outer s H E) rfl
  exact (fss_cons (fs_asg 1 (fe_cl d__law_pool (hr.mono (by decide)) hgd tk (fa_cons (fe_var 0) fa_nil)) hN)
    (fss_cons (fs_for po hcalm (fi_rng1 n_range (fa_cons fe_int fa_nil)) (fg_nm 2 hN) (fss_cons (fs_asg 3 (fe_cl d__law_one (hr.mono (by decide)) hgd tk (fa_cons (fe_var 1) (fa_cons (fe_lst (fa_cons (fe_cl d__law_kg_base (hr.mono (by decide)) hgd tk (fa_cons (fe_var 1) fa_nil)) (fa_cons (fe_cl d__law_kg_base (hr.mono (by decide)) hgd tk (fa_cons (fe_var 1) fa_nil)) (fa_cons fe_int (fa_cons (fe_neg fe_int) (fa_cons (fe_bin of_add (fe_bin of_pow fe_int fe_int) fe_int) (fa_cons (fe_neg (fe_bin of_pow fe_int fe_int)) (fa_cons fe_int (fa_cons (fe_neg fe_int) fa_nil))))))))) fa_nil))) hN)
    (fss_one (fs_if (ft_not (ft_val (fe_cl d__law_hang_right (hr.mono (by decide)) hgd tk (fa_cons (fe_cl d__law_kg_integer (hr.mono (by decide)) hgd tk (fa_cons (fe_var 1) fa_nil)) (fa_cons (fe_var 3) fa_nil))))) (fss_one (fs_ret fe_bl)) fss_nil))))
    (fss_cons (fs_for po hcalm (fi_rng1 n_range (fa_cons fe_int fa_nil)) (fg_nm 2 hN) (fss_one (fs_if (ft_w (fw_or (ft_not (ft_val (fe_cl d__law_row_right (hr.mono (by decide)) hgd tk (fa_cons (fe_var 1) fa_nil)))) (fw_or1 (ft_not (ft_val (fe_cl d__law_far_right (hr.mono (by decide)) hgd tk (fa_cons (fe_var 1) fa_nil))))))) (fss_one (fs_ret fe_bl)) fss_nil)))
    (fss_cons (fs_for po hcalm (fi_rng2 n_range (fa_cons (fe_neg fe_int) (fa_cons fe_int fa_nil))) (fg_nm 4 hN) (fss_one (fs_for po hcalm (fi_val (fe_tup (fa_cons fe_int (fa_cons fe_int (fa_cons fe_int (fa_cons fe_int (fa_cons fe_int (fa_cons fe_int (fa_cons (fe_neg fe_int) (fa_cons (fe_neg fe_int) (fa_cons (fe_neg fe_int) (fa_cons (fe_neg fe_int) (fa_cons (fe_neg fe_int) (fa_cons (fe_neg fe_int) fa_nil)))))))))))))) (fg_nm 3 hN) (fss_one (fs_if (ft_not (ft_val (fe_cl d__law_hang_right (hr.mono (by decide)) hgd tk (fa_cons (fe_var 4) (fa_cons (fe_var 3) fa_nil))))) (fss_one (fs_ret fe_bl)) fss_nil)))))
    (fss_one (fs_ret fe_bl))))))
end
end LW_k15
set_option maxRecDepth 100000
set_option maxHeartbeats 0
namespace LW_k15
open PySem PySem.Spec PyProof.Rows L2 FX
def dd (i : Nat) (x : Str) : He.DefD := ⟨(x, none), x, x, defArgs (top i), defBody (top i), defScope (top i), [], []⟩
def fn : List He.DefD := [dd 44 "_law_kh_heard", dd 29 "is_greater", dd 24 "sign_of", dd 30 "divided", dd 20 "is_integer", dd 27 "is_rule", dd 28 "require_rule", dd 31 "divide", dd 45 "_law_divided", dd 41 "_law_kd_figures", dd 38 "_law_kd_rules", dd 36 "_law_take", dd 37 "_law_one", dd 42 "_law_kg_base", dd 43 "_law_kg_integer", dd 49 "_law_far_right", dd 40 "_law_kd_is_whole", dd 46 "_law_all", dd 47 "_law_hang_right", dd 35 "_law_pool", dd 39 "_law_kd_divide", dd 32 "carried", dd 22 "is_base", dd 21 "is_between", dd 23 "is_sign", dd 33 "carry", dd 48 "_law_row_right", dd 50 "law"]
def fa : List He.Fa := [.glo "_law_kh_heard", .glo "is_greater", .glo "sign_of", .glo "divided", .glo "is_integer", .glo "is_rule", .glo "require_rule", .glo "divide", .glo "_law_divided", .glo "_law_kd_figures", .glo "_law_kd_rules", .glo "_law_take", .glo "_law_one", .glo "_law_kg_base", .glo "_law_kg_integer", .glo "_law_far_right", .glo "_law_kd_is_whole", .glo "_law_all", .glo "_law_hang_right", .glo "_law_pool", .glo "_law_kd_divide", .glo "carried", .glo "is_base", .glo "is_between", .glo "is_sign", .glo "carry", .glo "_law_row_right", .glo "law", .free "abs", .free "bool", .free "divmod", .free "int", .free "isinstance", .free "len", .free "range", .free "repr", .free "str", .free "tuple"]
def tf : List He.Defn := [("_law_divided", none), ("_law_row_right", none)]
def ex (K : PySem.W.Frag) : Bool := apartB tf K && kVar "RULES" v_RULES K
def loose0 : List Str := ["RULES", "InvalidRule", "InvalidNumber", "InvalidBase", "InvalidName", "InvalidRegisters", "InvalidModes", "InvalidRow", "InvalidEnds", "InvalidResult", "InvalidProgram", "InvalidFigures", "InvalidState", "InvalidText", "InvalidSign", "UnknownName", "Endless", "DivisionByZero", "LimitExceeded", "is_integer", "is_between", "is_base", "is_sign", "sign_of", "is_rule", "require_rule", "is_greater", "divided", "divide", "carried"]
def loose1 : List Str := ["carry", "_law_pool", "_law_take", "_law_one", "_law_kd_rules", "_law_kd_divide", "_law_kd_is_whole", "_law_kd_figures", "_law_kg_base", "_law_kg_integer", "_law_kh_heard", "_law_divided", "_law_all", "_law_hang_right", "_law_row_right", "_law_far_right"]
def loose : List Str := loose0 ++ loose1
abbrev lamT : LamT := ⟨tabsOfDefs tf⟩
abbrev R : PySem.W.OpenRow := PySem.W.OpenLaw.row PySem.Challenge.rw_stillwords_k15_rules_beside_one_another
abbrev hk : PySem.W.Hook := He.hookX 4 fa fn [] tf ex
def ob (s : PySem.W.SharedT) : He.AlX := He.obsX 4 fa fn [] tf ex (HandSHeadRun.getT s)
theorem ob_eq (s : PySem.W.SharedT) : ob s = hk.obs s.abs := He.obsX_eq (HandSHeadRun.getT_eq s)
theorem run (w : World) : HandSHeadRun.RunEq R (PySem.W.view R.prog [50]) hk ob 20000 loose w := by
  intro os
  kernel_rfl
end LW_k15
set_option maxRecDepth 100000
set_option maxHeartbeats 0
namespace LW_k15
open PySem PySem.Spec PyProof.Rows L2 FX
theorem facts {P : Program} {w : World} {K : PySem.W.Frag} {h : Heap} {mg : Str → Option Value} {fa0 : Addr} (X : K.In h) (G : h.Ns mainGlobals mg) (hfa : mg ("law" : Str) = some (.ref fa0)) (c : He.SaysX fa fn [] tf ex w h K)
    (pure : ∀ ns : List Int, ns.length ≤ 63 → (∀ i ∈ ns, Builtin.Int.intBits i ≤ 1048576) → ∃ h', g_law [.ref 0] [.ro (ns.map FV.int)] = .ok (.bl true) h') : @LawF lamT P w K 9 63 "script" mg fa0 h := by
  letI := lamT
  have cd : He.SaysD fa fn K := c.t.d
  have more := c.more
  unfold ex at more
  have ⟨more0, m_RULES⟩ := (Bool.and_eq_true _ _).mp more
  have q_RULES : KnV K mg "RULES" v_RULES := knV_of X G m_RULES
  have apart : apartB tf K = true := more0
  obtain ⟨fd0, F0⟩ := cd.def_ 0 (d := dd 44 "_law_kh_heard") rfl
  have m0 : mg "_law_kh_heard" = some (.ref (He.fAd K ("_law_kh_heard", none))) := He.glo_ok X G (cd.fact 0 (f := .glo "_law_kh_heard") rfl)
  obtain ⟨fd1, F1⟩ := cd.def_ 1 (d := dd 29 "is_greater") rfl
  have m1 : mg "is_greater" = some (.ref (He.fAd K ("is_greater", none))) := He.glo_ok X G (cd.fact 1 (f := .glo "is_greater") rfl)
  obtain ⟨fd2, F2⟩ := cd.def_ 2 (d := dd 24 "sign_of") rfl
  have m2 : mg "sign_of" = some (.ref (He.fAd K ("sign_of", none))) := He.glo_ok X G (cd.fact 2 (f := .glo "sign_of") rfl)
  obtain ⟨fd3, F3⟩ := cd.def_ 3 (d := dd 30 "divided") rfl
  have m3 : mg "divided" = some (.ref (He.fAd K ("divided", none))) := He.glo_ok X G (cd.fact 3 (f := .glo "divided") rfl)
  obtain ⟨fd4, F4⟩ := cd.def_ 4 (d := dd 20 "is_integer") rfl
  have m4 : mg "is_integer" = some (.ref (He.fAd K ("is_integer", none))) := He.glo_ok X G (cd.fact 4 (f := .glo "is_integer") rfl)
  obtain ⟨fd5, F5⟩ := cd.def_ 5 (d := dd 27 "is_rule") rfl
  have m5 : mg "is_rule" = some (.ref (He.fAd K ("is_rule", none))) := He.glo_ok X G (cd.fact 5 (f := .glo "is_rule") rfl)
  obtain ⟨fd6, F6⟩ := cd.def_ 6 (d := dd 28 "require_rule") rfl
  have m6 : mg "require_rule" = some (.ref (He.fAd K ("require_rule", none))) := He.glo_ok X G (cd.fact 6 (f := .glo "require_rule") rfl)
  obtain ⟨fd7, F7⟩ := cd.def_ 7 (d := dd 31 "divide") rfl
  have m7 : mg "divide" = some (.ref (He.fAd K ("divide", none))) := He.glo_ok X G (cd.fact 7 (f := .glo "divide") rfl)
  obtain ⟨fd8, F8⟩ := cd.def_ 8 (d := dd 45 "_law_divided") rfl
  have m8 : mg "_law_divided" = some (.ref (He.fAd K ("_law_divided", none))) := He.glo_ok X G (cd.fact 8 (f := .glo "_law_divided") rfl)
  obtain ⟨fd9, F9⟩ := cd.def_ 9 (d := dd 41 "_law_kd_figures") rfl
  have m9 : mg "_law_kd_figures" = some (.ref (He.fAd K ("_law_kd_figures", none))) := He.glo_ok X G (cd.fact 9 (f := .glo "_law_kd_figures") rfl)
  obtain ⟨fd10, F10⟩ := cd.def_ 10 (d := dd 38 "_law_kd_rules") rfl
  have m10 : mg "_law_kd_rules" = some (.ref (He.fAd K ("_law_kd_rules", none))) := He.glo_ok X G (cd.fact 10 (f := .glo "_law_kd_rules") rfl)
  obtain ⟨fd11, F11⟩ := cd.def_ 11 (d := dd 36 "_law_take") rfl
  have m11 : mg "_law_take" = some (.ref (He.fAd K ("_law_take", none))) := He.glo_ok X G (cd.fact 11 (f := .glo "_law_take") rfl)
  obtain ⟨fd12, F12⟩ := cd.def_ 12 (d := dd 37 "_law_one") rfl
  have m12 : mg "_law_one" = some (.ref (He.fAd K ("_law_one", none))) := He.glo_ok X G (cd.fact 12 (f := .glo "_law_one") rfl)
  obtain ⟨fd13, F13⟩ := cd.def_ 13 (d := dd 42 "_law_kg_base") rfl
  have m13 : mg "_law_kg_base" = some (.ref (He.fAd K ("_law_kg_base", none))) := He.glo_ok X G (cd.fact 13 (f := .glo "_law_kg_base") rfl)
  obtain ⟨fd14, F14⟩ := cd.def_ 14 (d := dd 43 "_law_kg_integer") rfl
  have m14 : mg "_law_kg_integer" = some (.ref (He.fAd K ("_law_kg_integer", none))) := He.glo_ok X G (cd.fact 14 (f := .glo "_law_kg_integer") rfl)
  obtain ⟨fd15, F15⟩ := cd.def_ 15 (d := dd 49 "_law_far_right") rfl
  have m15 : mg "_law_far_right" = some (.ref (He.fAd K ("_law_far_right", none))) := He.glo_ok X G (cd.fact 15 (f := .glo "_law_far_right") rfl)
  obtain ⟨fd16, F16⟩ := cd.def_ 16 (d := dd 40 "_law_kd_is_whole") rfl
  have m16 : mg "_law_kd_is_whole" = some (.ref (He.fAd K ("_law_kd_is_whole", none))) := He.glo_ok X G (cd.fact 16 (f := .glo "_law_kd_is_whole") rfl)
  obtain ⟨fd17, F17⟩ := cd.def_ 17 (d := dd 46 "_law_all") rfl
  have m17 : mg "_law_all" = some (.ref (He.fAd K ("_law_all", none))) := He.glo_ok X G (cd.fact 17 (f := .glo "_law_all") rfl)
  obtain ⟨fd18, F18⟩ := cd.def_ 18 (d := dd 47 "_law_hang_right") rfl
  have m18 : mg "_law_hang_right" = some (.ref (He.fAd K ("_law_hang_right", none))) := He.glo_ok X G (cd.fact 18 (f := .glo "_law_hang_right") rfl)
  obtain ⟨fd19, F19⟩ := cd.def_ 19 (d := dd 35 "_law_pool") rfl
  have m19 : mg "_law_pool" = some (.ref (He.fAd K ("_law_pool", none))) := He.glo_ok X G (cd.fact 19 (f := .glo "_law_pool") rfl)
  obtain ⟨fd20, F20⟩ := cd.def_ 20 (d := dd 39 "_law_kd_divide") rfl
  have m20 : mg "_law_kd_divide" = some (.ref (He.fAd K ("_law_kd_divide", none))) := He.glo_ok X G (cd.fact 20 (f := .glo "_law_kd_divide") rfl)
  obtain ⟨fd21, F21⟩ := cd.def_ 21 (d := dd 32 "carried") rfl
  have m21 : mg "carried" = some (.ref (He.fAd K ("carried", none))) := He.glo_ok X G (cd.fact 21 (f := .glo "carried") rfl)
  obtain ⟨fd22, F22⟩ := cd.def_ 22 (d := dd 22 "is_base") rfl
  have m22 : mg "is_base" = some (.ref (He.fAd K ("is_base", none))) := He.glo_ok X G (cd.fact 22 (f := .glo "is_base") rfl)
  obtain ⟨fd23, F23⟩ := cd.def_ 23 (d := dd 21 "is_between") rfl
  have m23 : mg "is_between" = some (.ref (He.fAd K ("is_between", none))) := He.glo_ok X G (cd.fact 23 (f := .glo "is_between") rfl)
  obtain ⟨fd24, F24⟩ := cd.def_ 24 (d := dd 23 "is_sign") rfl
  have m24 : mg "is_sign" = some (.ref (He.fAd K ("is_sign", none))) := He.glo_ok X G (cd.fact 24 (f := .glo "is_sign") rfl)
  obtain ⟨fd25, F25⟩ := cd.def_ 25 (d := dd 33 "carry") rfl
  have m25 : mg "carry" = some (.ref (He.fAd K ("carry", none))) := He.glo_ok X G (cd.fact 25 (f := .glo "carry") rfl)
  obtain ⟨fd26, F26⟩ := cd.def_ 26 (d := dd 48 "_law_row_right") rfl
  have m26 : mg "_law_row_right" = some (.ref (He.fAd K ("_law_row_right", none))) := He.glo_ok X G (cd.fact 26 (f := .glo "_law_row_right") rfl)
  obtain ⟨fd27, F27⟩ := cd.def_ 27 (d := dd 50 "law") rfl
  have m27 : mg "law" = some (.ref (He.fAd K ("law", none))) := He.glo_ok X G (cd.fact 27 (f := .glo "law") rfl)
  have n_abs : mg "abs" = none := He.free_ok X G (cd.fact 28 (f := .free "abs") rfl)
  have n_bool : mg "bool" = none := He.free_ok X G (cd.fact 29 (f := .free "bool") rfl)
  have n_divmod : mg "divmod" = none := He.free_ok X G (cd.fact 30 (f := .free "divmod") rfl)
  have n_int : mg "int" = none := He.free_ok X G (cd.fact 31 (f := .free "int") rfl)
  have n_isinstance : mg "isinstance" = none := He.free_ok X G (cd.fact 32 (f := .free "isinstance") rfl)
  have n_len : mg "len" = none := He.free_ok X G (cd.fact 33 (f := .free "len") rfl)
  have n_range : mg "range" = none := He.free_ok X G (cd.fact 34 (f := .free "range") rfl)
  have n_repr : mg "repr" = none := He.free_ok X G (cd.fact 35 (f := .free "repr") rfl)
  have n_str : mg "str" = none := He.free_ok X G (cd.fact 36 (f := .free "str") rfl)
  have n_tuple : mg "tuple" = none := He.free_ok X G (cd.fact 37 (f := .free "tuple") rfl)
  have e := hfa.symm.trans m27
  cases e
  have bl := FunD.bindsA (ps := ["script"]) F27 fun _ _ _ _ _ _ us hl => match us, hl with | [_], _ => rfl
  refine law_of_says (fd := fd27) (g := g_law) X c rfl (fun s u => bl s [u] rfl) pure fun base inB nsB tB => ?_
  have D__law_kh_heard_4 : KnH P w K mg base 5 4 "_law_kh_heard" ["call"] g__law_kh_heard := ⟨_, _, m0, F0.kp, F0.bindsN fun _ _ _ _ _ _ us hl => match us, hl with | [_], _ => rfl, w__law_kh_heard 4 F0⟩
  have D_is_greater : Kn P w K mg base 1 "is_greater" ["rule", "sign", "divisor_sign", "part", "size"] g_is_greater := ⟨_, _, m1, F1.kp, F1.bindsN fun _ _ _ _ _ _ us hl => match us, hl with | [_, _, _, _, _], _ => rfl, w_is_greater F1⟩
  have D_sign_of : Kn P w K mg base 1 "sign_of" ["number"] g_sign_of := ⟨_, _, m2, F2.kp, F2.bindsN fun _ _ _ _ _ _ us hl => match us, hl with | [_], _ => rfl, w_sign_of F2 n_int⟩
  have D_divided : Kn P w K mg base 2 "divided" ["rule", "x", "divisor"] g_divided := ⟨_, _, m3, F3.kp, F3.bindsN fun _ _ _ _ _ _ us hl => match us, hl with | [_, _, _], _ => rfl, w_divided F3 D_is_greater D_sign_of n_abs n_divmod⟩
  have D_is_integer : Kn P w K mg base 1 "is_integer" ["value"] g_is_integer := ⟨_, _, m4, F4.kp, F4.bindsN fun _ _ _ _ _ _ us hl => match us, hl with | [_], _ => rfl, w_is_integer F4 n_bool n_int n_isinstance⟩
  have D_is_rule : Kn P w K mg base 1 "is_rule" ["value"] g_is_rule := ⟨_, _, m5, F5.kp, F5.bindsN fun _ _ _ _ _ _ us hl => match us, hl with | [_], _ => rfl, w_is_rule F5 n_isinstance n_str q_RULES⟩
  have D_require_rule : Kn P w K mg base 2 "require_rule" ["value"] g_require_rule := ⟨_, _, m6, F6.kp, F6.bindsN fun _ _ _ _ _ _ us hl => match us, hl with | [_], _ => rfl, w_require_rule F6 D_is_rule⟩
  have D_divide : Kn P w K mg base 3 "divide" ["rule", "x", "base"] g_divide := ⟨_, _, m7, F7.kp, F7.bindsN fun _ _ _ _ _ _ us hl => match us, hl with | [_, _, _], _ => rfl, w_divide F7 D_divided D_is_integer D_require_rule⟩
  have D__law_divided : Kn P w K mg base 6 "_law_divided" ["rule", "x", "base"] g__law_divided := ⟨_, _, m8, F8.kp, F8.bindsN fun _ _ _ _ _ _ us hl => match us, hl with | [_, _, _], _ => rfl, w__law_divided F8 D__law_kh_heard_4 D_divide (code_of_def (p := ("_law_divided", none)) F8) (tB _ (by decide)) (tabs_mem (by decide)) (tabs_one apart (by decide))⟩
  have D__law_kd_figures : Kn P w K mg base 1 "_law_kd_figures" ["number", "size"] g__law_kd_figures := ⟨_, _, m9, F9.kp, F9.bindsN fun _ _ _ _ _ _ us hl => match us, hl with | [_, _], _ => rfl, w__law_kd_figures F9 n_abs n_range n_tuple⟩
  have D__law_kd_rules : Kn P w K mg base 1 "_law_kd_rules" [] g__law_kd_rules := ⟨_, _, m10, F10.kp, F10.bindsN fun _ _ _ _ _ _ us hl => match us, hl with | [], _ => rfl, w__law_kd_rules F10⟩
  have D__law_take : Kn P w K mg base 1 "_law_take" ["jar", "many"] g__law_take := ⟨_, _, m11, F11.kp, F11.bindsN fun _ _ _ _ _ _ us hl => match us, hl with | [_, _], _ => rfl, w__law_take F11 n_int⟩
  have D__law_one : Kn P w K mg base 2 "_law_one" ["jar", "things"] g__law_one := ⟨_, _, m12, F12.kp, F12.bindsN fun _ _ _ _ _ _ us hl => match us, hl with | [_, _], _ => rfl, w__law_one F12 D__law_take n_len⟩
  have D__law_kg_base : Kn P w K mg base 3 "_law_kg_base" ["jar"] g__law_kg_base := ⟨_, _, m13, F13.kp, F13.bindsN fun _ _ _ _ _ _ us hl => match us, hl with | [_], _ => rfl, w__law_kg_base F13 D__law_one D__law_take⟩
  have D__law_kg_integer : Kn P w K mg base 3 "_law_kg_integer" ["jar"] g__law_kg_integer := ⟨_, _, m14, F14.kp, F14.bindsN fun _ _ _ _ _ _ us hl => match us, hl with | [_], _ => rfl, w__law_kg_integer F14 D__law_one D__law_take⟩
  have D__law_far_right : Kn P w K mg base 7 "_law_far_right" ["jar"] g__law_far_right := ⟨_, _, m15, F15.kp, F15.bindsN fun _ _ _ _ _ _ us hl => match us, hl with | [_], _ => rfl, w__law_far_right F15 D__law_divided D__law_kd_figures D__law_kd_rules D__law_kg_base D__law_kg_integer D__law_one n_abs n_isinstance n_len n_range n_tuple⟩
  have D__law_kd_is_whole : Kn P w K mg base 1 "_law_kd_is_whole" ["thing"] g__law_kd_is_whole := ⟨_, _, m16, F16.kp, F16.bindsN fun _ _ _ _ _ _ us hl => match us, hl with | [_], _ => rfl, w__law_kd_is_whole F16 n_bool n_int n_isinstance⟩
  have D__law_all : Kn P w K mg base 7 "_law_all" ["x", "base"] g__law_all := ⟨_, _, m17, F17.kp, F17.bindsN fun _ _ _ _ _ _ us hl => match us, hl with | [_, _], _ => rfl, w__law_all F17 D__law_divided D__law_kd_is_whole D__law_kd_rules n_abs n_isinstance n_len n_tuple⟩
  have D__law_hang_right : Kn P w K mg base 8 "_law_hang_right" ["x", "base"] g__law_hang_right := ⟨_, _, m18, F18.kp, F18.bindsN fun _ _ _ _ _ _ us hl => match us, hl with | [_, _], _ => rfl, w__law_hang_right F18 D__law_all n_abs n_int⟩
  have D__law_pool : Kn P w K mg base 1 "_law_pool" ["script"] g__law_pool := ⟨_, _, m19, F19.kp, F19.bindsN fun _ _ _ _ _ _ us hl => match us, hl with | [_], _ => rfl, w__law_pool F19 n_int n_len n_range⟩
  have D__law_kd_divide : Kn P w K mg base 1 "_law_kd_divide" ["rule", "x", "base"] g__law_kd_divide := ⟨_, _, m20, F20.kp, F20.bindsN fun _ _ _ _ _ _ us hl => match us, hl with | [_, _, _], _ => rfl, w__law_kd_divide F20 n_abs⟩
  have D_carried : Kn P w K mg base 2 "carried" ["rule", "sign", "base", "figure"] g_carried := ⟨_, _, m21, F21.kp, F21.bindsN fun _ _ _ _ _ _ us hl => match us, hl with | [_, _, _, _], _ => rfl, w_carried F21 D_is_greater D_sign_of n_abs⟩
  have D_is_base : Kn P w K mg base 2 "is_base" ["value"] g_is_base := ⟨_, _, m22, F22.kp, F22.bindsN fun _ _ _ _ _ _ us hl => match us, hl with | [_], _ => rfl, w_is_base F22 D_is_integer n_abs⟩
  have D_is_between : Kn P w K mg base 2 "is_between" ["value", "least", "greatest"] g_is_between := ⟨_, _, m23, F23.kp, F23.bindsN fun _ _ _ _ _ _ us hl => match us, hl with | [_, _, _], _ => rfl, w_is_between F23 D_is_integer⟩
  have D_is_sign : Kn P w K mg base 2 "is_sign" ["value"] g_is_sign := ⟨_, _, m24, F24.kp, F24.bindsN fun _ _ _ _ _ _ us hl => match us, hl with | [_], _ => rfl, w_is_sign F24 D_is_integer⟩
  have D_carry : Kn P w K mg base 3 "carry" ["rule", "sign", "base", "figure"] g_carry := ⟨_, _, m25, F25.kp, F25.bindsN fun _ _ _ _ _ _ us hl => match us, hl with | [_, _, _, _], _ => rfl, w_carry F25 D_carried D_is_base D_is_between D_is_sign D_require_rule n_abs⟩
  have D__law_row_right : Kn P w K mg base 7 "_law_row_right" ["jar"] g__law_row_right := ⟨_, _, m26, F26.kp, F26.bindsN fun _ _ _ _ _ _ us hl => match us, hl with | [_], _ => rfl, w__law_row_right F26 D__law_divided D__law_kd_divide D__law_kd_figures D__law_kd_rules D__law_kg_base D__law_kg_integer D__law_kh_heard_4 D__law_one D_carry n_abs n_isinstance n_len n_repr n_tuple (code_of_def (p := ("_law_row_right", none)) F26) (tB _ (by decide)) (tabs_mem (by decide)) (tabs_one apart (by decide))⟩
  exact w_law F27 D__law_far_right D__law_hang_right D__law_kg_base D__law_kg_integer D__law_one D__law_pool D__law_row_right n_range
end LW_k15
set_option maxRecDepth 100000
set_option maxHeartbeats 4000000
namespace LW_k15
open PySem PySem.Spec PyProof.Rows L2 FX
inductive Ru where | down | up | zero | positive | near
  deriving DecidableEq
def Ru.s : Ru → Str
  | .down => "down"
  | .up => "up"
  | .zero => "zero"
  | .positive => "positive"
  | .near => "near"
theorem s_is_integer (v : Int) (h : FH) : g_is_integer [.int v] h = .ok (.bl true) h := rfl
theorem s_is_whole (v : Int) (h : FH) : g__law_kd_is_whole [.int v] h = .ok (.bl true) h := rfl
theorem s_sign_of (n : Int) (h : FH) : g_sign_of [.int n] h = .ok (.int n.sign) h := by
  have e : g_sign_of [.int n] h = .ok (.int ((if decide (0 < n) = true then 1 else 0) - (if decide (n < 0) = true then 1 else 0))) h := rfl
  rw [e]
  rcases Int.lt_trichotomy n 0 with q | q | q
  · rw [Int.sign_eq_neg_one_of_neg q]; simp [q, Int.le_of_lt q, Int.not_lt.mpr (Int.le_of_lt q)]
  · subst q; rfl
  · rw [Int.sign_eq_one_of_pos q]; simp [q, Int.not_lt.mpr (Int.le_of_lt q)]
theorem s_is_rule (r : Ru) (h : FH) : g_is_rule [.str r.s] h = .ok (.bl true) h := by cases r <;> kernel_rfl
theorem s_require_rule (r : Ru) (h : FH) : g_require_rule [.str r.s] h = .ok .non h := by cases r <;> kernel_rfl
theorem eq_down (r : Ru) (h : FH) : eqF (.str r.s) (.str "down") h = some (.bl (decide (r = .down)), h) := by cases r <;> kernel_rfl
theorem eq_up (r : Ru) (h : FH) : eqF (.str r.s) (.str "up") h = some (.bl (decide (r = .up)), h) := by cases r <;> kernel_rfl
theorem eq_zero (r : Ru) (h : FH) : eqF (.str r.s) (.str "zero") h = some (.bl (decide (r = .zero)), h) := by cases r <;> kernel_rfl
theorem eq_positive (r : Ru) (h : FH) : eqF (.str r.s) (.str "positive") h = some (.bl (decide (r = .positive)), h) := by cases r <;> kernel_rfl
theorem eq_near (r : Ru) (h : FH) : eqF (.str r.s) (.str "near") h = some (.bl (decide (r = .near)), h) := by cases r <;> kernel_rfl
def gr (r : Ru) (sign ds part size : Int) : Bool := match r with
  | .down => decide (sign * ds < 0)
  | .up => decide (0 < sign * ds)
  | .positive => decide (sign < 0)
  | .near => decide (size < 2 * part) || (decide (2 * part = size) && decide (sign < 0))
  | .zero => false
theorem s_is_greater (r : Ru) {sign ds part size : Int} (h : FH) (a : sm sign = true) (b : sm ds = true) (c : sm part = true) : g_is_greater [.str r.s, .int sign, .int ds, .int part, .int size] h = .ok (.bl (gr r sign ds part size)) h := by
  have c2 : sm 2 = true := by decide +kernel
  cases r <;> simp [g_is_greater, e_is_greater, cDef, gr, sMatch, mVal, mWild, eq_down, eq_up, eq_positive, eq_near, x_mul, a, b, c, c2]
  by_cases q : size < 2 * part
  · simp [q]
  · by_cases q2 : 2 * part = size <;> simp [q, q2]
def dvd (r : Ru) (x d : Int) : Int × Int :=
  let size : Int := d.natAbs
  let whole : Int := (x.natAbs : Int) / size
  let part : Int := (x.natAbs : Int) % size
  if 0 < part ∧ gr r x.sign d.sign part size = true then (x.sign * d.sign * (whole + 1), x.sign * (part - size)) else (x.sign * d.sign * whole, x.sign * part)
theorem sm_sign (x : Int) : sm x.sign = true := by
  rcases Int.lt_trichotomy x 0 with q | q | q
  · rw [Int.sign_eq_neg_one_of_neg q]; decide +kernel
  · subst q; decide +kernel
  · rw [Int.sign_eq_one_of_pos q]; decide +kernel
theorem sign_le (x : Int) : x.sign.natAbs ≤ 1 := by
  rcases Int.lt_trichotomy x 0 with q | q | q
  · rw [Int.sign_eq_neg_one_of_neg q]; decide
  · subst q; decide
  · rw [Int.sign_eq_one_of_pos q]; decide
theorem sm_sign2 (x d : Int) : sm (x.sign * d.sign) = true := sm_of (n := 1) (by rw [Int.natAbs_mul]; exact Nat.mul_le_mul (sign_le x) (sign_le d)) (Nat.one_le_pow _ _ (by decide))
theorem pow_slack : (10 : Nat) ^ 600 + 1 ≤ 10 ^ 2000 := by decide +kernel
theorem s_divided (r : Ru) {x d : Int} (h : FH) (hx : lm x) (hd : lm d) (d0 : d ≠ 0) : g_divided [.str r.s, .int x, .int d] h = .ok (.tup [.int (dvd r x d).1, .int (dvd r x d).2]) h := by
  have d1 : (0 : Int) < d.natAbs := by omega
  have hs : sm (d.natAbs : Int) = true := lm.sm (by unfold lm at *; exact hd)
  have p1 : 0 ≤ (x.natAbs : Int) % d.natAbs := Int.emod_nonneg _ (by omega)
  have p2 : (x.natAbs : Int) % d.natAbs < d.natAbs := Int.emod_lt_of_pos _ d1
  have w0 : 0 ≤ (x.natAbs : Int) / d.natAbs := Int.ediv_nonneg (by omega) (by omega)
  have w1 : (x.natAbs : Int) / d.natAbs ≤ x.natAbs := Int.ediv_le_self _ (by omega)
  unfold lm at hx hd
  have sp : sm ((x.natAbs : Int) % d.natAbs) = true := sm_of (n := 10 ^ 600) (by omega) (Nat.le_trans (Nat.le_succ _) pow_slack)
  have sp2 : sm ((x.natAbs : Int) % d.natAbs - d.natAbs) = true := sm_of (n := 10 ^ 600) (by omega) (Nat.le_trans (Nat.le_succ _) pow_slack)
  have sw : sm ((x.natAbs : Int) / d.natAbs) = true := sm_of (n := 10 ^ 600) (by omega) (Nat.le_trans (Nat.le_succ _) pow_slack)
  have sw2 : sm ((x.natAbs : Int) / d.natAbs + 1) = true := sm_of (n := 10 ^ 600 + 1) (by omega) pow_slack
  have g0 := s_is_greater r (sign := x.sign) (ds := d.sign) (part := (x.natAbs : Int) % d.natAbs) (size := d.natAbs) h (sm_sign x) (sm_sign d) sp
  by_cases q : 0 < (x.natAbs : Int) % d.natAbs
  · cases q2 : gr r x.sign d.sign ((x.natAbs : Int) % d.natAbs) d.natAbs
    · simp [g_divided, e_divided, cDef, s_sign_of, g0, x_divmod, x_mul, dvd, q, q2, d0, d1, hs, sp, sw, sm_sign, sm_sign2]
    · simp [g_divided, e_divided, cDef, s_sign_of, g0, x_divmod, x_mul, dvd, q, q2, d0, d1, hs, sp2, sw2, sm_sign, sm_sign2]
  · simp [g_divided, e_divided, cDef, s_sign_of, g0, x_divmod, x_mul, dvd, q, d0, d1, hs, sp, sw, sm_sign, sm_sign2]
theorem s_divide (r : Ru) {x d : Int} (h : FH) (hx : lm x) (hd : lm d) (d0 : d ≠ 0) : g_divide [.str r.s, .int x, .int d] h = .ok (.tup [.int (dvd r x d).1, .int (dvd r x d).2]) h := by
  simp [g_divide, e_divide, cDef, s_require_rule, s_is_integer, d0, s_divided r h hx hd d0]
theorem s_heard {n : Nat} {d : Cl} {h h' : FH} {v : FV} (e : d h = .ok v h') : g__law_kh_heard n d [.ref n] h = .ok (.tup [.str "told", v]) h' := by
  have q : ∀ σ, σ[0]? = some (some (.ref n)) → cClo 0 n d σ h = .ok v h' := fun σ z => by
    unfold cClo
    rw [z]
    simp [e]
  simp [g__law_kh_heard, e__law_kh_heard, cDef, sTry0, q]
theorem s_law_divided (r : Ru) {x d : Int} (h : FH) (hx : lm x) (hd : lm d) (d0 : d ≠ 0) : g__law_divided [.str r.s, .int x, .int d] h = .ok (.tup [.str "told", .tup [.int (dvd r x d).1, .int (dvd r x d).2]]) (h ++ [.opq]) := by
  simp [g__law_divided, e__law_divided, cDef, cLam]
  rw [s_heard (v := .tup [.int (dvd r x d).1, .int (dvd r x d).2]) (h' := h ++ [.opq])]
  · rfl
  · simp [s_divide r _ hx hd d0]
def cry (r : Ru) (s b f : Int) : Int × Int :=
  let size : Int := b.natAbs
  if f = size then (1, 0) else if 0 < f ∧ gr r s b.sign f size = true then (1, s * (f - size)) else (0, s * f)
theorem s_carried (r : Ru) {s b f : Int} (h : FH) (hs : sm s = true) (hf : sm f = true) (hf2 : sm (f - b.natAbs) = true) : g_carried [.str r.s, .int s, .int b, .int f] h = .ok (.tup [.int (cry r s b f).1, .int (cry r s b f).2]) h := by
  have g0 := s_is_greater r (sign := s) (ds := b.sign) (part := f) (size := b.natAbs) h hs (sm_sign b) hf
  by_cases q : f = b.natAbs
  · simp [g_carried, e_carried, cDef, cry, q]
  · by_cases q1 : 0 < f
    · cases q2 : gr r s b.sign f b.natAbs <;> simp [g_carried, e_carried, cDef, cry, s_sign_of, g0, x_mul, q, q1, q2, hs, hf, hf2]
    · simp [g_carried, e_carried, cDef, cry, s_sign_of, g0, x_mul, q, q1, hs, hf, hf2]
theorem s_carry (r : Ru) {s b f : Int} (h : FH) (h1 : s = 1 ∨ s = -1) (h2 : 2 ≤ b.natAbs) (h3 : b.natAbs ≤ 10) (h4 : 0 ≤ f) (h5 : f ≤ b.natAbs) : g_carry [.str r.s, .int s, .int b, .int f] h = .ok (.tup [.int (cry r s b f).1, .int (cry r s b f).2]) h := by
  have hs : sm s = true := by rcases h1 with rfl | rfl <;> decide +kernel
  have hf : sm f = true := sm_of (n := 10) (by omega) (by decide +kernel)
  have hf2 : sm (f - b.natAbs) = true := sm_of (n := 10) (by omega) (by decide +kernel)
  have a1 : g_is_sign [.int s] h = .ok (.bl true) h := by
    rcases h1 with rfl | rfl <;> simp [g_is_sign, e_is_sign, cDef, s_is_integer]
  have a2 : g_is_base [.int b] h = .ok (.bl true) h := by
    have z1 : (2 : Int) ≤ b.natAbs := by omega
    have z2 : (b.natAbs : Int) ≤ 10 := by omega
    simp [g_is_base, e_is_base, cDef, s_is_integer, z1, z2]
  have a3 : g_is_between [.int f, .int 0, .int b.natAbs] h = .ok (.bl true) h := by
    simp [g_is_between, e_is_between, cDef, s_is_integer, h4, h5]
  simp [g_carry, e_carry, cDef, s_require_rule, a1, a2, a3, s_carried r h hs hf hf2]
end LW_k15
set_option maxRecDepth 100000
set_option maxHeartbeats 4000000
namespace LW_k15
open PySem PySem.Spec PyProof.Rows L2 FX
/-- a number by its sign, its parts by the divisor's size -/
theorem parts (x d : Int) (d0 : d ≠ 0) : ∃ s t w p D : Int, x.sign = s ∧ d.sign = t ∧ (x.natAbs : Int) / (d.natAbs : Int) = w ∧ (x.natAbs : Int) % (d.natAbs : Int) = p ∧ (d.natAbs : Int) = D ∧ 0 < D ∧ 0 ≤ p ∧ p < D ∧ 0 ≤ w ∧
    ((t = 1 ∧ d = D) ∨ (t = -1 ∧ d = -D)) ∧ ((s = 1 ∧ x = w * D + p) ∨ (s = -1 ∧ x = -(w * D + p)) ∨ (s = 0 ∧ x = 0 ∧ w = 0 ∧ p = 0)) := by
  have d1 : (0 : Int) < d.natAbs := by omega
  have e := Int.mul_ediv_add_emod (x.natAbs : Int) (d.natAbs : Int)
  rw [Int.mul_comm] at e
  refine ⟨_, _, _, _, _, rfl, rfl, rfl, rfl, rfl, d1, Int.emod_nonneg _ (by omega), Int.emod_lt_of_pos _ d1, Int.ediv_nonneg (by omega) (by omega), ?_, ?_⟩
  · rcases Int.lt_trichotomy d 0 with q | q | q
    · exact .inr ⟨Int.sign_eq_neg_one_of_neg q, by omega⟩
    · exact absurd q d0
    · exact .inl ⟨Int.sign_eq_one_of_pos q, by omega⟩
  · rcases Int.lt_trichotomy x 0 with q | q | q
    · exact .inr (.inl ⟨Int.sign_eq_neg_one_of_neg q, by omega⟩)
    · subst q
      exact .inr (.inr ⟨rfl, rfl, by simp, by simp⟩)
    · exact .inl ⟨Int.sign_eq_one_of_pos q, by omega⟩
/-- the quotient and the remainder of the five rules, told by the parts -/
def dvp (r : Ru) (s t w p D : Int) : Int × Int := if 0 < p ∧ gr r s t p D = true then (s * t * (w + 1), s * (p - D)) else (s * t * w, s * p)
theorem dvd_parts {r : Ru} {x d s t w p D : Int} (h1 : x.sign = s) (h2 : d.sign = t) (h3 : (x.natAbs : Int) / (d.natAbs : Int) = w) (h4 : (x.natAbs : Int) % (d.natAbs : Int) = p) (h5 : (d.natAbs : Int) = D) : dvd r x d = dvp r s t w p D := by
  subst h1 h2 h3 h4 h5
  rfl
structure Hang (x d : Int) : Prop where
  back : ∀ r, (dvd r x d).1 * d + (dvd r x d).2 = x
  less : ∀ r, (dvd r x d).2.natAbs < d.natAbs
  upDown : (dvd .up x d).1 - (dvd .down x d).1 = if x.fmod d = 0 then 0 else 1
  z1 : (dvd .zero x d).1.natAbs ≤ (dvd .down x d).1.natAbs
  z2 : (dvd .zero x d).1.natAbs ≤ (dvd .up x d).1.natAbs
  z3 : (dvd .zero x d).1 = (dvd .down x d).1 ∨ (dvd .zero x d).1 = (dvd .up x d).1
  p1 : (dvd .positive x d).1 = if 0 < d then (dvd .down x d).1 else (dvd .up x d).1
  p2 : 0 ≤ (dvd .positive x d).2
  n1 : 2 * (dvd .near x d).2.natAbs ≤ d.natAbs
  n2 : 2 * (dvd .near x d).2 ≠ -(d.natAbs : Int)
  n3 : (dvd .near x d).1 = (dvd .down x d).1 ∨ (dvd .near x d).1 = (dvd .up x d).1
  t1 : (dvd .up (-x) d).1 = -(dvd .down x d).1
  t2 : (dvd .down (-x) d).1 = -(dvd .up x d).1
  t3 : (dvd .zero (-x) d).1 = -(dvd .zero x d).1
  o1 : (dvd .zero x (-d)).1 = -(dvd .zero x d).1
  o2 : (dvd .down x (-d)).1 = -(dvd .up x d).1
  o3 : (dvd .positive x (-d)).2 = (dvd .positive x d).2
theorem hang (x d : Int) (d0 : d ≠ 0) : Hang x d := by
  obtain ⟨s, t, w, p, D, h1, h2, h3, h4, h5, D0, p0, pD, w0, ht, hs⟩ := parts x d d0
  have e := fun r => dvd_parts (r := r) h1 h2 h3 h4 h5
  have e1 := fun r => dvd_parts (r := r) (x := -x) (d := d) (s := -s) (by rw [Int.sign_neg, h1]) h2 (by rw [Int.natAbs_neg, h3]) (by rw [Int.natAbs_neg, h4]) h5
  have e2 := fun r => dvd_parts (r := r) (x := x) (d := -d) (t := -t) h1 (by rw [Int.sign_neg, h2]) (by rw [Int.natAbs_neg, h3]) (by rw [Int.natAbs_neg, h4]) (by rw [Int.natAbs_neg, h5])
  have fm : x.fmod d = 0 ↔ p = 0 := by
    rw [← Int.dvd_iff_fmod_eq_zero, ← Int.natAbs_dvd_natAbs, ← h4]
    rw [← Int.natCast_dvd_natCast]
    exact ⟨Int.emod_eq_zero_of_dvd, Int.dvd_of_emod_eq_zero⟩
  by_cases pz : p = 0
  · subst pz
    have n : ∀ r s t, dvp r s t w 0 D = (s * t * w, 0) := fun r s t => by unfold dvp; simp
    refine ⟨fun r => ?_, fun r => ?_, ?_, ?_, ?_, ?_, ?_, ?_, ?_, ?_, ?_, ?_, ?_, ?_, ?_, ?_, ?_⟩ <;> simp only [e, e1, e2, n, fm] <;> rcases ht with ⟨rfl, hd⟩ | ⟨rfl, hd⟩ <;> rcases hs with ⟨rfl, hx⟩ | ⟨rfl, hx⟩ | ⟨rfl, hx, hw, _⟩ <;> simp at * <;> (try subst hd) <;> (try subst hx) <;> (try simp [Int.neg_mul, Int.mul_neg]) <;> (try omega)
  · have pp : 0 < p := by omega
    have n : ∀ r s t, dvp r s t w p D = if gr r s t p D = true then (s * t * (w + 1), s * (p - D)) else (s * t * w, s * p) := fun r s t => by unfold dvp; simp [pp]
    have m1 : (w + 1) * D = w * D + D := by rw [Int.add_mul, Int.one_mul]
    refine ⟨fun r => ?_, fun r => ?_, ?_, ?_, ?_, ?_, ?_, ?_, ?_, ?_, ?_, ?_, ?_, ?_, ?_, ?_, ?_⟩ <;> simp only [e, e1, e2, n, fm, pz] <;> clear e e1 e2 n fm <;> rcases ht with ⟨rfl, hd⟩ | ⟨rfl, hd⟩ <;> rcases hs with ⟨rfl, hx⟩ | ⟨rfl, hx⟩ | ⟨rfl, hx, hw, hp⟩ <;> (try (exact absurd hp pz)) <;> clear h1 h2 h3 h4 <;> simp [gr, Int.neg_mul, Int.mul_neg] <;> (try split) <;> (try split) <;> (try simp [Int.neg_mul, Int.mul_neg, hd, hx, m1]) <;> (try omega)
end LW_k15
set_option maxRecDepth 100000
set_option maxHeartbeats 4000000
namespace LW_k15
open PySem PySem.Spec PyProof.Rows L2 FX
def rus : List Ru := [.down, .up, .zero, .positive, .near]
theorem s_rules (h : FH) : g__law_kd_rules [] h = .ok (.ref h.length) (h ++ [.lst (rus.map fun r => .str r.s)]) := rfl
theorem ne_told (h : FH) : neF (.str "told") (.str "told") h = some (.bl false, h) := by kernel_rfl
def kvs (x d : Int) (l : List Ru) : List (Key × FV) := l.map fun r => (.inr r.s, .tup [.int (dvd r x d).1, .int (dvd r x d).2])
theorem at_len {h : FH} {a : FO} {l : FH} : (h ++ a :: l)[h.length]? = some a := by simp
theorem set_len {h : FH} {a b : FO} {l : FH} : (h ++ a :: l).set h.length b = h ++ b :: l := by simp
theorem comp_none {σ : FSt} {h : FH} {a b : Int} (e : σ[5]? = some (some (.tup [.int a, .int b]))) (l : 6 < σ.length) : cLc (cIt (cVar 5)) (.nm 6) [6] (cNotT (cTru (cCall 1 g__law_kd_is_whole (cCons (cVar 6) cNil)))) (cVar 6) σ h = .ok (.ref h.length) (h ++ [.lst []]) := by
  simp [cLc, e, lcG, nextI, lenI, wipeF, s_is_whole, l]
theorem ne_empty {h : FH} {i j : Nat} (a : h[i]? = some (.lst [])) (b : h[j]? = some (.lst [])) : neF (.ref i) (.ref j) h = some (.bl false, h) := by
  have e1 : ∀ k, h[k]? = some (.lst []) → datF h DEEP (.ref k) = some (.list []) := fun k q => by
    show (match h[k]? with
      | some (.lst xs) => (xs.mapM (datF h 59)).map PyData.list
      | some (.ro xs) => (xs.mapM (datF h 59)).map PyData.list
      | _ => none) = _
    rw [q]
    rfl
  unfold neF
  rw [e1 i a, e1 j b]
  rfl
def abody : EvS := (sSeq (sAsgT (.tp [(.nm 4), (.nm 5)]) (cCall 3 g__law_divided (cCons (cVar 3) (cCons (cVar 0) (cCons (cVar 1) cNil)))))
    (sSeq (sIf (cOrT (cTb (cBin neF (cVar 4) (cC (.str "told")))) (cOrT (cNotT (cTru (cCB isiF (cCons (cVar 5) (cCons (cC (.ty "tuple")) cNil))))) (cTb (cBin neF (cLc (cIt (cVar 5)) (.nm 6) [6] (cNotT (cTru (cCall 1 g__law_kd_is_whole (cCons (cVar 6) cNil)))) (cVar 6)) (cLst cNil))))) (sRet (cC .non)) sSkip)
    (sSeq (sIf (cOrT (cTb (cBin neF (cCB lenF (cCons (cVar 5) cNil)) (cC (.int 2)))) (cOrT (cTb (cBin neF (cBin addF (cBin mulF (cBin ixF (cVar 5) (cC (.int 0))) (cVar 1)) (cBin ixF (cVar 5) (cC (.int 1)))) (cVar 0))) (cTb (cBin geF (cCB absF (cCons (cBin ixF (cVar 5) (cC (.int 1))) cNil)) (cCB absF (cCons (cVar 1) cNil)))))) (sRet (cC .non)) sSkip)
    (sSetD (cVar 2) (cVar 3) (cVar 5)))))
theorem isi_tup {xs : List FV} {h : FH} : isiF [.tup xs, .ty "tuple"] h = some (.bl true, h) := rfl
theorem quo_le (r : Ru) {x d : Int} (d0 : d ≠ 0) : (dvd r x d).1.natAbs ≤ x.natAbs + 1 := by
  obtain ⟨s, t, w, p, D, h1, h2, h3, h4, h5, D0, p0, pD, w0, ht, hs⟩ := parts x d d0
  rw [dvd_parts h1 h2 h3 h4 h5]
  have wx : w ≤ x.natAbs := by rw [← h3]; exact Int.ediv_le_self _ (by omega)
  unfold dvp
  split <;> rcases ht with ⟨rfl, hd⟩ | ⟨rfl, hd⟩ <;> rcases hs with ⟨rfl, hx⟩ | ⟨rfl, hx⟩ | ⟨rfl, hx, hw, hp⟩ <;> simp <;> omega
theorem abody_ok {x d : Int} {r : Ru} {g : FH} {m : Nat} {kv : List (Key × FV)} {a b c e : Option FV} (hx : x.natAbs ≤ 10 ^ 100) (hd : d.natAbs ≤ 10 ^ 100) (d0 : d ≠ 0) (hm : g[m]? = some (.dic kv)) (hk : (kv.any fun q => decide (q.1 = (.inr r.s : Key))) = false) (hl : kv.length < 100) :
    abody [some (.int x), some (.int d), some (.ref m), some (.str r.s), a, b, e] g =
      .nx [some (.int x), some (.int d), some (.ref m), some (.str r.s), some (.str "told"), some (.tup [.int (dvd r x d).1, .int (dvd r x d).2]), e] ((g ++ [FO.opq] ++ [FO.lst []] ++ [FO.lst []]).set m (FO.dic (kv ++ [((Sum.inr r.s : Key), FV.tup [.int (dvd r x d).1, .int (dvd r x d).2])]))) := by
  have lx : lm x := lm_le hx (Nat.pow_le_pow_right (by decide) (by decide))
  have ld : lm d := lm_le hd (Nat.pow_le_pow_right (by decide) (by decide))
  have H := hang x d d0
  have ml : m < g.length := (List.getElem?_eq_some_iff.mp hm).1
  have q1 : sm (dvd r x d).1 = true := sm_of (n := 10 ^ 100 + 1) (by have := quo_le r (x := x) d0; omega) (by decide +kernel)
  have q2 : sm d = true := ld.sm
  have bk := H.back r
  have ls : ¬ ((d.natAbs : Int) ≤ ((dvd r x d).2.natAbs : Int)) := by have := H.less r; omega
  have e1 := s_law_divided r g lx ld d0
  have e2 : (g ++ [FO.opq] ++ [FO.lst []] ++ [FO.lst []])[(g ++ [FO.opq]).length]? = some (.lst []) := by simp
  have e3 : (g ++ [FO.opq] ++ [FO.lst []] ++ [FO.lst []])[(g ++ [FO.opq] ++ [FO.lst []]).length]? = some (.lst []) := by simp
  have e4 := ne_empty e2 e3
  have e5 : (g ++ [FO.opq] ++ [FO.lst []] ++ [FO.lst []])[m]? = some (.dic kv) := by
    rw [List.getElem?_append_left (by simp; omega), List.getElem?_append_left (by simp; omega), List.getElem?_append_left ml, hm]
  generalize hq : (dvd r x d).1 = q at *
  generalize hR : (dvd r x d).2 = R at *
  have c1 := comp_none (σ := [some (.int x), some (.int d), some (.ref m), some (.str r.s), some (.str "told"), some (.tup [.int q, .int R]), e]) (h := g ++ [.opq]) (a := q) (b := R) rfl (by simp)
  generalize g ++ [FO.opq] = g1 at *
  have i0 : ∀ h, ixF (.tup [.int q, .int R]) (.int 0) h = some (.int q, h) := fun h => ix_tup rfl
  have i1 : ∀ h, ixF (.tup [.int q, .int R]) (.int 1) h = some (.int R, h) := fun h => ix_tup rfl
  have dd : isDic (.ref m) (g1 ++ [FO.lst []] ++ [FO.lst []]) = true := by unfold isDic; simp only [e5]
  have ss : setIxF (.ref m) (.str r.s) (.tup [.int q, .int R]) (g1 ++ [FO.lst []] ++ [FO.lst []]) = some ((g1 ++ [FO.lst []] ++ [FO.lst []]).set m (.dic (kv ++ [(.inr r.s, .tup [.int q, .int R])]))) := by
    unfold setIxF
    simp only [e5, fkey]
    rw [if_pos (Nat.lt_of_lt_of_le hl (by decide +kernel))]
    unfold setIxF.putK2
    rw [hk]
    rfl
  have f1 : (sAsgT (.tp [(.nm 4), (.nm 5)]) (cCall 3 g__law_divided (cCons (cVar 3) (cCons (cVar 0) (cCons (cVar 1) cNil))))) [some (.int x), some (.int d), some (.ref m), some (.str r.s), a, b, e] g = .nx [some (.int x), some (.int d), some (.ref m), some (.str r.s), some (.str "told"), some (.tup [.int q, .int R]), e] g1 := by simp [e1]
  have f2 : (sIf (cOrT (cTb (cBin neF (cVar 4) (cC (.str "told")))) (cOrT (cNotT (cTru (cCB isiF (cCons (cVar 5) (cCons (cC (.ty "tuple")) cNil))))) (cTb (cBin neF (cLc (cIt (cVar 5)) (.nm 6) [6] (cNotT (cTru (cCall 1 g__law_kd_is_whole (cCons (cVar 6) cNil)))) (cVar 6)) (cLst cNil))))) (sRet (cC .non)) sSkip) [some (.int x), some (.int d), some (.ref m), some (.str r.s), some (.str "told"), some (.tup [.int q, .int R]), e] g1 =
      .nx [some (.int x), some (.int d), some (.ref m), some (.str r.s), some (.str "told"), some (.tup [.int q, .int R]), e] (g1 ++ [.lst []] ++ [.lst []]) := by
    rw [a_sIf, a_cOrT, show cTb (cBin neF (cVar 4) (cC (.str "told"))) [some (.int x), some (.int d), some (.ref m), some (.str r.s), some (.str "told"), some (.tup [.int q, .int R]), e] g1 = .ok false g1 from by simp [ne_told], r_bind_ok, if_neg Bool.false_ne_true, a_cOrT,
      show (cNotT (cTru (cCB isiF (cCons (cVar 5) (cCons (cC (.ty "tuple")) cNil))))) [some (.int x), some (.int d), some (.ref m), some (.str r.s), some (.str "told"), some (.tup [.int q, .int R]), e] g1 = .ok false g1 from by simp [isi_tup], r_bind_ok, if_neg Bool.false_ne_true, a_cTb, a_cBin, c1, r_bind_ok, a_cLst, a_cNil, r_bind_ok]
    rw [if_pos (small_ok (by decide)), r_bind_ok, e4]
    rfl
  have f3 : (sIf (cOrT (cTb (cBin neF (cCB lenF (cCons (cVar 5) cNil)) (cC (.int 2)))) (cOrT (cTb (cBin neF (cBin addF (cBin mulF (cBin ixF (cVar 5) (cC (.int 0))) (cVar 1)) (cBin ixF (cVar 5) (cC (.int 1)))) (cVar 0))) (cTb (cBin geF (cCB absF (cCons (cBin ixF (cVar 5) (cC (.int 1))) cNil)) (cCB absF (cCons (cVar 1) cNil)))))) (sRet (cC .non)) sSkip) [some (.int x), some (.int d), some (.ref m), some (.str r.s), some (.str "told"), some (.tup [.int q, .int R]), e] (g1 ++ [.lst []] ++ [.lst []]) =
      .nx [some (.int x), some (.int d), some (.ref m), some (.str r.s), some (.str "told"), some (.tup [.int q, .int R]), e] (g1 ++ [.lst []] ++ [.lst []]) := by
    generalize g1 ++ [FO.lst []] ++ [FO.lst []] = g2 at *
    simp [i0, i1, x_mul, q1, q2, bk]
    omega
  unfold abody
  rw [a_sSeq, f1, then_nx, a_sSeq, f2, then_nx, a_sSeq, f3, then_nx]
  generalize g1 ++ [FO.lst []] ++ [FO.lst []] = g2 at *
  simp [dd, ss]
end LW_k15
set_option maxRecDepth 100000
set_option maxHeartbeats 4000000
namespace LW_k15
open PySem PySem.Spec PyProof.Rows L2 FX
theorem s_inj (a b : Ru) : (decide ((Sum.inr a.s : Key) = Sum.inr b.s)) = decide (a = b) := by cases a <;> cases b <;> decide +kernel
theorem kvs_any (x d : Int) (l : List Ru) (r : Ru) : ((kvs x d l).any fun q => decide (q.1 = (.inr r.s : Key))) = l.any fun r' => decide (r' = r) := by
  unfold kvs
  rw [List.any_map]
  congr
  funext r'
  exact s_inj r' r
theorem rus_new : ∀ i : Fin 5, ((rus.take i).any fun r' => decide (r' = (rus.getD i .down))) = false := by decide
theorem rus_take : ∀ i : Fin 5, rus.take (i + 1) = rus.take i ++ [rus.getD i .down] := by decide
theorem rus_at : ∀ i : Fin 5, rus[(i : Nat)]? = some (rus.getD i .down) := by decide
theorem s_all {x d : Int} (h : FH) (hx : x.natAbs ≤ 10 ^ 100) (hd : d.natAbs ≤ 10 ^ 100) (d0 : d ≠ 0) : ∃ ex, g__law_all [.int x, .int d] h = .ok (.ref h.length) (h ++ FO.dic (kvs x d rus) :: ex) := by
  obtain ⟨R, hR⟩ : ∃ R : List FV, R = rus.map fun r => .str r.s := ⟨_, rfl⟩
  have eR : ∀ (k : List (Key × FV)) (ex : FH), (h ++ FO.dic k :: FO.lst R :: ex)[h.length + 1]? = some (.lst R) := fun k ex => by simp
  have nx : ∀ (i : Nat) (k : List (Key × FV)) (ex : FH), nextI (.own (h.length + 1)) i (h ++ FO.dic k :: FO.lst R :: ex) = some R[i]? := fun i k ex => by
    unfold nextI lstF
    simp only [eR]
    rfl
  have loop := sFor_loop (ei := cIt (cCall 0 g__law_kd_rules cNil)) (s := .own (h.length + 1)) (t := .nm 3) (b := abody) (σ := [some (.int x), some (.int d), some (.ref h.length), none, none, none, none]) (h := h ++ [FO.dic []]) (h1 := h ++ FO.dic [] :: FO.lst R :: [])
    (fun i σ g => ∃ (a b c : Option FV) (ex : FH), σ = [some (.int x), some (.int d), some (.ref h.length), a, b, c, none] ∧ g = h ++ FO.dic (kvs x d (rus.take i)) :: FO.lst R :: ex) (fun _ _ => False) 5
    (by
      have e : g__law_kd_rules [] (h ++ [FO.dic []]) = .ok (.ref (h.length + 1)) (h ++ FO.dic [] :: FO.lst R :: []) := by rw [s_rules, hR]; simp
      have l : lstF (h.length + 1) (h ++ FO.dic [] :: FO.lst R :: []) = some R := by unfold lstF; simp only [eR]
      simp [e, l])
    (by
      have l : lstF (h.length + 1) (h ++ FO.dic [] :: FO.lst R :: []) = some R := by unfold lstF; simp only [eR]
      unfold lenI
      simp only [l]
      rw [hR]; rfl)
    ⟨none, none, none, [], rfl, rfl⟩ ?_ ?_
  · obtain ⟨σ', h', e1, (⟨a, b, c, ex, rfl, rfl⟩ | f)⟩ := loop
    · refine ⟨FO.lst R :: ex, ?_⟩
      refine cDef_rt (ev := e__law_all) ?_
      show (sSeq (sAsg 2 cDic0) (sSeq (sFor (cIt (cCall 0 g__law_kd_rules cNil)) (.nm 3) abody) (sRet (cVar 2)))) [some (.int x), some (.int d), none, none, none, none, none] h = _
      rw [a_sSeq, show sAsg 2 cDic0 [some (.int x), some (.int d), none, none, none, none, none] h = .nx [some (.int x), some (.int d), some (.ref h.length), none, none, none, none] (h ++ [FO.dic []]) from rfl, then_nx, a_sSeq, e1, then_nx]
      rfl
    · exact f.elim
  · rintro σ g ⟨a, b, c, ex, rfl, rfl⟩
    rw [nx, hR]
    rfl
  · rintro i σ g hi ⟨a, b, c, ex, rfl, rfl⟩
    obtain ⟨r, hr⟩ : ∃ r, r = rus.getD i .down := ⟨_, rfl⟩
    have at_ : R[i]? = some (.str r.s) := by rw [hR, List.getElem?_map, rus_at ⟨i, hi⟩, hr]; rfl
    have an : ((kvs x d (rus.take i)).any fun q => decide (q.1 = (.inr r.s : Key))) = false := by rw [kvs_any, hr]; exact rus_new ⟨i, hi⟩
    have ab := abody_ok (r := r) (g := h ++ FO.dic (kvs x d (rus.take i)) :: FO.lst R :: ex) (m := h.length) (kv := kvs x d (rus.take i)) (a := b) (b := c) (c := none) (e := none) hx hd d0 at_len an (by unfold kvs; rw [List.length_map, List.length_take]; exact Nat.lt_of_le_of_lt (Nat.min_le_right _ _) (by decide))
    refine ⟨.str r.s, _, _, _, by rw [nx, at_], rfl, .inl ⟨ab, _, _, _, ex ++ [FO.opq, FO.lst [], FO.lst []], rfl, ?_⟩⟩
    rw [show rus.take (i + 1) = rus.take i ++ [r] from by rw [hr]; exact rus_take ⟨i, hi⟩]
    unfold kvs
    rw [List.map_append]
    simp
theorem s_look {x d : Int} (r : Ru) {g : FH} {m : Nat} (e : g[m]? = some (.dic (kvs x d rus))) : ixF (.ref m) (.str r.s) g = some (.tup [.int (dvd r x d).1, .int (dvd r x d).2], g) := by
  have e1 : seqF (.ref m) g = none := by unfold seqF; simp only [e]
  have e2 : lookF (kvs x d rus) (.inr r.s) = some (.tup [.int (dvd r x d).1, .int (dvd r x d).2]) := by cases r <;> kernel_rfl
  unfold ixF
  simp only [e1, e, fkey, e2]
end LW_k15
set_option maxRecDepth 100000
set_option maxHeartbeats 4000000
namespace LW_k15
open PySem PySem.Spec PyProof.Rows L2 FX
def hg0 : EvS := (sPar3 2 3 4 (cCons (cCall 2 g__law_all (cCons (cVar 0) (cCons (cVar 1) cNil))) (cCons (cCall 2 g__law_all (cCons (cNeg (cVar 0)) (cCons (cVar 1) cNil))) (cCons (cCall 2 g__law_all (cCons (cVar 0) (cCons (cNeg (cVar 1)) cNil))) cNil))))
def hg1 : EvS := (sIf (cOrT (cTb (cBin isF (cVar 2) (cC .non))) (cOrT (cTb (cBin isF (cVar 3) (cC .non))) (cTb (cBin isF (cVar 4) (cC .non))))) (sRet (cC (.bl false))) sSkip)
def hg2 : EvS := (sPar3 5 6 7 (cCons (cBin ixF (cBin ixF (cVar 2) (cC (.str "down"))) (cC (.int 0))) (cCons (cBin ixF (cBin ixF (cVar 2) (cC (.str "up"))) (cC (.int 0))) (cCons (cBin ixF (cBin ixF (cVar 2) (cC (.str "zero"))) (cC (.int 0))) cNil))))
def hg3 : EvS := (sIf (cOrT (cTb (cBin neF (cBin subF (cVar 6) (cVar 5)) (cCB intF (cCons (cBin neF (cBin modF (cVar 0) (cVar 1)) (cC (.int 0))) cNil)))) (cOrT (cTb (cBin gtF (cCB absF (cCons (cVar 7) cNil)) (cCB absF (cCons (cVar 5) cNil)))) (cOrT (cTb (cBin gtF (cCB absF (cCons (cVar 7) cNil)) (cCB absF (cCons (cVar 6) cNil)))) (cTb (cBin ninF (cVar 7) (cTup (cCons (cVar 5) (cCons (cVar 6) cNil)))))))) (sRet (cC (.bl false))) sSkip)
def hg4 : EvS := (sIf (cOrT (cTb (cBin neF (cBin ixF (cBin ixF (cVar 2) (cC (.str "positive"))) (cC (.int 0))) (cIf (cTb (cBin gtF (cVar 1) (cC (.int 0)))) (cVar 5) (cVar 6)))) (cTb (cBin ltF (cBin ixF (cBin ixF (cVar 2) (cC (.str "positive"))) (cC (.int 1))) (cC (.int 0))))) (sRet (cC (.bl false))) sSkip)
def hg5 : EvS := (sAsg 8 (cBin ixF (cBin ixF (cVar 2) (cC (.str "near"))) (cC (.int 1))))
def hg6 : EvS := (sIf (cOrT (cTb (cBin gtF (cBin mulF (cC (.int 2)) (cCB absF (cCons (cVar 8) cNil))) (cCB absF (cCons (cVar 1) cNil)))) (cOrT (cTb (cBin eqF (cBin mulF (cC (.int 2)) (cVar 8)) (cNeg (cCB absF (cCons (cVar 1) cNil))))) (cTb (cBin ninF (cBin ixF (cBin ixF (cVar 2) (cC (.str "near"))) (cC (.int 0))) (cTup (cCons (cVar 5) (cCons (cVar 6) cNil))))))) (sRet (cC (.bl false))) sSkip)
def hg7 : EvS := (sIf (cOrT (cTb (cBin neF (cBin ixF (cBin ixF (cVar 3) (cC (.str "up"))) (cC (.int 0))) (cNeg (cVar 5)))) (cOrT (cTb (cBin neF (cBin ixF (cBin ixF (cVar 3) (cC (.str "down"))) (cC (.int 0))) (cNeg (cVar 6)))) (cTb (cBin neF (cBin ixF (cBin ixF (cVar 3) (cC (.str "zero"))) (cC (.int 0))) (cNeg (cVar 7)))))) (sRet (cC (.bl false))) sSkip)
def hg8 : EvS := (sRet (cAnd (cBin eqF (cBin ixF (cBin ixF (cVar 4) (cC (.str "zero"))) (cC (.int 0))) (cNeg (cVar 7))) (cAnd (cBin eqF (cBin ixF (cBin ixF (cVar 4) (cC (.str "down"))) (cC (.int 0))) (cNeg (cVar 6))) (cBin eqF (cBin ixF (cBin ixF (cVar 4) (cC (.str "positive"))) (cC (.int 1))) (cBin ixF (cBin ixF (cVar 2) (cC (.str "positive"))) (cC (.int 1)))))))
@[simp] theorem is_ref {n : Nat} {g : FH} : isF (.ref n) .non g = some (.bl false, g) := rfl
@[simp] theorem int_bl {b : Bool} {g : FH} : intF [.bl b] g = some (.int (if b then 1 else 0), g) := rfl
theorem s_hang {x d : Int} (h : FH) (hx : x.natAbs ≤ 10 ^ 100) (hd : d.natAbs ≤ 10 ^ 100) (d0 : d ≠ 0) : ∃ ex, g__law_hang_right [.int x, .int d] h = .ok (.bl true) (h ++ ex) := by
  obtain ⟨x1, a1⟩ := s_all (x := x) (d := d) h hx hd d0
  obtain ⟨g1, eg1⟩ : ∃ g1, g1 = h ++ FO.dic (kvs x d rus) :: x1 := ⟨_, rfl⟩
  rw [← eg1] at a1
  obtain ⟨x2, a2⟩ := s_all (x := -x) (d := d) g1 (by rw [Int.natAbs_neg]; exact hx) hd d0
  obtain ⟨g2, eg2⟩ : ∃ g2, g2 = g1 ++ FO.dic (kvs (-x) d rus) :: x2 := ⟨_, rfl⟩
  rw [← eg2] at a2
  obtain ⟨x3, a3⟩ := s_all (x := x) (d := -d) g2 hx (by rw [Int.natAbs_neg]; exact hd) (by omega)
  obtain ⟨g, hg⟩ : ∃ g, g = g2 ++ FO.dic (kvs x (-d) rus) :: x3 := ⟨_, rfl⟩
  rw [← hg] at a3
  obtain ⟨m1, hm1⟩ : ∃ m1, m1 = h.length := ⟨_, rfl⟩
  obtain ⟨m2, hm2⟩ : ∃ m2, m2 = g1.length := ⟨_, rfl⟩
  obtain ⟨m3, hm3⟩ : ∃ m3, m3 = g2.length := ⟨_, rfl⟩
  rw [← hm1] at a1
  rw [← hm2] at a2
  rw [← hm3] at a3
  have b3 : g[m3]? = some (.dic (kvs x (-d) rus)) := by rw [hg, hm3]; exact at_len
  have b2 : g[m2]? = some (.dic (kvs (-x) d rus)) := by rw [hg, List.getElem?_append_left (by rw [eg2, hm2]; simp), eg2, hm2]; exact at_len
  have b1 : g[m1]? = some (.dic (kvs x d rus)) := by rw [hg, List.getElem?_append_left (by rw [eg2, eg1, hm1]; simp), eg2, List.getElem?_append_left (by rw [eg1, hm1]; simp), eg1, hm1]; exact at_len
  have l1 : ixF (.ref m1) (.str "down") g = _ := s_look .down b1
  have l2 : ixF (.ref m1) (.str "up") g = _ := s_look .up b1
  have l3 : ixF (.ref m1) (.str "zero") g = _ := s_look .zero b1
  have l4 : ixF (.ref m1) (.str "positive") g = _ := s_look .positive b1
  have l5 : ixF (.ref m1) (.str "near") g = _ := s_look .near b1
  have l6 : ixF (.ref m2) (.str "up") g = _ := s_look .up b2
  have l7 : ixF (.ref m2) (.str "down") g = _ := s_look .down b2
  have l8 : ixF (.ref m2) (.str "zero") g = _ := s_look .zero b2
  have l9 : ixF (.ref m3) (.str "zero") g = _ := s_look .zero b3
  have l10 : ixF (.ref m3) (.str "down") g = _ := s_look .down b3
  have l11 : ixF (.ref m3) (.str "positive") g = _ := s_look .positive b3
  have f0 : hg0 [some (.int x), some (.int d), none, none, none, none, none, none, none] h = .nx [some (.int x), some (.int d), some (.ref m1), some (.ref m2), some (.ref m3), none, none, none, none] g := by
    simp [hg0, a1, a2, a3]
  clear a1 a2 a3 b1 b2 b3
  have H := hang x d d0
  obtain ⟨H1, H2, H3, H4, H5, H6, H7, H8, H9, H10, H11, H12, H13, H14, H15, H16, H17⟩ := H
  have hs : sm (((dvd .near x d).2.natAbs : Nat) : Int) = true := sm_of (n := 10 ^ 100) (by have := H2 .near; omega) (by decide +kernel)
  have hs2 : sm (dvd .near x d).2 = true := sm_of (n := 10 ^ 100) (by have := H2 .near; omega) (by decide +kernel)
  have s2 : sm 2 = true := by decide +kernel
  clear H1 H2
  have i0 : ∀ (a b : Int) (h : FH), ixF (.tup [.int a, .int b]) (.int 0) h = some (.int a, h) := fun _ _ _ => ix_tup rfl
  have i1 : ∀ (a b : Int) (h : FH), ixF (.tup [.int a, .int b]) (.int 1) h = some (.int b, h) := fun _ _ _ => ix_tup rfl
  generalize (dvd .down x d).1 = dn at *
  generalize (dvd .up x d).1 = up at *
  generalize (dvd .zero x d).1 = ze at *
  generalize (dvd .positive x d).1 = po at *
  generalize (dvd .positive x d).2 = pr at *
  generalize (dvd .near x d).1 = ne at *
  generalize (dvd .near x d).2 = nr at *
  have f1 : hg1 [some (.int x), some (.int d), some (.ref m1), some (.ref m2), some (.ref m3), none, none, none, none] g = .nx [some (.int x), some (.int d), some (.ref m1), some (.ref m2), some (.ref m3), none, none, none, none] g := by
    simp [hg1]
  have f2 : hg2 [some (.int x), some (.int d), some (.ref m1), some (.ref m2), some (.ref m3), none, none, none, none] g = .nx [some (.int x), some (.int d), some (.ref m1), some (.ref m2), some (.ref m3), some (.int dn), some (.int up), some (.int ze), none] g := by
    simp [hg2, l1, l2, l3, i0]
  have f3 : hg3 [some (.int x), some (.int d), some (.ref m1), some (.ref m2), some (.ref m3), some (.int dn), some (.int up), some (.int ze), none] g = .nx [some (.int x), some (.int d), some (.ref m1), some (.ref m2), some (.ref m3), some (.int dn), some (.int up), some (.int ze), none] g := by
    have md : x.fmod d = 0 ∨ x.fmod d ≠ 0 := Decidable.em _
    have z1 : ¬ ((dn.natAbs : Int) < (ze.natAbs : Int)) := by omega
    have z2 : ¬ ((up.natAbs : Int) < (ze.natAbs : Int)) := by omega
    rcases md with md | md
    · rw [if_pos md] at H3
      have e : up - dn = 0 := H3
      rcases H6 with rfl | rfl <;> simp [hg3, x_mod, d0, md, e, z1, z2]
    · rw [if_neg md] at H3
      have e : up - dn = 1 := H3
      rcases H6 with rfl | rfl <;> simp [hg3, x_mod, d0, md, e, z1, z2]
  have f4 : hg4 [some (.int x), some (.int d), some (.ref m1), some (.ref m2), some (.ref m3), some (.int dn), some (.int up), some (.int ze), none] g = .nx [some (.int x), some (.int d), some (.ref m1), some (.ref m2), some (.ref m3), some (.int dn), some (.int up), some (.int ze), none] g := by
    have p1 : ¬ pr < 0 := by omega
    by_cases q : 0 < d
    · rw [if_pos q] at H7
      simp [hg4, l4, i0, i1, q, H7, p1]
    · rw [if_neg q] at H7
      simp [hg4, l4, i0, i1, q, H7, p1]
  have f5 : hg5 [some (.int x), some (.int d), some (.ref m1), some (.ref m2), some (.ref m3), some (.int dn), some (.int up), some (.int ze), none] g = .nx [some (.int x), some (.int d), some (.ref m1), some (.ref m2), some (.ref m3), some (.int dn), some (.int up), some (.int ze), some (.int nr)] g := by
    simp [hg5, l5, i1]
  have f6 : hg6 [some (.int x), some (.int d), some (.ref m1), some (.ref m2), some (.ref m3), some (.int dn), some (.int up), some (.int ze), some (.int nr)] g = .nx [some (.int x), some (.int d), some (.ref m1), some (.ref m2), some (.ref m3), some (.int dn), some (.int up), some (.int ze), some (.int nr)] g := by
    have p1 : ¬ ((d.natAbs : Int) < 2 * (nr.natAbs : Int)) := by omega
    rcases H11 with rfl | rfl <;> simp [hg6, l5, i0, x_mul, hs, hs2, s2, p1, H10]
  have f7 : hg7 [some (.int x), some (.int d), some (.ref m1), some (.ref m2), some (.ref m3), some (.int dn), some (.int up), some (.int ze), some (.int nr)] g = .nx [some (.int x), some (.int d), some (.ref m1), some (.ref m2), some (.ref m3), some (.int dn), some (.int up), some (.int ze), some (.int nr)] g := by
    simp [hg7, l6, l7, l8, i0, H12, H13, H14]
  have f8 : hg8 [some (.int x), some (.int d), some (.ref m1), some (.ref m2), some (.ref m3), some (.int dn), some (.int up), some (.int ze), some (.int nr)] g = .rt (.bl true) g := by
    simp [hg8, l9, l10, l11, l4, i0, i1, H15, H16, H17]
  refine ⟨FO.dic (kvs x d rus) :: x1 ++ FO.dic (kvs (-x) d rus) :: x2 ++ FO.dic (kvs x (-d) rus) :: x3, ?_⟩
  rw [show h ++ (FO.dic (kvs x d rus) :: x1 ++ FO.dic (kvs (-x) d rus) :: x2 ++ FO.dic (kvs x (-d) rus) :: x3) = g from by rw [hg, eg2, eg1]; simp]
  refine cDef_rt (ev := e__law_hang_right) ?_
  show (sSeq hg0 (sSeq hg1 (sSeq hg2 (sSeq hg3 (sSeq hg4 (sSeq hg5 (sSeq hg6 (sSeq hg7 hg8)))))))) [some (.int x), some (.int d), none, none, none, none, none, none, none] h = _
  rw [a_sSeq, f0, then_nx, a_sSeq, f1, then_nx, a_sSeq, f2, then_nx, a_sSeq, f3, then_nx, a_sSeq, f4, then_nx, a_sSeq, f5, then_nx, a_sSeq, f6, then_nx, a_sSeq, f7, then_nx, f8]
end LW_k15
set_option maxRecDepth 100000
set_option maxHeartbeats 4000000
namespace LW_k15
open PySem PySem.Spec PyProof.Rows L2 FX
theorem fdiv_pos {x d q R : Int} (h : 0 < d) (e : x = q * d + R) (r0 : 0 ≤ R) (r1 : R < d) : x.fdiv d = q := by
  rw [Int.fdiv_eq_ediv_of_nonneg _ (Int.le_of_lt h), e, Int.add_comm, Int.add_mul_ediv_right _ _ (by omega), Int.ediv_eq_zero_of_lt r0 r1, Int.zero_add]
theorem fdiv_neg' {x d q R : Int} (h : d < 0) (e : x = q * d + R) (r0 : R ≤ 0) (r1 : d < R) : x.fdiv d = q := by
  have : x.fdiv d = (-x).fdiv (-d) := by rw [Int.neg_fdiv_neg]
  rw [this]
  exact fdiv_pos (R := -R) (by omega) (by rw [e, Int.mul_neg, Int.neg_add]) (by omega) (by omega)
theorem fmod_pos {x d q R : Int} (h : 0 < d) (e : x = q * d + R) (r0 : 0 ≤ R) (r1 : R < d) : x.fmod d = R := by
  rw [Int.fmod_eq_emod_of_nonneg _ (Int.le_of_lt h), e, Int.add_comm, Int.add_mul_emod_self_right, Int.emod_eq_of_lt r0 r1]
def kq (r : Ru) (x b : Int) : Int := match r with
  | .down => x.fdiv b
  | .up => -((-x).fdiv b)
  | .zero => if decide (0 ≤ x) = decide (0 < b) then x.fdiv b else -((-x).fdiv b)
  | .positive => (x - x.fmod b.natAbs).fdiv b
  | .near => (x - (if (b.natAbs : Int) < 2 * x.fmod b.natAbs then x.fmod b.natAbs - b.natAbs else x.fmod b.natAbs)).fdiv b
theorem kq_eq (r : Ru) (x d : Int) (d0 : d ≠ 0) : kq r x d = (dvd r x d).1 := by
  have H := hang x d d0
  have bk := H.back
  obtain ⟨s, t, w, p, D, h1, h2, h3, h4, h5, D0, p0, pD, w0, ht, hs⟩ := parts x d d0
  have e := fun r => dvd_parts (r := r) h1 h2 h3 h4 h5
  have dn : x.fdiv d = (dvd .down x d).1 := by
    have b := bk .down
    have c : (t = 1 → 0 ≤ (dvd .down x d).2 ∧ (dvd .down x d).2 < D) ∧ (t = -1 → (dvd .down x d).2 ≤ 0 ∧ -D < (dvd .down x d).2) := by
      rw [e]
      unfold dvp
      rcases ht with ⟨rfl, hd⟩ | ⟨rfl, hd⟩ <;> rcases hs with ⟨rfl, hx⟩ | ⟨rfl, hx⟩ | ⟨rfl, hx, hw, hp⟩ <;> simp [gr] <;> (try split) <;> (try simp) <;> (try omega)
    rcases ht with ⟨ht, hd⟩ | ⟨ht, hd⟩
    · exact fdiv_pos (by omega) b.symm (c.1 ht).1 (by have := (c.1 ht).2; omega)
    · exact fdiv_neg' (by omega) b.symm (c.2 ht).1 (by have := (c.2 ht).2; omega)
  have up : -((-x).fdiv d) = (dvd .up x d).1 := by
    have b := bk .up
    have b' : -x = (-(dvd .up x d).1) * d + -(dvd .up x d).2 := by rw [Int.neg_mul]; omega
    have c : (t = 1 → (dvd .up x d).2 ≤ 0 ∧ -D < (dvd .up x d).2) ∧ (t = -1 → 0 ≤ (dvd .up x d).2 ∧ (dvd .up x d).2 < D) := by
      rw [e]
      unfold dvp
      rcases ht with ⟨rfl, hd⟩ | ⟨rfl, hd⟩ <;> rcases hs with ⟨rfl, hx⟩ | ⟨rfl, hx⟩ | ⟨rfl, hx, hw, hp⟩ <;> simp [gr] <;> (try split) <;> (try simp) <;> (try omega)
    have z : (-x).fdiv d = -(dvd .up x d).1 := by
      rcases ht with ⟨ht, hd⟩ | ⟨ht, hd⟩
      · exact fdiv_pos (by omega) b' (by have := (c.1 ht).1; omega) (by have := (c.1 ht).2; omega)
      · exact fdiv_neg' (by omega) b' (by have := (c.2 ht).1; omega) (by have := (c.2 ht).2; omega)
    rw [z, Int.neg_neg]
  have ps : x.fmod d.natAbs = (dvd .positive x d).2 := by
    have b := bk .positive
    have c : 0 ≤ (dvd .positive x d).2 ∧ (dvd .positive x d).2 < D := by
      rw [e]
      unfold dvp
      rcases ht with ⟨rfl, hd⟩ | ⟨rfl, hd⟩ <;> rcases hs with ⟨rfl, hx⟩ | ⟨rfl, hx⟩ | ⟨rfl, hx, hw, hp⟩ <;> simp [gr] <;> (try split) <;> (try simp) <;> (try omega)
    rcases ht with ⟨ht, hd⟩ | ⟨ht, hd⟩
    · exact fmod_pos (q := (dvd .positive x d).1) (by omega) (by rw [h5, ← hd]; exact b.symm) c.1 (by rw [h5]; exact c.2)
    · exact fmod_pos (q := -(dvd .positive x d).1) (by omega) (by rw [h5, show D = -d by omega, Int.neg_mul_neg]; exact b.symm) c.1 (by rw [h5]; exact c.2)
  cases r
  case down => exact dn
  case up => exact up
  case zero =>
    show (if decide (0 ≤ x) = decide (0 < d) then x.fdiv d else -((-x).fdiv d)) = _
    have wD : 0 ≤ w * D := Int.mul_nonneg w0 (Int.le_of_lt D0)
    have xz : s = -1 → x ≠ 0 := fun z y => by rw [y] at h1; rw [z] at h1; cases h1
    have dx : decide (0 ≤ x) = decide (s ≠ -1) := by
      rcases hs with ⟨rfl, hx⟩ | ⟨rfl, hx⟩ | ⟨rfl, hx, hw, hp⟩
      · rw [decide_eq_true (show 0 ≤ x by omega)]; rfl
      · rw [decide_eq_false (show ¬ 0 ≤ x by have := xz rfl; omega)]; rfl
      · rw [decide_eq_true (show 0 ≤ x by omega)]; rfl
    have dt : decide (0 < d) = decide (t = 1) := by
      rcases ht with ⟨rfl, hd⟩ | ⟨rfl, hd⟩
      · rw [decide_eq_true (show 0 < d by omega)]; rfl
      · rw [decide_eq_false (show ¬ 0 < d by omega)]; rfl
    rw [dn, up, e, e, e, dx, dt]
    unfold dvp
    rcases ht with ⟨rfl, hd⟩ | ⟨rfl, hd⟩ <;> rcases hs with ⟨rfl, hx⟩ | ⟨rfl, hx⟩ | ⟨rfl, hx, hw, hp⟩ <;> simp [gr]
  case positive =>
    show (x - x.fmod d.natAbs).fdiv d = _
    rw [ps, show x - (dvd .positive x d).2 = (dvd .positive x d).1 * d by have := bk .positive; omega, Int.mul_fdiv_cancel _ d0]
  case near =>
    show (x - (if (d.natAbs : Int) < 2 * x.fmod d.natAbs then x.fmod d.natAbs - d.natAbs else x.fmod d.natAbs)).fdiv d = _
    have z : (if (d.natAbs : Int) < 2 * x.fmod d.natAbs then x.fmod d.natAbs - d.natAbs else x.fmod d.natAbs) = (dvd .near x d).2 := by
      rw [ps, h5, e, e]
      unfold dvp
      by_cases pz : 0 < p
      · by_cases q1 : D < 2 * p
        · rcases ht with ⟨rfl, hd⟩ | ⟨rfl, hd⟩ <;> rcases hs with ⟨rfl, hx⟩ | ⟨rfl, hx⟩ | ⟨rfl, hx, hw, hp⟩ <;> simp [gr, pz, q1] <;> omega
        · by_cases q2 : 2 * p = D
          · rcases ht with ⟨rfl, hd⟩ | ⟨rfl, hd⟩ <;> rcases hs with ⟨rfl, hx⟩ | ⟨rfl, hx⟩ | ⟨rfl, hx, hw, hp⟩ <;> simp [gr, pz, q1, q2] <;> omega
          · rcases ht with ⟨rfl, hd⟩ | ⟨rfl, hd⟩ <;> rcases hs with ⟨rfl, hx⟩ | ⟨rfl, hx⟩ | ⟨rfl, hx, hw, hp⟩ <;> simp [gr, pz, q1, q2] <;> omega
      · have : p = 0 := by omega
        subst this
        simp
        omega
    rw [z, show x - (dvd .near x d).2 = (dvd .near x d).1 * d by have := bk .near; omega, Int.mul_fdiv_cancel _ d0]
theorem eq_bl (a b : Bool) (h : FH) : eqF (.bl a) (.bl b) h = some (.bl (decide (a = b)), h) := by cases a <;> cases b <;> rfl
theorem eq_dd (h : FH) : eqF (.str "down") (.str "down") h = some (.bl true, h) := by kernel_rfl
theorem eq_ud (h : FH) : eqF (.str "up") (.str "down") h = some (.bl false, h) := by kernel_rfl
theorem eq_uu (h : FH) : eqF (.str "up") (.str "up") h = some (.bl true, h) := by kernel_rfl
theorem s_kd_divide (r : Ru) {x d : Int} (h : FH) (hx : x.natAbs ≤ 10 ^ 100) (hd : d.natAbs ≤ 10 ^ 100) (d0 : d ≠ 0) : g__law_kd_divide [.str r.s, .int x, .int d] h = .ok (.tup [.int (dvd r x d).1, .int (dvd r x d).2]) h := by
  have k := kq_eq r x d d0
  have b := (hang x d d0).back r
  have sd : sm d = true := (lm_le hd (Nat.pow_le_pow_right (by decide) (by decide)) : lm d).sm
  have sq : sm (dvd r x d).1 = true := sm_of (n := 10 ^ 100 + 1) (by
    obtain ⟨s, t, w, p, D, h1, h2, h3, h4, h5, D0, p0, pD, w0, ht, hs⟩ := parts x d d0
    rw [dvd_parts h1 h2 h3 h4 h5]
    have wx : w ≤ x.natAbs := by rw [← h3]; exact Int.ediv_le_self _ (by omega)
    unfold dvp
    split <;> rcases ht with ⟨rfl, hd⟩ | ⟨rfl, hd⟩ <;> rcases hs with ⟨rfl, hx⟩ | ⟨rfl, hx⟩ | ⟨rfl, hx, hw, hp⟩ <;> simp <;> omega) (by decide +kernel)
  have b2 : x - (dvd r x d).1 * d = (dvd r x d).2 := by omega
  rw [← k] at sq b2 ⊢
  rw [← b2]
  have eu : (d.natAbs : Int) ≠ 0 := by omega
  have s2 : sm 2 = true := by decide +kernel
  have sf : sm (x.fmod d.natAbs) = true := sm_of (n := 10 ^ 100) (by
    have f0 := Int.fmod_nonneg_of_pos x (show (0 : Int) < d.natAbs by omega)
    have f1 := Int.fmod_lt_of_pos x (show (0 : Int) < d.natAbs by omega)
    omega) (by decide +kernel)
  cases r
  case down => simp [g__law_kd_divide, e__law_kd_divide, cDef, eq_zero, eq_down, x_div, x_mul, d0, sd, kq] at sq ⊢; simp [x_mul, sq, sd]
  case up => simp [g__law_kd_divide, e__law_kd_divide, cDef, eq_zero, eq_down, eq_up, x_div, x_mul, d0, sd, kq] at sq ⊢; simp [x_mul, sq, sd]
  case zero =>
    by_cases q : decide (0 ≤ x) = decide (0 < d)
    · have e : kq .zero x d = x.fdiv d := if_pos q
      rw [e] at sq ⊢
      simp [g__law_kd_divide, e__law_kd_divide, cDef, eq_zero, eq_bl, q, eq_dd, x_div, x_mul, d0, sd, sq]
    · have e : kq .zero x d = -((-x).fdiv d) := if_neg q
      rw [e] at sq ⊢
      simp [g__law_kd_divide, e__law_kd_divide, cDef, eq_zero, eq_bl, q, eq_ud, eq_uu, x_div, x_mul, d0, sd, sq]
  case positive =>
    have e : kq .positive x d = (x - x.fmod d.natAbs).fdiv d := rfl
    rw [e] at sq ⊢
    simp [g__law_kd_divide, e__law_kd_divide, cDef, eq_zero, eq_down, eq_up, eq_near, x_div, x_mod, x_mul, d0, eu, sd, sq]
  case near =>
    by_cases q : (d.natAbs : Int) < 2 * x.fmod d.natAbs
    · have e : kq .near x d = (x - (x.fmod d.natAbs - d.natAbs)).fdiv d := by unfold kq; simp only [if_pos q]
      rw [e] at sq ⊢
      simp [g__law_kd_divide, e__law_kd_divide, cDef, eq_zero, eq_down, eq_up, eq_near, x_div, x_mod, x_mul, d0, eu, sd, sq, q, s2, sf]
    · have e : kq .near x d = (x - x.fmod d.natAbs).fdiv d := by unfold kq; simp only [if_neg q]
      rw [e] at sq ⊢
      simp [g__law_kd_divide, e__law_kd_divide, cDef, eq_zero, eq_down, eq_up, eq_near, x_div, x_mod, x_mul, d0, eu, sd, sq, q, s2, sf]
end LW_k15
set_option maxRecDepth 100000
set_option maxHeartbeats 4000000
namespace LW_k15
open PySem PySem.Spec PyProof.Rows L2 FX
theorem g_take : g__law_take = jTake := rfl
theorem g_one : g__law_one = jOne := rfl
theorem g_pool : g__law_pool = jPool := rfl
section
variable {h : FH} {j n : Nat}
theorem one_new (J : Jar j n h) (hn : n < 10 ^ 12) (xs : List FV) (x0 : xs ≠ []) (xl : xs.length ≤ 1000) : ∃ (x : FV) (h' : FH), jOne [.ref j, .ref h.length] (h ++ [FO.lst xs]) = .ok x h' ∧ x ∈ xs ∧ Jar j (n + 1) h' ∧ Bes j h h' := by
  have lt := J.lt
  obtain ⟨x, h', e, m, J', B⟩ := jOne_ok (J.grw (Grw.app (l := [FO.lst xs]))) hn (xs := xs) (t := h.length) (by simp) (by omega) x0 xl
  exact ⟨x, h', e, m, J', Bes.app.trans B⟩
theorem kg_base_ok (J : Jar j n h) (hn : n + 5 < 10 ^ 12) : ∃ (b : Int) (h' : FH), g__law_kg_base [.ref j] h = .ok (.int b) h' ∧ 2 ≤ b.natAbs ∧ b.natAbs ≤ 10 ∧ Jar j (n + 3) h' ∧ Bes j h h' := by
  obtain ⟨f, h1, e1, f0, f1, J1, B1⟩ := jTake_ok J (by omega) (m := 9) (by decide) (by decide +kernel)
  obtain ⟨x, h2, e2, mx, J2, B2⟩ := one_new J1 (by omega) [.int 2, .int 3, .int 10, .int (2 + f)] (by simp) (by simp)
  obtain ⟨y, h3, e3, my, J3, B3⟩ := one_new J2 (by omega) [.int 1, .int 1, .int (-1)] (by simp) (by simp)
  obtain ⟨a, rfl, a0, a1⟩ : ∃ a : Int, x = .int a ∧ 2 ≤ a ∧ a ≤ 10 := by
    simp only [List.mem_cons, List.not_mem_nil, or_false] at mx
    rcases mx with rfl | rfl | rfl | rfl
    · exact ⟨_, rfl, by omega, by omega⟩
    · exact ⟨_, rfl, by omega, by omega⟩
    · exact ⟨_, rfl, by omega, by omega⟩
    · exact ⟨_, rfl, by omega, by omega⟩
  obtain ⟨b, rfl, b0⟩ : ∃ b : Int, y = .int b ∧ (b = 1 ∨ b = -1) := by
    simp only [List.mem_cons, List.not_mem_nil, or_false] at my
    rcases my with rfl | rfl | rfl <;> exact ⟨_, rfl, by simp⟩
  have sa : sm a = true := sm_of (n := 10) (by omega) (by decide +kernel)
  have sb : sm b = true := by rcases b0 with rfl | rfl <;> decide +kernel
  refine ⟨a * b, h3, ?_, ?_, ?_, J3, (B1.trans B2).trans B3⟩
  · simp [g__law_kg_base, e__law_kg_base, cDef, g_take, g_one, e1, e2, e3, x_mul, sa, sb]
  · rcases b0 with rfl | rfl <;> omega
  · rcases b0 with rfl | rfl <;> omega
def T20 : Int := 10 ^ 20
theorem pow20 {h : FH} : powF (.int 10) (.int 20) h = some (.int T20, h) := pow_int (by decide) (by decide) (by decide)
theorem T20_pos : 0 < T20 := by decide +kernel
theorem T20_sm : sm T20 = true := by decide +kernel
theorem T20_le : T20 ≤ T60 := by decide +kernel
theorem pow50 {i : Int} {h : FH} (c : i.natAbs < 2 ^ 64) : powF (.int i) (.int 50) h = some (.int (i ^ 50), h) := pow_int (by decide) (by decide) c
theorem add_lists {h : FH} {i k : Nat} {xs ys : List FV} (a : h[i]? = some (.lst xs)) (b : h[k]? = some (.lst ys)) (l : xs.length + ys.length ≤ 1000) : addF (.ref i) (.ref k) h = some (.ref h.length, h ++ [FO.lst (xs ++ ys)]) := by
  unfold addF
  simp only [a, b]
  rw [if_pos (Nat.le_trans l (by decide +kernel))]
theorem kg_integer_ok (J : Jar j n h) (hn : n + 9 < 10 ^ 12) : ∃ (x : Int) (h' : FH), g__law_kg_integer [.ref j] h = .ok (.int x) h' ∧ (x.natAbs : Int) ≤ T60 ∧ Jar j (n + 5) h' ∧ Bes j h h' := by
  have t1 := T20_pos
  have t2 := T20_le
  have t3 := T60_pos
  have t4 : (1000 : Int) ≤ T60 := by decide +kernel
  obtain ⟨f1, h1, e1, a1, b1, J1, B1⟩ := jTake_ok J (by omega) (m := 400) (by decide) (by decide +kernel)
  obtain ⟨f2, h2, e2, a2, b2, J2, B2⟩ := jTake_ok J1 (by omega) (m := T20) T20_pos T20_sm
  obtain ⟨f3, h3, e3, a3, b3, J3, B3⟩ := jTake_ok J2 (by omega) (m := T20) T20_pos T20_sm
  obtain ⟨L1, hL1⟩ : ∃ L1 : List FV, L1 = [.int 0, .int 1, .int (-1), .int (f1 - 200), .int f2, .int (-f3), .int (T60 - 1)] := ⟨_, rfl⟩
  obtain ⟨g1, hg1⟩ : ∃ g1, h3 ++ [FO.lst L1] = g1 := ⟨_, rfl⟩
  have at1 : g1[h3.length]? = some (.lst L1) := by rw [← hg1]; simp
  have J4 : Jar j (n + 3) g1 := by rw [← hg1]; exact J3.grw .app
  have B4 : Bes j h3 g1 := by rw [← hg1]; exact .app
  have nj : h3.length ≠ j := by have := J3.lt; omega
  obtain ⟨y, h5, e5, my, J5, B5⟩ := one_new J4 (by omega) [.int 2, .int (-2), .int 3, .int 10] (by simp) (by simp)
  obtain ⟨b, rfl, b0⟩ : ∃ b : Int, y = .int b ∧ (b = 2 ∨ b = -2 ∨ b = 3 ∨ b = 10) := by
    simp only [List.mem_cons, List.not_mem_nil, or_false] at my
    rcases my with rfl | rfl | rfl | rfl <;> exact ⟨_, rfl, by simp⟩
  have bs : b.natAbs < 2 ^ 64 := by rcases b0 with rfl | rfl | rfl | rfl <;> decide
  have bp : ((b ^ 50).natAbs : Int) ≤ T60 := by rcases b0 with rfl | rfl | rfl | rfl <;> decide +kernel
  obtain ⟨P, hP⟩ : ∃ P : Int, b ^ 50 = P := ⟨_, rfl⟩
  rw [hP] at bp
  obtain ⟨g2, hg2⟩ : ∃ g2, h5 ++ [FO.lst [.int (1 - T60), .int P]] = g2 := ⟨_, rfl⟩
  have at2 : g2[h3.length]? = some (.lst L1) := by
    rw [← hg2, List.getElem?_append_left]
    · exact B5.at_ nj at1
    · exact (List.getElem?_eq_some_iff.mp (B5.at_ nj at1)).1
  have at3 : g2[h5.length]? = some (.lst [.int (1 - T60), .int P]) := by rw [← hg2]; simp
  have J6 : Jar j (n + 4) g2 := by rw [← hg2]; exact J5.grw .app
  have B6 : Bes j h5 g2 := by rw [← hg2]; exact .app
  have ad := add_lists at2 at3 (by rw [hL1]; simp)
  obtain ⟨z, h7, e7, mz, J7, B7⟩ := one_new J6 (by omega) (L1 ++ [.int (1 - T60), .int P]) (by simp) (by rw [hL1]; simp)
  obtain ⟨x, rfl, x0⟩ : ∃ x : Int, z = .int x ∧ (x.natAbs : Int) ≤ T60 := by
    rw [hL1] at mz
    simp only [List.cons_append, List.nil_append, List.mem_cons, List.not_mem_nil, or_false] at mz
    rcases mz with rfl | rfl | rfl | rfl | rfl | rfl | rfl | rfl | rfl
    · exact ⟨_, rfl, by omega⟩
    · exact ⟨_, rfl, by omega⟩
    · exact ⟨_, rfl, by omega⟩
    · exact ⟨_, rfl, by omega⟩
    · exact ⟨_, rfl, by omega⟩
    · exact ⟨_, rfl, by omega⟩
    · exact ⟨_, rfl, by omega⟩
    · exact ⟨_, rfl, by omega⟩
    · exact ⟨_, rfl, bp⟩
  refine ⟨x, h7, ?_, x0, J7, ((((B1.trans B2).trans B3).trans B4).trans B5).trans (B6.trans B7)⟩
  refine cDef_rt (ev := e__law_kg_integer) ?_
  have f0 : sAsg 1 (cLst (cCons (cC (.int 0)) (cCons (cC (.int 1)) (cCons (cNeg (cC (.int 1))) (cCons (cBin subF (cCall 2 g__law_take (cCons (cVar 0) (cCons (cC (.int 400)) cNil))) (cC (.int 200))) (cCons (cCall 2 g__law_take (cCons (cVar 0) (cCons (cBin powF (cC (.int 10)) (cC (.int 20))) cNil))) (cCons (cNeg (cCall 2 g__law_take (cCons (cVar 0) (cCons (cBin powF (cC (.int 10)) (cC (.int 20))) cNil)))) (cCons (cBin subF (cBin powF (cC (.int 10)) (cC (.int 60))) (cC (.int 1))) cNil)))))))) [some (.ref j), none] h = .nx [some (.ref j), some (.ref h3.length)] g1 := by
    rw [← hg1, hL1]
    simp [g_take, pow20, pow60, e1, e2, e3]
  have f1 : sRet (cCall 2 g__law_one (cCons (cVar 0) (cCons (cBin addF (cVar 1) (cLst (cCons (cBin subF (cC (.int 1)) (cBin powF (cC (.int 10)) (cC (.int 60)))) (cCons (cBin powF (cCall 2 g__law_one (cCons (cVar 0) (cCons (cLst (cCons (cC (.int 2)) (cCons (cNeg (cC (.int 2))) (cCons (cC (.int 3)) (cCons (cC (.int 10)) cNil))))) cNil))) (cC (.int 50))) cNil)))) cNil))) [some (.ref j), some (.ref h3.length)] g1 = .rt (.int x) h7 := by
    simp [g_one, pow60, pow50 bs, hP, e5, hg2, ad, e7]
  show (sSeq (sAsg 1 _) (sRet _)) [some (.ref j), none] h = _
  rw [a_sSeq, f0, then_nx, f1]
end
end LW_k15
set_option maxRecDepth 100000
set_option maxHeartbeats 4000000
namespace LW_k15
open PySem PySem.Spec PyProof.Rows L2 FX
/-- the figures, lowest first -/
def digs (D : Int) : Nat → Int → List Int
  | 0, _ => []
  | k + 1, a => if a = 0 then [] else a % D :: digs D k (a / D)
def fbody : EvS := (sSeq (sIf (cTb (cBin eqF (cVar 3) (cC (.int 0)))) sBrk sSkip)
    (sSeq (sExpr (cLM appendF (cVar 2) (cCons (cBin modF (cVar 3) (cVar 1)) cNil)))
    (sAsg 3 (cBin divF (cVar 3) (cVar 1)))))
theorem append_at {h : FH} {l : FH} {xs : List FV} {y : FV} (a : xs.length < 1000) : appendF (.ref h.length) [y] (h ++ FO.lst xs :: l) = some (.non, h ++ FO.lst (xs ++ [y]) :: l) := by
  have e : (h ++ FO.lst xs :: l)[h.length]? = some (.lst xs) := by simp
  unfold appendF
  simp only [e]
  rw [if_pos (Nat.lt_of_lt_of_le a (by decide +kernel))]
  simp
theorem figures_ok {x D : Int} (h : FH) (hD : 2 ≤ D) (sD : sm D = true) : ∃ ex, g__law_kd_figures [.int x, .int D] h = .ok (.tup ((digs D 400 x.natAbs).map FV.int)) (h ++ ex) := by
  have d0 : D ≠ 0 := by omega
  have loop := sFor_loop (ei := cRng1 (cCons (cC (.int 400)) cNil)) (s := .rng 0 400) (t := .nm 4) (b := fbody) (σ := [some (.int x), some (.int D), some (.ref h.length), some (.int x.natAbs), none]) (h := h ++ [FO.lst []]) (h1 := h ++ [FO.lst []])
    (fun i σ g => ∃ (made : List Int) (left : Int) (a : Option FV), σ = [some (.int x), some (.int D), some (.ref h.length), some (.int left), a] ∧ g = h ++ [FO.lst (made.map FV.int)] ∧ digs D 400 x.natAbs = made ++ digs D (400 - i) left ∧ made.length = i ∧ 0 ≤ left)
    (fun σ g => ∃ (a : Option FV) (l : FV), σ = [some (.int x), some (.int D), some (.ref h.length), some l, a] ∧ g = h ++ [FO.lst ((digs D 400 x.natAbs).map FV.int)]) 400
    (cRng1_nat (n := 400) rfl (by decide)) rfl ⟨[], x.natAbs, none, rfl, rfl, by simp, rfl, by omega⟩ (fun _ _ _ => rng_none) ?_
  · have fin : ∃ (σ' : FSt), (∃ (a : Option FV) (l : FV), σ' = [some (.int x), some (.int D), some (.ref h.length), some l, a]) ∧ sFor (cRng1 (cCons (cC (.int 400)) cNil)) (.nm 4) fbody [some (.int x), some (.int D), some (.ref h.length), some (.int x.natAbs), none] (h ++ [FO.lst []]) = .nx σ' (h ++ [FO.lst ((digs D 400 x.natAbs).map FV.int)]) := by
      obtain ⟨σ', h', e1, (⟨made, left, a, rfl, rfl, e2, _, _⟩ | ⟨a, l, rfl, rfl⟩)⟩ := loop
      · refine ⟨_, ⟨a, .int left, rfl⟩, ?_⟩
        rw [e1, e2]
        simp [digs]
      · exact ⟨_, ⟨a, l, rfl⟩, e1⟩
    obtain ⟨σ', ⟨a, l, rfl⟩, e1⟩ := fin
    refine ⟨[FO.lst ((digs D 400 x.natAbs).map FV.int)], ?_⟩
    refine cDef_rt (ev := e__law_kd_figures) ?_
    show (sSeq (sPar 2 3 (cCons (cLst cNil) (cCons (cCB absF (cCons (cVar 0) cNil)) cNil))) (sSeq (sFor (cRng1 (cCons (cC (.int 400)) cNil)) (.nm 4) fbody) (sRet (cCB tupleF (cCons (cVar 2) cNil))))) [some (.int x), some (.int D), none, none, none] h = _
    rw [a_sSeq, show sPar 2 3 (cCons (cLst cNil) (cCons (cCB absF (cCons (cVar 0) cNil)) cNil)) [some (.int x), some (.int D), none, none, none] h = .nx [some (.int x), some (.int D), some (.ref h.length), some (.int x.natAbs), none] (h ++ [FO.lst []]) from by simp, then_nx, a_sSeq, e1, then_nx]
    have sq : seqF (.ref h.length) (h ++ [FO.lst ((digs D 400 x.natAbs).map FV.int)]) = some ((digs D 400 x.natAbs).map FV.int) := by unfold seqF; simp
    have tf : tupleF [.ref h.length] (h ++ [FO.lst ((digs D 400 x.natAbs).map FV.int)]) = some (.tup ((digs D 400 x.natAbs).map FV.int), h ++ [FO.lst ((digs D 400 x.natAbs).map FV.int)]) := by unfold tupleF; simp only [sq]
    simp [tf]
  · rintro i σ g hi ⟨made, left, a, rfl, rfl, e2, el, l0⟩
    obtain ⟨k, hk⟩ : ∃ k, 400 - i = k + 1 := ⟨400 - i - 1, by omega⟩
    have hk2 : 400 - (i + 1) = k := by omega
    have un : digs D (k + 1) left = if left = 0 then [] else left % D :: digs D k (left / D) := rfl
    rw [hk, un] at e2
    by_cases q : left = 0
    · rw [if_pos q, List.append_nil] at e2
      refine ⟨.int (0 + i), _, [some (.int x), some (.int D), some (.ref h.length), some (.int left), some (.int (0 + i))], h ++ [FO.lst (made.map FV.int)], rng_some hi, rfl, .inr (.inr ⟨?_, some (.int (0 + i)), .int left, rfl, by rw [e2]⟩)⟩
      simp [fbody, q]
    · rw [if_neg q] at e2
      have em : left.fmod D = left % D := Int.fmod_eq_emod_of_nonneg _ (by omega)
      have ed : left.fdiv D = left / D := Int.fdiv_eq_ediv_of_nonneg _ (by omega)
      refine ⟨.int (0 + i), _, [some (.int x), some (.int D), some (.ref h.length), some (.int (left / D)), some (.int (0 + i))], h ++ [FO.lst ((made ++ [left % D]).map FV.int)], rng_some hi, rfl, .inl ⟨?_, made ++ [left % D], left / D, _, rfl, rfl, ?_, by simp [el], Int.ediv_nonneg l0 (by omega)⟩⟩
      · have il : isLst (.ref h.length) (h ++ [FO.lst (made.map FV.int)]) = true := isLst_of (xs := made.map FV.int) (by simp)
        have ap := append_at (h := h) (l := []) (xs := made.map FV.int) (y := .int (left % D)) (by simp; omega)
        simp [fbody, q, il, x_mod, x_div, d0, sD, em, ed, ap]
      · rw [e2, hk2]
        simp
/-- what is left behind so many figures -/
def dvn (D : Int) : Nat → Int → Int
  | 0, a => a
  | i + 1, a => dvn D i (a / D)
theorem dvn_zero (D : Int) : ∀ i, dvn D i 0 = 0
  | 0 => rfl
  | i + 1 => by unfold dvn; rw [Int.zero_ediv]; exact dvn_zero D i
theorem dvn_succ (D : Int) : ∀ i a, dvn D (i + 1) a = dvn D i a / D
  | 0, a => rfl
  | i + 1, a => by
    show dvn D (i + 1) (a / D) = dvn D i (a / D) / D
    exact dvn_succ D i (a / D)
theorem dvn_nonneg {D : Int} (hD : 0 ≤ D) : ∀ (i : Nat) {a : Int}, 0 ≤ a → 0 ≤ dvn D i a
  | 0, a, h => h
  | i + 1, a, h => dvn_nonneg hD i (Int.ediv_nonneg h hD)
theorem digs_at (D : Int) : ∀ (k : Nat) (a : Int) (i : Nat), i < (digs D k a).length → (digs D k a)[i]? = some (dvn D i a % D)
  | 0, a, i, h => by unfold digs at h; simp at h
  | k + 1, a, i, h => by
    unfold digs at h ⊢
    by_cases q : a = 0
    · rw [if_pos q] at h; simp at h
    · rw [if_neg q] at h ⊢
      cases i with
      | zero => rfl
      | succ i =>
        rw [List.getElem?_cons_succ]
        exact digs_at D k (a / D) i (by simpa using h)
theorem digs_end {D : Int} (hD : 2 ≤ D) : ∀ (k : Nat) (a : Int), 0 ≤ a → a < 2 ^ k → dvn D (digs D k a).length a = 0
  | 0, a, h0, h1 => by
    have : a = 0 := by
      have e : (2 : Int) ^ 0 = 1 := rfl
      omega
    rw [this]; rfl
  | k + 1, a, h0, h1 => by
    unfold digs
    by_cases q : a = 0
    · rw [if_pos q, q]; rfl
    · rw [if_neg q]
      have p : (2 : Int) ^ (k + 1) = 2 ^ k * 2 := Int.pow_succ 2 k
      have l : a / D < 2 ^ k := by
        refine Int.ediv_lt_of_lt_mul (by omega) ?_
        have : (2 : Int) ^ k * 2 ≤ 2 ^ k * D := Int.mul_le_mul_of_nonneg_left hD (Int.pow_nonneg (by decide))
        omega
      exact digs_end hD k (a / D) (Int.ediv_nonneg h0 (by omega)) l
theorem digs_len (D : Int) : ∀ (k : Nat) (a : Int), (digs D k a).length ≤ k
  | 0, a => Nat.le_refl _
  | k + 1, a => by
    unfold digs
    split
    · simp
    · have := digs_len D k (a / D)
      simp only [List.length_cons]
      omega
/-- the figure at a place, also behind the last one -/
theorem figs_at {D : Int} (hD : 2 ≤ D) {a : Int} (h0 : 0 ≤ a) (h1 : a < 2 ^ 400) {i : Nat} (hi : i < (digs D 400 a ++ [0, 0, 0]).length) : (digs D 400 a ++ [0, 0, 0])[i]? = some (dvn D i a % D) := by
  by_cases l : i < (digs D 400 a).length
  · rw [List.getElem?_append_left l]
    exact digs_at D 400 a i l
  · have e := digs_end hD 400 a h0 h1
    have z : dvn D i a = 0 := by
      obtain ⟨k, rfl⟩ : ∃ k, i = (digs D 400 a).length + k := ⟨i - (digs D 400 a).length, by omega⟩
      clear hi l
      induction k with
      | zero => exact e
      | succ k ih => rw [← Nat.add_assoc, dvn_succ, ih, Int.zero_ediv]
    rw [z, Int.zero_emod, List.getElem?_append_right (by omega)]
    simp only [List.length_append, List.length_cons, List.length_nil] at hi
    have : i - (digs D 400 a).length < 3 := by omega
    match i - (digs D 400 a).length, this with
    | 0, _ => rfl
    | 1, _ => rfl
    | 2, _ => rfl
end LW_k15
set_option maxRecDepth 100000
set_option maxHeartbeats 4000000
namespace LW_k15
open PySem PySem.Spec PyProof.Rows L2 FX
/-- one figure further: what is left and the carry -/
theorem row_step (r : Ru) {s t W m D b x : Int} (hs : s = 1 ∨ s = -1) (hb : (t = 1 ∧ b = D) ∨ (t = -1 ∧ b = -D)) (hD : 2 ≤ D) (hW : 0 ≤ W) (hm : m = 0 ∨ m = 1) (hx : x = s * (W + m)) :
    (dvd r x b).1 = (s * t) * (W / D + (cry r s b (W % D + m)).1) ∧ (cry r s b (W % D + m)).2 = (dvd r x b).2 ∧ ((cry r s b (W % D + m)).1 = 0 ∨ (cry r s b (W % D + m)).1 = 1) := by
  have e := Int.mul_ediv_add_emod W D
  have f0 := Int.emod_nonneg W (show D ≠ 0 by omega)
  have f1 := Int.emod_lt_of_pos W (show 0 < D by omega)
  have w0 : 0 ≤ W / D := Int.ediv_nonneg hW (by omega)
  have bn : (b.natAbs : Int) = D := by rcases hb with ⟨_, rfl⟩ | ⟨_, rfl⟩ <;> omega
  have bs : b.sign = t := by
    rcases hb with ⟨rfl, rfl⟩ | ⟨rfl, rfl⟩
    · exact Int.sign_eq_one_of_pos (by omega)
    · exact Int.sign_eq_neg_one_of_neg (by omega)
  have xn : (x.natAbs : Int) = W + m := by rcases hs with rfl | rfl <;> omega
  generalize W / D = V at *
  generalize W % D = f at *
  have W_ : W + m = V * D + (f + m) := by rw [Int.mul_comm V D]; omega
  have vd : 0 ≤ V * D := Int.mul_nonneg w0 (by omega)
  have sx : x.sign = s ∨ (x.sign = 0 ∧ V = 0 ∧ f + m = 0) := by
    by_cases z : W + m = 0
    · right
      have : x = 0 := by rw [hx, z, Int.mul_zero]
      refine ⟨by rw [this]; rfl, ?_, by omega⟩
      by_cases v : V = 0
      · exact v
      · have : 1 * D ≤ V * D := Int.mul_le_mul_of_nonneg_right (by omega) (by omega)
        omega
    · left
      rcases hs with rfl | rfl
      · exact Int.sign_eq_one_of_pos (by omega)
      · exact Int.sign_eq_neg_one_of_neg (by omega)
  by_cases top : f + m = D
  · -- the carry runs over
    have q1 : (x.natAbs : Int) / (b.natAbs : Int) = V + 1 := by
      rw [xn, bn, W_, top, show V * D + D = (V + 1) * D by rw [Int.add_mul, Int.one_mul], Int.mul_ediv_cancel _ (by omega)]
    have q2 : (x.natAbs : Int) % (b.natAbs : Int) = 0 := by
      rw [xn, bn, W_, top, show V * D + D = (V + 1) * D by rw [Int.add_mul, Int.one_mul], Int.mul_emod_left]
    rw [dvd_parts rfl bs q1 q2 bn]
    have sx2 : x.sign = s := by
      rcases sx with z | ⟨_, _, z⟩
      · exact z
      · omega
    rw [sx2]
    unfold dvp cry
    simp [bn, top]
  · have q1 : (x.natAbs : Int) / (b.natAbs : Int) = V := by
      rw [xn, bn, W_, Int.add_comm, Int.add_mul_ediv_right _ _ (by omega), Int.ediv_eq_zero_of_lt (by omega) (by omega), Int.zero_add]
    have q2 : (x.natAbs : Int) % (b.natAbs : Int) = f + m := by
      rw [xn, bn, W_, Int.add_comm, Int.add_mul_emod_self_right, Int.emod_eq_of_lt (by omega) (by omega)]
    rw [dvd_parts rfl bs q1 q2 bn]
    unfold dvp cry
    rcases sx with z | ⟨z, v, g⟩
    · rw [z, bs, bn]
      simp only [if_neg top]
      by_cases c : 0 < f + m ∧ gr r s t (f + m) D = true
      · simp only [if_pos c]
        simp
      · simp only [if_neg c]
        simp
    · rw [z, v, g, bs, bn]
      have : ¬ (0 : Int) = D := by omega
      simp [this]
end LW_k15
set_option maxRecDepth 100000
set_option maxHeartbeats 4000000
namespace LW_k15
open PySem PySem.Spec PyProof.Rows L2 FX
def rb0 : EvS := (sAsg 11 (cCall 2 g__law_one (cCons (cVar 0) (cCons (cCall 0 g__law_kd_rules cNil) cNil))))
def rb1 : EvS := (sPar 6 7 (cCons (cCall 3 g__law_divided (cCons (cVar 11) (cCons (cVar 3) (cCons (cVar 8) cNil)))) (cCons (cLam 1 g__law_kh_heard (cCall 4 g_carry (cCons (cVar 11) (cCons (cVar 12) (cCons (cVar 8) (cCons (cBin addF (cVar 9) (cVar 10)) cNil))))) cNil) cNil)))
def rb2 : EvS := (sIf (cOrT (cTb (cBin neF (cBin ixF (cVar 6) (cC (.int 0))) (cC (.str "told")))) (cOrT (cTb (cBin neF (cBin ixF (cVar 7) (cC (.int 0))) (cC (.str "told")))) (cTb (cBin neF (cCB reprF (cCons (cBin ixF (cVar 6) (cC (.int 1))) cNil)) (cCB reprF (cCons (cCall 3 g__law_kd_divide (cCons (cVar 11) (cCons (cVar 3) (cCons (cVar 8) cNil)))) cNil)))))) (sRet (cC (.bl false))) sSkip)
def rb3 : EvS := (sPar 3 5 (cCons (cBin ixF (cBin ixF (cVar 6) (cC (.int 1))) (cC (.int 0))) (cCons (cBin divF (cVar 5) (cVar 2)) cNil)))
def rb4 : EvS := (sAsg 12 (cIf (cTb (cBin gtF (cVar 8) (cC (.int 0)))) (cVar 12) (cNeg (cVar 12))))
def rb5 : EvS := (sIf (cOrT (cNotT (cTru (cCB isiF (cCons (cBin ixF (cVar 7) (cC (.int 1))) (cCons (cC (.ty "tuple")) cNil))))) (cOrT (cTb (cBin neF (cCB lenF (cCons (cBin ixF (cVar 7) (cC (.int 1))) cNil)) (cC (.int 2)))) (cTb (cBin neF (cBin ixF (cBin ixF (cVar 7) (cC (.int 1))) (cC (.int 1))) (cBin ixF (cBin ixF (cVar 6) (cC (.int 1))) (cC (.int 1))))))) (sRet (cC (.bl false))) sSkip)
def rb6 : EvS := (sAsg 10 (cBin ixF (cBin ixF (cVar 7) (cC (.int 1))) (cC (.int 0))))
def rb7 : EvS := (sIf (cOrT (cTb (cBin ninF (cVar 10) (cTup (cCons (cC (.int 0)) (cCons (cC (.int 1)) cNil))))) (cTb (cBin neF (cVar 3) (cBin mulF (cVar 12) (cBin addF (cVar 5) (cVar 10)))))) (sRet (cC (.bl false))) sSkip)
def rbody : EvS := (sSeq rb0 (sSeq rb1 (sSeq rb2 (sSeq rb3 (sSeq rb4 (sSeq rb5 (sSeq rb6 rb7)))))))
theorem ixt0 (a b : FV) (h : FH) : ixF (.tup [a, b]) (.int 0) h = some (a, h) := ix_tup rfl
theorem ixt1 (a b : FV) (h : FH) : ixF (.tup [a, b]) (.int 1) h = some (b, h) := ix_tup rfl
theorem lam_heard {el : EvE} {σ : FSt} {h : FH} {v : FV} (e : el σ (h ++ [FO.opq]) = .ok v (h ++ [FO.opq])) : cLam 1 g__law_kh_heard el cNil σ h = .ok (.tup [.str "told", v]) (h ++ [FO.opq]) := by
  simp only [cLam, a_cNil, r_bind_ok]
  exact (if_pos rfl).trans (s_heard e)
theorem dvn_le {D : Int} (hD : 0 ≤ D) : ∀ (i : Nat) {a : Int}, 0 ≤ a → dvn D i a ≤ a
  | 0, a, h => Int.le_refl _
  | i + 1, a, h => Int.le_trans (dvn_le hD i (Int.ediv_nonneg h hD)) (Int.ediv_le_self _ h)
theorem nin_01 {c : Int} (h : c = 0 ∨ c = 1) (g : FH) : ninF (.int c) (.tup [.int 0, .int 1]) g = some (.bl false, g) := by
  rcases h with rfl | rfl <;> simp
theorem T60_lit : T60 ≤ 10 ^ 60 := Int.le_refl _
theorem rbody_ok {j n : Nat} {g : FH} {number D x W b f m s t : Int} {figs : List FV} {a6 a7 a11 : Option FV} (J : Jar j n g) (hn : n < 10 ^ 12) (hs : s = 1 ∨ s = -1) (hb : (t = 1 ∧ b = D) ∨ (t = -1 ∧ b = -D)) (hD : 2 ≤ D) (hD2 : D ≤ 10) (hW : 0 ≤ W) (hW2 : W ≤ T60)
    (hm : m = 0 ∨ m = 1) (hx : x = s * (W + m)) (hf : f = W % D) : ∃ (c6 c7 c11 : Option FV) (x' m' s' : Int) (g' : FH), rbody [some (.ref j), some (.int number), some (.int D), some (.int x), some (.tup figs), some (.int W), a6, a7, some (.int b), some (.int f), some (.int m), a11, some (.int s)] g =
      .nx [some (.ref j), some (.int number), some (.int D), some (.int x'), some (.tup figs), some (.int (W / D)), c6, c7, some (.int b), some (.int f), some (.int m'), c11, some (.int s')] g' ∧ (s' = 1 ∨ s' = -1) ∧ (m' = 0 ∨ m' = 1) ∧ x' = s' * (W / D + m') ∧ Jar j (n + 1) g' ∧ Bes j g g' := by
  have b0 : b ≠ 0 := by rcases hb with ⟨_, rfl⟩ | ⟨_, rfl⟩ <;> omega
  have bn : b.natAbs = D.natAbs := by rcases hb with ⟨_, rfl⟩ | ⟨_, rfl⟩ <;> omega
  have t60 : T60 ≤ 10 ^ 60 := T60_lit
  have p60 : (10 : Int) ^ 60 + 1 ≤ (10 : Nat) ^ 100 := by decide +kernel
  have xl : x.natAbs ≤ 10 ^ 100 := by
    have : (x.natAbs : Int) ≤ 10 ^ 60 + 1 := by rcases hs with rfl | rfl <;> omega
    omega
  have bl : b.natAbs ≤ 10 ^ 100 := Nat.le_trans (show b.natAbs ≤ 10 by omega) (by decide +kernel)
  obtain ⟨y, g1, e1, my, J1, B1⟩ := one_new J hn (rus.map fun r => FV.str r.s) (by decide) (by decide)
  obtain ⟨r, rfl⟩ : ∃ r : Ru, y = .str r.s := by
    obtain ⟨r, _, e⟩ := List.mem_map.mp my
    exact ⟨r, e.symm⟩
  have rs := row_step r hs hb hD hW hm hx
  have f0 := Int.emod_nonneg W (show D ≠ 0 by omega)
  have f1 := Int.emod_lt_of_pos W (show 0 < D by omega)
  rw [← hf] at rs f0 f1
  have ca := fun h => s_carry r (s := s) (b := b) (f := f + m) h hs (by omega) (by omega) (by omega) (by rcases hb with ⟨_, rfl⟩ | ⟨_, rfl⟩ <;> omega)
  have di := s_law_divided r g1 (lm_le xl (Nat.pow_le_pow_right (by decide) (by decide))) (lm_le bl (Nat.pow_le_pow_right (by decide) (by decide))) b0
  have kd := fun h => s_kd_divide r h xl bl b0
  have ql := quo_le r (x := x) b0
  have rl : (dvd r x b).2.natAbs < b.natAbs := (hang x b b0).less r
  obtain ⟨S, hS, hr⟩ := repr_pair (a := (dvd r x b).1) (b := (dvd r x b).2) (by
    by_cases z : (dvd r x b).1.natAbs = 0
    · rw [z]; decide
    · exact (Nat.log2_lt z).mpr (Nat.lt_of_le_of_lt (show (dvd r x b).1.natAbs ≤ 10 ^ 100 + 1 by omega) (by decide +kernel))) (by
    by_cases z : (dvd r x b).2.natAbs = 0
    · rw [z]; decide
    · exact (Nat.log2_lt z).mpr (Nat.lt_of_le_of_lt (show (dvd r x b).2.natAbs ≤ 10 by omega) (by decide +kernel)))
  have nS := ne_same hS
  obtain ⟨r1, r2, r3⟩ := rs
  generalize (dvd r x b).1 = q at *
  generalize (dvd r x b).2 = R at *
  generalize (cry r s b (f + m)).1 = c at *
  generalize (cry r s b (f + m)).2 = c2 at *
  subst r2
  have sD : sm D = true := sm_of (n := 10) (by omega) (by decide +kernel)
  have d0 : D ≠ 0 := by omega
  have fd : W.fdiv D = W / D := Int.fdiv_eq_ediv_of_nonneg _ (by omega)
  have w0 : 0 ≤ W / D := Int.ediv_nonneg hW (by omega)
  have w1 : W / D ≤ W := Int.ediv_le_self _ hW
  obtain ⟨s', hs', hs2, hs3⟩ : ∃ s', s' = s * t ∧ (s' = 1 ∨ s' = -1) ∧ (if 0 < b then s else -s) = s' := by
    rcases hb with ⟨rfl, rfl⟩ | ⟨rfl, rfl⟩
    · exact ⟨s, by omega, hs, if_pos (by omega)⟩
    · exact ⟨-s, by omega, by omega, if_neg (by omega)⟩
  rw [← hs'] at r1
  have ss : sm s' = true := by rcases hs2 with rfl | rfl <;> decide +kernel
  have sw : sm (W / D + c) = true := sm_of (n := 10 ^ 100) (by omega) (by decide +kernel)
  refine ⟨some (.tup [.str "told", .tup [.int q, .int c2]]), some (.tup [.str "told", .tup [.int c, .int c2]]), some (.str r.s), q, c, s', g1 ++ [FO.opq] ++ [FO.opq], ?_, hs2, r3, r1, (J1.grw .app).grw .app, (B1.trans .app).trans .app⟩
  have k0 : rb0 [some (.ref j), some (.int number), some (.int D), some (.int x), some (.tup figs), some (.int W), a6, a7, some (.int b), some (.int f), some (.int m), a11, some (.int s)] g = .nx [some (.ref j), some (.int number), some (.int D), some (.int x), some (.tup figs), some (.int W), a6, a7, some (.int b), some (.int f), some (.int m), some (.str r.s), some (.int s)] g1 := by
    simp [rb0, s_rules, g_one, e1]
  have k1 : rb1 [some (.ref j), some (.int number), some (.int D), some (.int x), some (.tup figs), some (.int W), a6, a7, some (.int b), some (.int f), some (.int m), some (.str r.s), some (.int s)] g1 = .nx [some (.ref j), some (.int number), some (.int D), some (.int x), some (.tup figs), some (.int W), some (.tup [.str "told", .tup [.int q, .int c2]]), some (.tup [.str "told", .tup [.int c, .int c2]]), some (.int b), some (.int f), some (.int m), some (.str r.s), some (.int s)] (g1 ++ [FO.opq] ++ [FO.opq]) := by
    have lh := lam_heard (el := cCall 4 g_carry (cCons (cVar 11) (cCons (cVar 12) (cCons (cVar 8) (cCons (cBin addF (cVar 9) (cVar 10)) cNil))))) (h := g1 ++ [FO.opq]) (σ := [some (.ref j), some (.int number), some (.int D), some (.int x), some (.tup figs), some (.int W), a6, a7, some (.int b), some (.int f), some (.int m), some (.str r.s), some (.int s)]) (v := .tup [.int c, .int c2]) (by simp [ca])
    rw [rb1, a_sPar, a_cCons, show cCall 3 g__law_divided (cCons (cVar 11) (cCons (cVar 3) (cCons (cVar 8) cNil))) [some (.ref j), some (.int number), some (.int D), some (.int x), some (.tup figs), some (.int W), a6, a7, some (.int b), some (.int f), some (.int m), some (.str r.s), some (.int s)] g1 = .ok (.tup [.str "told", .tup [.int q, .int c2]]) (g1 ++ [FO.opq]) from by simp [di], r_bind_ok, a_cCons, lh, r_bind_ok]
    rfl
  generalize g1 ++ [FO.opq] ++ [FO.opq] = g2 at *
  have k2 : rb2 [some (.ref j), some (.int number), some (.int D), some (.int x), some (.tup figs), some (.int W), some (.tup [.str "told", .tup [.int q, .int c2]]), some (.tup [.str "told", .tup [.int c, .int c2]]), some (.int b), some (.int f), some (.int m), some (.str r.s), some (.int s)] g2 = .nx [some (.ref j), some (.int number), some (.int D), some (.int x), some (.tup figs), some (.int W), some (.tup [.str "told", .tup [.int q, .int c2]]), some (.tup [.str "told", .tup [.int c, .int c2]]), some (.int b), some (.int f), some (.int m), some (.str r.s), some (.int s)] g2 := by
    simp [rb2, ixt0, ixt1, ne_told, kd, hr, nS]
  have k3 : rb3 [some (.ref j), some (.int number), some (.int D), some (.int x), some (.tup figs), some (.int W), some (.tup [.str "told", .tup [.int q, .int c2]]), some (.tup [.str "told", .tup [.int c, .int c2]]), some (.int b), some (.int f), some (.int m), some (.str r.s), some (.int s)] g2 = .nx [some (.ref j), some (.int number), some (.int D), some (.int q), some (.tup figs), some (.int (W / D)), some (.tup [.str "told", .tup [.int q, .int c2]]), some (.tup [.str "told", .tup [.int c, .int c2]]), some (.int b), some (.int f), some (.int m), some (.str r.s), some (.int s)] g2 := by
    simp [rb3, ixt0, ixt1, x_div, d0, sD, fd]
  have k4 : rb4 [some (.ref j), some (.int number), some (.int D), some (.int q), some (.tup figs), some (.int (W / D)), some (.tup [.str "told", .tup [.int q, .int c2]]), some (.tup [.str "told", .tup [.int c, .int c2]]), some (.int b), some (.int f), some (.int m), some (.str r.s), some (.int s)] g2 = .nx [some (.ref j), some (.int number), some (.int D), some (.int q), some (.tup figs), some (.int (W / D)), some (.tup [.str "told", .tup [.int q, .int c2]]), some (.tup [.str "told", .tup [.int c, .int c2]]), some (.int b), some (.int f), some (.int m), some (.str r.s), some (.int s')] g2 := by
    rw [← hs3]
    by_cases z : 0 < b <;> simp [rb4, z]
  have k5 : rb5 [some (.ref j), some (.int number), some (.int D), some (.int q), some (.tup figs), some (.int (W / D)), some (.tup [.str "told", .tup [.int q, .int c2]]), some (.tup [.str "told", .tup [.int c, .int c2]]), some (.int b), some (.int f), some (.int m), some (.str r.s), some (.int s')] g2 = .nx [some (.ref j), some (.int number), some (.int D), some (.int q), some (.tup figs), some (.int (W / D)), some (.tup [.str "told", .tup [.int q, .int c2]]), some (.tup [.str "told", .tup [.int c, .int c2]]), some (.int b), some (.int f), some (.int m), some (.str r.s), some (.int s')] g2 := by
    simp [rb5, ixt0, ixt1, isi_tup]
  have k6 : rb6 [some (.ref j), some (.int number), some (.int D), some (.int q), some (.tup figs), some (.int (W / D)), some (.tup [.str "told", .tup [.int q, .int c2]]), some (.tup [.str "told", .tup [.int c, .int c2]]), some (.int b), some (.int f), some (.int m), some (.str r.s), some (.int s')] g2 = .nx [some (.ref j), some (.int number), some (.int D), some (.int q), some (.tup figs), some (.int (W / D)), some (.tup [.str "told", .tup [.int q, .int c2]]), some (.tup [.str "told", .tup [.int c, .int c2]]), some (.int b), some (.int f), some (.int c), some (.str r.s), some (.int s')] g2 := by
    simp [rb6, ixt0, ixt1]
  have k7 : rb7 [some (.ref j), some (.int number), some (.int D), some (.int q), some (.tup figs), some (.int (W / D)), some (.tup [.str "told", .tup [.int q, .int c2]]), some (.tup [.str "told", .tup [.int c, .int c2]]), some (.int b), some (.int f), some (.int c), some (.str r.s), some (.int s')] g2 = .nx [some (.ref j), some (.int number), some (.int D), some (.int q), some (.tup figs), some (.int (W / D)), some (.tup [.str "told", .tup [.int q, .int c2]]), some (.tup [.str "told", .tup [.int c, .int c2]]), some (.int b), some (.int f), some (.int c), some (.str r.s), some (.int s')] g2 := by
    rcases r3 with rfl | rfl
    · rw [Int.add_zero] at sw r1
      simp [rb7, x_mul, ss, sw, r1]
    · simp [rb7, x_mul, ss, sw, r1]
  unfold rbody
  rw [a_sSeq, k0, then_nx, a_sSeq, k1, then_nx, a_sSeq, k2, then_nx, a_sSeq, k3, then_nx, a_sSeq, k4, then_nx, a_sSeq, k5, then_nx, a_sSeq, k6, then_nx, k7]
theorem cut60 (xs : List FV) : cutG xs none (some 60) = xs.take (min 60 xs.length) := by
  unfold cutG
  rw [show HT.sIx xs.length xs.length (some 60) = min 60 xs.length from HT.sIx_nat xs.length xs.length 60, HT.sIx_none]
  simp
theorem row_right_ok {j n : Nat} {h : FH} (J : Jar j n h) (hn : n + 1000 < 10 ^ 12) : ∃ h', g__law_row_right [.ref j] h = .ok (.bl true) h' ∧ Jar j (n + 100) h' ∧ Bes j h h' := by
  obtain ⟨b, h1, e1, b2, b10, J1, B1⟩ := kg_base_ok J (by omega)
  obtain ⟨x, h2, e2, x60, J2, B2⟩ := kg_integer_ok J1 (by omega)
  obtain ⟨D, hD⟩ : ∃ D : Int, D = b.natAbs := ⟨_, rfl⟩
  have D2 : 2 ≤ D := by omega
  have D10 : D ≤ 10 := by omega
  have sD : sm D = true := sm_of (n := 10) (by omega) (by decide +kernel)
  obtain ⟨ex, e3⟩ := figures_ok (x := x) h2 D2 sD
  obtain ⟨t, ht⟩ : ∃ t : Int, (t = 1 ∧ b = D) ∨ (t = -1 ∧ b = -D) := by
    by_cases z : 0 < b
    · exact ⟨1, .inl ⟨rfl, by omega⟩⟩
    · exact ⟨-1, .inr ⟨rfl, by omega⟩⟩
  obtain ⟨s, hs, hx, hs2⟩ : ∃ s : Int, (s = 1 ∨ s = -1) ∧ x = s * (x.natAbs + 0) ∧ (if 0 ≤ x then (1 : Int) else -1) = s := by
    by_cases z : 0 ≤ x
    · exact ⟨1, .inl rfl, by omega, if_pos z⟩
    · exact ⟨-1, .inr rfl, by omega, if_neg z⟩
  obtain ⟨fg, hfg⟩ : ∃ fg : List Int, fg = digs D 400 x.natAbs ++ [0, 0, 0] := ⟨_, rfl⟩
  obtain ⟨figs, hfigs⟩ : ∃ figs : List FV, figs = fg.map FV.int := ⟨_, rfl⟩
  have fl : fg.length ≤ 403 := by rw [hfg, List.length_append]; have := digs_len D 400 x.natAbs; simp; omega
  obtain ⟨N, hN⟩ : ∃ N, N = min 60 figs.length := ⟨_, rfl⟩
  have x400 : (x.natAbs : Int) < 2 ^ 400 := Int.lt_of_le_of_lt x60 (by decide +kernel)
  have loop := sFor_loop (ei := cIt (cSl (cVar 4) cNoP (cPart (cC (.int 60))))) (s := .seq (figs.take N)) (t := .nm 9) (b := rbody) (σ := [some (.ref j), some (.int x), some (.int D), some (.int x), some (.tup figs), some (.int x.natAbs), none, none, some (.int b), none, some (.int 0), none, some (.int s)]) (h := h2 ++ ex) (h1 := h2 ++ ex)
    (fun i σ g => ∃ (a6 a7 a9 a11 : Option FV) (x' m s' : Int), σ = [some (.ref j), some (.int x), some (.int D), some (.int x'), some (.tup figs), some (.int (dvn D i x.natAbs)), a6, a7, some (.int b), a9, some (.int m), a11, some (.int s')] ∧ (s' = 1 ∨ s' = -1) ∧ (m = 0 ∨ m = 1) ∧ x' = s' * (dvn D i x.natAbs + m) ∧ Jar j (n + 8 + i) g ∧ Bes j h g) (fun _ _ => False) N
    (by
      have e : slF (.tup figs) none (some 60) (h2 ++ ex) = some (.tup (figs.take N), h2 ++ ex) := by
        show some (FV.tup (cutG figs none (some 60)), h2 ++ ex) = _
        rw [cut60, hN]
      have c1 : cPart (cC (.int 60)) [some (.ref j), some (.int x), some (.int D), some (.int x), some (.tup figs), some (.int x.natAbs), none, none, some (.int b), none, some (.int 0), none, some (.int s)] (h2 ++ ex) = .ok (some 60) (h2 ++ ex) := rfl
      rw [a_cIt]
      unfold cSl
      rw [show cVar 4 [some (.ref j), some (.int x), some (.int D), some (.int x), some (.tup figs), some (.int x.natAbs), none, none, some (.int b), none, some (.int 0), none, some (.int s)] (h2 ++ ex) = .ok (.tup figs) (h2 ++ ex) from rfl, r_bind_ok, show cNoP [some (.ref j), some (.int x), some (.int D), some (.int x), some (.tup figs), some (.int x.natAbs), none, none, some (.int b), none, some (.int 0), none, some (.int s)] (h2 ++ ex) = .ok none (h2 ++ ex) from rfl, r_bind_ok, c1, r_bind_ok, e]
      rfl)
    (by show (figs.take N).length = N; rw [List.length_take, hN]; omega)
    ⟨none, none, none, none, x, 0, s, rfl, hs, .inl rfl, hx, (J2.grw .app).mono (by omega), (B1.trans B2).trans .app⟩ ?_ ?_
  · obtain ⟨σ', h', e4, (⟨a6, a7, a9, a11, x', m, s', rfl, _, _, _, J3, B3⟩ | f)⟩ := loop
    · refine ⟨h', ?_, J3.mono (by omega), B3⟩
      refine cDef_rt (ev := e__law_row_right) ?_
      have p0 : (sAsgT (.tp [(.nm 8), (.nm 1)]) (cTup (cCons (cCall 1 g__law_kg_base (cCons (cVar 0) cNil)) (cCons (cCall 1 g__law_kg_integer (cCons (cVar 0) cNil)) cNil)))) [some (.ref j), none, none, none, none, none, none, none, none, none, none, none, none] h = .nx [some (.ref j), some (.int x), none, none, none, none, none, none, some (.int b), none, none, none, none] h2 := by
        simp [e1, e2]
      have p1 : (sAsgT (.tp [(.nm 2), (.nm 3), (.nm 12), (.nm 10)]) (cTup (cCons (cCB absF (cCons (cVar 8) cNil)) (cCons (cVar 1) (cCons (cIf (cTb (cBin geF (cVar 1) (cC (.int 0)))) (cC (.int 1)) (cNeg (cC (.int 1)))) (cCons (cC (.int 0)) cNil)))))) [some (.ref j), some (.int x), none, none, none, none, none, none, some (.int b), none, none, none, none] h2 = .nx [some (.ref j), some (.int x), some (.int D), some (.int x), none, none, none, none, some (.int b), none, some (.int 0), none, some (.int s)] h2 := by
        rw [← hs2, hD]
        by_cases z : 0 ≤ x <;> simp [z]
      have p2 : (sAsg 4 (cBin addF (cCall 2 g__law_kd_figures (cCons (cVar 1) (cCons (cVar 2) cNil))) (cTup (cCons (cC (.int 0)) (cCons (cC (.int 0)) (cCons (cC (.int 0)) cNil)))))) [some (.ref j), some (.int x), some (.int D), some (.int x), none, none, none, none, some (.int b), none, some (.int 0), none, some (.int s)] h2 = .nx [some (.ref j), some (.int x), some (.int D), some (.int x), some (.tup figs), none, none, none, some (.int b), none, some (.int 0), none, some (.int s)] (h2 ++ ex) := by
        have ad : addF (.tup ((digs D 400 x.natAbs).map FV.int)) (.tup [.int 0, .int 0, .int 0]) (h2 ++ ex) = some (.tup figs, h2 ++ ex) := by
          unfold addF
          simp only []
          rw [if_pos (by rw [List.length_map]; have := digs_len D 400 x.natAbs; exact Nat.le_trans (show _ ≤ 1000 by simp; omega) (by decide +kernel)), hfigs, hfg]
          simp
        simp [e3, ad]
      have p3 : (sAsg 5 (cCB absF (cCons (cVar 1) cNil))) [some (.ref j), some (.int x), some (.int D), some (.int x), some (.tup figs), none, none, none, some (.int b), none, some (.int 0), none, some (.int s)] (h2 ++ ex) = .nx [some (.ref j), some (.int x), some (.int D), some (.int x), some (.tup figs), some (.int x.natAbs), none, none, some (.int b), none, some (.int 0), none, some (.int s)] (h2 ++ ex) := by simp
      show (sSeq (sAsgT (.tp [(.nm 8), (.nm 1)]) _) (sSeq (sAsgT (.tp [(.nm 2), (.nm 3), (.nm 12), (.nm 10)]) _) (sSeq (sAsg 4 _) (sSeq (sAsg 5 _) (sSeq (sFor (cIt (cSl (cVar 4) cNoP (cPart (cC (.int 60))))) (.nm 9) rbody) (sRet (cC (.bl true)))))))) [some (.ref j), none, none, none, none, none, none, none, none, none, none, none, none] h = _
      rw [a_sSeq, p0, then_nx, a_sSeq, p1, then_nx, a_sSeq, p2, then_nx, a_sSeq, p3, then_nx, a_sSeq, e4, then_nx]
      rfl
    · exact f.elim
  · rintro σ g _
    show some (figs.take N)[N]? = some none
    rw [List.getElem?_eq_none (by rw [List.length_take]; omega)]
  · rintro i σ g hi ⟨a6, a7, a9, a11, x', m, s', rfl, q1, q2, q3, J3, B3⟩
    have w0 : 0 ≤ dvn D i x.natAbs := dvn_nonneg (by omega) i (by omega)
    have w1 : dvn D i x.natAbs ≤ T60 := Int.le_trans (dvn_le (by omega) i (by omega)) x60
    obtain ⟨c6, c7, c11, x2, m2, s2, g2, e, r1, r2, r3, J4, B4⟩ := rbody_ok (number := x) (figs := figs) (f := dvn D i x.natAbs % D) (a6 := a6) (a7 := a7) (a11 := a11) J3 (by omega) q1 ht D2 D10 w0 w1 q2 q3 rfl
    have il : i < fg.length := by
      have : figs.length = fg.length := by rw [hfigs, List.length_map]
      omega
    have at_ : (figs.take N)[i]? = some (.int (dvn D i x.natAbs % D)) := by
      rw [List.getElem?_take_of_lt hi, hfigs, List.getElem?_map, hfg, figs_at D2 (by omega) x400 (by rw [← hfg]; exact il)]
      rfl
    refine ⟨.int (dvn D i x.natAbs % D), _, _, g2, ?_, rfl, .inl ⟨e, c6, c7, _, c11, x2, m2, s2, by rw [dvn_succ], r1, r2, by rw [dvn_succ]; exact r3, J4.mono (by omega), B3.trans B4⟩⟩
    show some (figs.take N)[i]? = _
    rw [at_]
end LW_k15
set_option maxRecDepth 100000
set_option maxHeartbeats 4000000
namespace LW_k15
open PySem PySem.Spec PyProof.Rows L2 FX
def farb : EvS := (sSeq (sAsgT (.tp [(.nm 6), (.nm 7)]) (cCall 3 g__law_divided (cCons (cVar 2) (cCons (cVar 3) (cCons (cVar 1) cNil)))))
    (sSeq (sIf (cOrT (cTb (cBin neF (cVar 6) (cC (.str "told")))) (cNotT (cTru (cCB isiF (cCons (cVar 7) (cCons (cC (.ty "tuple")) cNil)))))) (sRet (cC (.bl false))) sSkip)
    (sAsg 3 (cBin ixF (cVar 7) (cC (.int 0))))))
theorem far_right_ok {j n : Nat} {h : FH} (J : Jar j n h) (hn : n + 1000 < 10 ^ 12) : ∃ h', g__law_far_right [.ref j] h = .ok (.bl true) h' ∧ Jar j (n + 100) h' ∧ Bes j h h' := by
  obtain ⟨b, h1, e1, b2, b10, J1, B1⟩ := kg_base_ok J (by omega)
  obtain ⟨y, h2, e2, my, J2, B2⟩ := one_new J1 (by omega) (rus.map fun r => FV.str r.s) (by decide) (by decide)
  obtain ⟨r, rfl⟩ : ∃ r : Ru, y = .str r.s := by
    obtain ⟨r, _, e⟩ := List.mem_map.mp my
    exact ⟨r, e.symm⟩
  obtain ⟨x, h3, e3, x60, J3, B3⟩ := kg_integer_ok J2 (by omega)
  obtain ⟨D, hD⟩ : ∃ D : Int, D = b.natAbs := ⟨_, rfl⟩
  have D2 : 2 ≤ D := by omega
  have D10 : D ≤ 10 := by omega
  have sD : sm D = true := sm_of (n := 10) (by omega) (by decide +kernel)
  have b0 : b ≠ 0 := by omega
  have t60 : T60 ≤ 10 ^ 60 := T60_lit
  have p60 : (10 : Int) ^ 60 + 1 ≤ (10 : Nat) ^ 100 := by decide +kernel
  have bl : b.natAbs ≤ 10 ^ 100 := Nat.le_trans b10 (by decide +kernel)
  obtain ⟨ex, e4⟩ := figures_ok (x := x) h3 D2 sD
  obtain ⟨t, ht⟩ : ∃ t : Int, (t = 1 ∧ b = D) ∨ (t = -1 ∧ b = -D) := by
    by_cases z : 0 < b
    · exact ⟨1, .inl ⟨rfl, by omega⟩⟩
    · exact ⟨-1, .inr ⟨rfl, by omega⟩⟩
  obtain ⟨s, hs, hx⟩ : ∃ s : Int, (s = 1 ∨ s = -1) ∧ x = s * (x.natAbs + 0) := by
    by_cases z : 0 ≤ x
    · exact ⟨1, .inl rfl, by omega⟩
    · exact ⟨-1, .inr rfl, by omega⟩
  obtain ⟨L, hL⟩ : ∃ L, L = (digs D 400 x.natAbs).length := ⟨_, rfl⟩
  have Ll : L ≤ 400 := by rw [hL]; exact digs_len D 400 _
  have x400 : (x.natAbs : Int) < 2 ^ 400 := Int.lt_of_le_of_lt x60 (by decide +kernel)
  have loop := sFor_loop (ei := cRng1 (cCons (cVar 4) cNil)) (s := .rng 0 L) (t := .nm 5) (b := farb) (σ := [some (.ref j), some (.int b), some (.str r.s), some (.int x), some (.int L), none, none, none]) (h := h3 ++ ex) (h1 := h3 ++ ex)
    (fun i σ g => ∃ (a5 a6 a7 : Option FV) (x' m s' : Int), σ = [some (.ref j), some (.int b), some (.str r.s), some (.int x'), some (.int L), a5, a6, a7] ∧ (s' = 1 ∨ s' = -1) ∧ (m = 0 ∨ m = 1) ∧ x' = s' * (dvn D i x.natAbs + m) ∧ Jar j (n + 9) g ∧ Bes j h g) (fun _ _ => False) L
    (cRng1_nat (n := L) (by simp) (by omega)) rfl
    ⟨none, none, none, x, 0, s, rfl, hs, .inl rfl, hx, (J3.grw .app).mono (by omega), ((B1.trans B2).trans B3).trans .app⟩ (fun _ _ _ => rng_none) ?_
  · obtain ⟨σ', h', e5, (⟨a5, a6, a7, x', m, s', rfl, q1, q2, q3, J4, B4⟩ | f)⟩ := loop
    · refine ⟨h', ?_, J4.mono (by omega), B4⟩
      rw [hL, digs_end D2 400 _ (by omega) x400] at q3
      refine cDef_rt (ev := e__law_far_right) ?_
      have p0 : (sPar 1 2 (cCons (cCall 1 g__law_kg_base (cCons (cVar 0) cNil)) (cCons (cCall 2 g__law_one (cCons (cVar 0) (cCons (cCall 0 g__law_kd_rules cNil) cNil))) cNil))) [some (.ref j), none, none, none, none, none, none, none] h = .nx [some (.ref j), some (.int b), some (.str r.s), none, none, none, none, none] h2 := by
        simp [e1, s_rules, g_one, e2]
      have p1 : (sAsg 3 (cCall 1 g__law_kg_integer (cCons (cVar 0) cNil))) [some (.ref j), some (.int b), some (.str r.s), none, none, none, none, none] h2 = .nx [some (.ref j), some (.int b), some (.str r.s), some (.int x), none, none, none, none] h3 := by simp [e3]
      have p2 : (sAsg 4 (cCB lenF (cCons (cCall 2 g__law_kd_figures (cCons (cVar 3) (cCons (cCB absF (cCons (cVar 1) cNil)) cNil))) cNil))) [some (.ref j), some (.int b), some (.str r.s), some (.int x), none, none, none, none] h3 = .nx [some (.ref j), some (.int b), some (.str r.s), some (.int x), some (.int L), none, none, none] (h3 ++ ex) := by
        rw [hL]
        rw [hD] at e4
        simp [e4, hD]
      have p3 : (sRet (cBin inF (cVar 3) (cTup (cCons (cNeg (cC (.int 1))) (cCons (cC (.int 0)) (cCons (cC (.int 1)) cNil)))))) [some (.ref j), some (.int b), some (.str r.s), some (.int x'), some (.int L), a5, a6, a7] h' = .rt (.bl true) h' := by
        rcases q1 with rfl | rfl <;> rcases q2 with rfl | rfl <;> simp [q3]
      show (sSeq (sPar 1 2 _) (sSeq (sAsg 3 _) (sSeq (sAsg 4 _) (sSeq (sFor (cRng1 (cCons (cVar 4) cNil)) (.nm 5) farb) (sRet _))))) [some (.ref j), none, none, none, none, none, none, none] h = _
      rw [a_sSeq, p0, then_nx, a_sSeq, p1, then_nx, a_sSeq, p2, then_nx, a_sSeq, e5, then_nx, p3]
    · exact f.elim
  · rintro i σ g hi ⟨a5, a6, a7, x', m, s', rfl, q1, q2, q3, J4, B4⟩
    have w0 : 0 ≤ dvn D i x.natAbs := dvn_nonneg (by omega) i (by omega)
    have w1 : dvn D i x.natAbs ≤ T60 := Int.le_trans (dvn_le (by omega) i (by omega)) x60
    have rs := row_step r q1 ht D2 w0 q2 q3
    have xl : x'.natAbs ≤ 10 ^ 100 := by
      have : (x'.natAbs : Int) ≤ 10 ^ 60 + 1 := by rcases q1 with rfl | rfl <;> omega
      omega
    have di := s_law_divided r g (lm_le xl (Nat.pow_le_pow_right (by decide) (by decide))) (lm_le bl (Nat.pow_le_pow_right (by decide) (by decide))) b0
    obtain ⟨r1, r2, r3⟩ := rs
    refine ⟨.int (0 + i), _, [some (.ref j), some (.int b), some (.str r.s), some (.int (dvd r x' b).1), some (.int L), some (.int (0 + i)), some (.str "told"), some (.tup [.int (dvd r x' b).1, .int (dvd r x' b).2])], g ++ [FO.opq], rng_some hi, rfl, .inl ⟨?_, _, _, _, _, _, s' * t, rfl, ?_, r3, by rw [dvn_succ]; exact r1, J4.grw .app, B4.trans .app⟩⟩
    · have i0 : ∀ (a b : Int) (h : FH), ixF (.tup [.int a, .int b]) (.int 0) h = some (.int a, h) := fun _ _ _ => ix_tup rfl
      simp [farb, di, ne_told, isi_tup, i0]
    · rcases q1 with rfl | rfl <;> rcases ht with ⟨rfl, _⟩ | ⟨rfl, _⟩ <;> simp
end LW_k15
set_option maxRecDepth 100000
set_option maxHeartbeats 4000000
namespace LW_k15
open PySem PySem.Spec PyProof.Rows L2 FX
def la0 : EvS := (sAsg 3 (cCall 2 g__law_one (cCons (cVar 1) (cCons (cLst (cCons (cCall 1 g__law_kg_base (cCons (cVar 1) cNil)) (cCons (cCall 1 g__law_kg_base (cCons (cVar 1) cNil)) (cCons (cC (.int 1)) (cCons (cNeg (cC (.int 1))) (cCons (cBin addF (cBin powF (cC (.int 10)) (cC (.int 20))) (cC (.int 39))) (cCons (cNeg (cBin powF (cC (.int 10)) (cC (.int 11)))) (cCons (cC (.int 12)) (cCons (cNeg (cC (.int 17))) cNil))))))))) cNil))))
def la1 : EvS := (sIf (cNotT (cTru (cCall 2 g__law_hang_right (cCons (cCall 1 g__law_kg_integer (cCons (cVar 1) cNil)) (cCons (cVar 3) cNil))))) (sRet (cC (.bl false))) sSkip)
def lb : EvS := (sIf (cOrT (cNotT (cTru (cCall 1 g__law_row_right (cCons (cVar 1) cNil)))) (cNotT (cTru (cCall 1 g__law_far_right (cCons (cVar 1) cNil))))) (sRet (cC (.bl false))) sSkip)
def lc : EvS := (sIf (cNotT (cTru (cCall 2 g__law_hang_right (cCons (cVar 4) (cCons (cVar 3) cNil))))) (sRet (cC (.bl false))) sSkip)
def lsrc : EvI := (cIt (cTup (cCons (cC (.int 1)) (cCons (cC (.int 2)) (cCons (cC (.int 3)) (cCons (cC (.int 4)) (cCons (cC (.int 5)) (cCons (cC (.int 6)) (cCons (cNeg (cC (.int 1))) (cCons (cNeg (cC (.int 2))) (cCons (cNeg (cC (.int 3))) (cCons (cNeg (cC (.int 4))) (cCons (cNeg (cC (.int 5))) (cCons (cNeg (cC (.int 6))) cNil))))))))))))))
theorem pow11 {h : FH} : powF (.int 10) (.int 11) h = some (.int 100000000000, h) := pow_int (by decide) (by decide) (by decide)
theorem la_ok {n : Nat} {g : FH} {a b c : Option FV} (J : Jar 1 n g) (hn : n + 1000 < 10 ^ 12) : ∃ (b' : Option FV) (g' : FH), (sSeq la0 la1) [some (.ref 0), some (.ref 1), a, b, c] g = .nx [some (.ref 0), some (.ref 1), a, b', c] g' ∧ Jar 1 (n + 100) g' := by
  obtain ⟨d1, h1, e1, p1, q1, J1, B1⟩ := kg_base_ok J (by omega)
  obtain ⟨d2, h2, e2, p2, q2, J2, B2⟩ := kg_base_ok J1 (by omega)
  obtain ⟨y, h3, e3, my, J3, B3⟩ := one_new J2 (by omega) [.int d1, .int d2, .int 1, .int (-1), .int (T20 + 39), .int (-100000000000), .int 12, .int (-17)] (by simp) (by simp)
  have t0 := T20_pos
  have t1 : T20 + 39 ≤ 10 ^ 21 := by decide +kernel
  have p21 : (10 : Int) ^ 21 ≤ (10 : Nat) ^ 100 := by decide +kernel
  obtain ⟨d, rfl, d0, dl⟩ : ∃ d : Int, y = .int d ∧ d ≠ 0 ∧ (d.natAbs : Int) ≤ 10 ^ 21 := by
    simp only [List.mem_cons, List.not_mem_nil, or_false] at my
    rcases my with rfl | rfl | rfl | rfl | rfl | rfl | rfl | rfl <;> exact ⟨_, rfl, by omega, by omega⟩
  obtain ⟨x, h4, e4, x60, J4, B4⟩ := kg_integer_ok J3 (by omega)
  have t60 : T60 ≤ 10 ^ 60 := T60_lit
  have p60 : (10 : Int) ^ 60 ≤ (10 : Nat) ^ 100 := by decide +kernel
  obtain ⟨ex, e5⟩ := s_hang (x := x) (d := d) h4 (by omega) (by omega) d0
  refine ⟨some (.int d), h4 ++ ex, ?_, (J4.grw .app).mono (by omega)⟩
  have k0 : la0 [some (.ref 0), some (.ref 1), a, b, c] g = .nx [some (.ref 0), some (.ref 1), a, some (.int d), c] h3 := by
    simp [la0, g_one, e1, e2, pow20, pow11, e3]
  have k1 : la1 [some (.ref 0), some (.ref 1), a, some (.int d), c] h3 = .nx [some (.ref 0), some (.ref 1), a, some (.int d), c] (h4 ++ ex) := by
    simp [la1, e4, e5]
  rw [a_sSeq, k0, then_nx, k1]
theorem lb_ok {n : Nat} {g : FH} {a b c : Option FV} (J : Jar 1 n g) (hn : n + 2000 < 10 ^ 12) : ∃ (g' : FH), lb [some (.ref 0), some (.ref 1), a, b, c] g = .nx [some (.ref 0), some (.ref 1), a, b, c] g' ∧ Jar 1 (n + 200) g' := by
  obtain ⟨h1, e1, J1, B1⟩ := row_right_ok J (by omega)
  obtain ⟨h2, e2, J2, B2⟩ := far_right_ok J1 (by omega)
  refine ⟨h2, ?_, J2⟩
  simp [lb, e1, e2]
theorem lc_ok {g : FH} {a : Option FV} {x d : Int} (hx : x.natAbs ≤ 100) (hd : d.natAbs ≤ 100) (d0 : d ≠ 0) : ∃ (g' : FH), lc [some (.ref 0), some (.ref 1), a, some (.int d), some (.int x)] g = .nx [some (.ref 0), some (.ref 1), a, some (.int d), some (.int x)] g' := by
  obtain ⟨ex, e5⟩ := s_hang (x := x) (d := d) g (Nat.le_trans hx (by decide +kernel)) (Nat.le_trans hd (by decide +kernel)) d0
  exact ⟨g ++ ex, by simp [lc, e5]⟩
def ds : List Int := [1, 2, 3, 4, 5, 6, -1, -2, -3, -4, -5, -6]
theorem inner_ok {g : FH} {a b : Option FV} {x : Int} (hx : x.natAbs ≤ 100) : ∃ (b' : Option FV) (g' : FH), sFor lsrc (.nm 3) lc [some (.ref 0), some (.ref 1), a, b, some (.int x)] g = .nx [some (.ref 0), some (.ref 1), a, b', some (.int x)] g' := by
  have loop := sFor_loop (ei := lsrc) (s := .seq (ds.map FV.int)) (t := .nm 3) (b := lc) (σ := [some (.ref 0), some (.ref 1), a, b, some (.int x)]) (h := g) (h1 := g)
    (fun i σ h => ∃ (b' : Option FV), σ = [some (.ref 0), some (.ref 1), a, b', some (.int x)]) (fun _ _ => False) 12 (by simp [lsrc, ds]) rfl ⟨b, rfl⟩ (fun _ _ _ => rfl) ?_
  · obtain ⟨σ', h', e, (⟨b', rfl⟩ | f)⟩ := loop
    · exact ⟨b', h', e⟩
    · exact f.elim
  · rintro i σ h hi ⟨b', rfl⟩
    have hd : ∀ i : Fin 12, ∃ d : Int, ds[(i : Nat)]? = some d ∧ d.natAbs ≤ 100 ∧ d ≠ 0 := by decide
    obtain ⟨d, at_, dl, d0⟩ := hd ⟨i, hi⟩
    obtain ⟨g', e⟩ := lc_ok (g := h) (a := a) hx dl d0
    refine ⟨.int d, _, _, g', ?_, rfl, .inl ⟨e, _, rfl⟩⟩
    show some (ds.map FV.int)[i]? = _
    rw [List.getElem?_map, at_]
    rfl
theorem loop1_ok {h0 : FH} (J0 : Jar 1 0 h0) : ∃ (a b c : Option FV) (h1 : FH), sFor (cRng1 (cCons (cC (.int 25)) cNil)) (.nm 2) (sSeq la0 la1) [some (.ref 0), some (.ref 1), none, none, none] h0 = .nx [some (.ref 0), some (.ref 1), a, b, c] h1 ∧ Jar 1 2500 h1 := by
  have loop1 := sFor_loop (ei := cRng1 (cCons (cC (.int 25)) cNil)) (s := .rng 0 25) (t := .nm 2) (b := sSeq la0 la1) (σ := [some (.ref 0), some (.ref 1), none, none, none]) (h := h0) (h1 := h0)
    (fun i σ g => ∃ (a b c : Option FV), σ = [some (.ref 0), some (.ref 1), a, b, c] ∧ Jar 1 (i * 100) g) (fun _ _ => False) 25 (cRng1_nat (n := 25) rfl (by decide)) rfl ⟨none, none, none, rfl, J0.mono (by omega)⟩ (fun _ _ _ => rng_none) (by
      rintro i σ g hi ⟨a, b, c, rfl, J⟩
      obtain ⟨b', g', e, J'⟩ := la_ok (a := some (.int (0 + i))) (b := b) (c := c) J (by omega)
      exact ⟨_, _, _, g', rng_some hi, rfl, .inl ⟨e, _, _, _, rfl, J'.mono (by omega)⟩⟩)
  obtain ⟨σ1, h1, e1, (⟨a1, b1, c1, rfl, J1⟩ | f)⟩ := loop1
  · exact ⟨a1, b1, c1, h1, e1, J1.mono (by omega)⟩
  · exact f.elim
theorem loop2_ok {h1 : FH} {a1 b1 c1 : Option FV} (J1 : Jar 1 2500 h1) : ∃ (a b c : Option FV) (h2 : FH), sFor (cRng1 (cCons (cC (.int 6)) cNil)) (.nm 2) lb [some (.ref 0), some (.ref 1), a1, b1, c1] h1 = .nx [some (.ref 0), some (.ref 1), a, b, c] h2 := by
  have loop2 := sFor_loop (ei := cRng1 (cCons (cC (.int 6)) cNil)) (s := .rng 0 6) (t := .nm 2) (b := lb) (σ := [some (.ref 0), some (.ref 1), a1, b1, c1]) (h := h1) (h1 := h1)
      (fun i σ g => ∃ (a b c : Option FV), σ = [some (.ref 0), some (.ref 1), a, b, c] ∧ Jar 1 (2500 + i * 200) g) (fun _ _ => False) 6 (cRng1_nat (n := 6) rfl (by decide)) rfl ⟨a1, b1, c1, rfl, J1.mono (by omega)⟩ (fun _ _ _ => rng_none) (by
        rintro i σ g hi ⟨a, b, c, rfl, J⟩
        obtain ⟨g', e, J'⟩ := lb_ok (a := some (.int (0 + i))) (b := b) (c := c) J (by omega)
        exact ⟨_, _, _, g', rng_some hi, rfl, .inl ⟨e, _, _, _, rfl, J'.mono (by omega)⟩⟩)
  obtain ⟨σ2, h2, e2, (⟨a2, b2, c2, rfl, J2⟩ | f)⟩ := loop2
  · exact ⟨a2, b2, c2, h2, e2⟩
  · exact f.elim
theorem loop3_ok {h2 : FH} {a2 b2 c2 : Option FV} : ∃ (a b c : Option FV) (h3 : FH), sFor (cRng2 (cCons (cNeg (cC (.int 12))) (cCons (cC (.int 13)) cNil))) (.nm 4) (sFor lsrc (.nm 3) lc) [some (.ref 0), some (.ref 1), a2, b2, c2] h2 = .nx [some (.ref 0), some (.ref 1), a, b, c] h3 := by
  have src : cRng2 (cCons (cNeg (cC (.int 12))) (cCons (cC (.int 13)) cNil)) [some (.ref 0), some (.ref 1), a2, b2, c2] h2 = .ok (.rng (-12) 25) h2 := (cRng2_int (i := -12) (j := 13) rfl (by decide) (by decide) (by decide) (by decide)).trans rfl
  have loop3 := sFor_loop (ei := cRng2 (cCons (cNeg (cC (.int 12))) (cCons (cC (.int 13)) cNil))) (s := .rng (-12) 25) (t := .nm 4) (b := sFor lsrc (.nm 3) lc) (σ := [some (.ref 0), some (.ref 1), a2, b2, c2]) (h := h2) (h1 := h2)
        (fun i σ g => ∃ (a b c : Option FV), σ = [some (.ref 0), some (.ref 1), a, b, c]) (fun _ _ => False) 25 src rfl ⟨a2, b2, c2, rfl⟩ (fun _ _ _ => rng_none) (by
          rintro i σ g hi ⟨a, b, c, rfl⟩
          obtain ⟨b', g', e⟩ := inner_ok (g := g) (a := a) (b := b) (x := -12 + i) (by omega)
          exact ⟨_, _, _, g', rng_some hi, rfl, .inl ⟨e, _, _, _, rfl⟩⟩)
  obtain ⟨σ3, h3, e3, (⟨a3, b3, c3, rfl⟩ | f)⟩ := loop3
  · exact ⟨a3, b3, c3, h3, e3⟩
  · exact f.elim
theorem pure_law : ∀ ns : List Int, ns.length ≤ 63 → (∀ i ∈ ns, Builtin.Int.intBits i ≤ 1048576) → ∃ h', g_law [.ref 0] [.ro (ns.map FV.int)] = .ok (.bl true) h' := by
  intro ns hl _
  obtain ⟨h0, e0, J0, l0⟩ := jPool_ok hl
  obtain ⟨a1, b1, c1, h1, e1, J1⟩ := loop1_ok J0
  obtain ⟨a2, b2, c2, h2, e2⟩ := loop2_ok (a1 := a1) (b1 := b1) (c1 := c1) J1
  obtain ⟨a3, b3, c3, h3, e3⟩ := loop3_ok (h2 := h2) (a2 := a2) (b2 := b2) (c2 := c2)
  refine ⟨h3, cDef_rt (ev := e_law) ?_⟩
  have p : ∀ G : Fn, G [.ref 0] [.ro (ns.map FV.int)] = .ok (.ref 1) h0 → (sAsg 1 (cCall 1 G (cCons (cVar 0) cNil))) [some (.ref 0), none, none, none, none] [.ro (ns.map FV.int)] = .nx [some (.ref 0), some (.ref 1), none, none, none] h0 := fun G e => by simp [e]
  have p0 := p g__law_pool (by rw [g_pool]; exact e0)
  have el : e_law = (sSeq (sAsg 1 (cCall 1 g__law_pool (cCons (cVar 0) cNil))) (sSeq (sFor (cRng1 (cCons (cC (.int 25)) cNil)) (.nm 2) (sSeq la0 la1)) (sSeq (sFor (cRng1 (cCons (cC (.int 6)) cNil)) (.nm 2) lb) (sSeq (sFor (cRng2 (cCons (cNeg (cC (.int 12))) (cCons (cC (.int 13)) cNil))) (.nm 4) (sFor lsrc (.nm 3) lc)) (sRet (cC (.bl true))))))) := rfl
  show e_law [some (.ref 0), none, none, none, none] [.ro (ns.map FV.int)] = _
  rw [el, a_sSeq, p0, then_nx, a_sSeq, e1, then_nx, a_sSeq, e2, then_nx, a_sSeq, e3, then_nx]
  rfl
end LW_k15
set_option maxRecDepth 100000
set_option maxHeartbeats 0
namespace LW_k15
open PySem PySem.Spec PyProof.Rows L2 FX
end LW_k15
open PySem PySem.W PySem.Calls PyProof.Rows
theorem PySem.Challenge.cw_stillwords_k15_rules_beside_one_another_holds : PySem.Challenge.rw_stillwords_k15_rules_beside_one_another.Holds := by
  w_on; o_law
  refine HandSHeadRun.head_any (r := OpenLaw.row PySem.Challenge.rw_stillwords_k15_rules_beside_one_another) (q := view (OpenLaw.row PySem.Challenge.rw_stillwords_k15_rules_beside_one_another).prog [50]) (H := LW_k15.hk) (ob := LW_k15.ob) (M := 20000) (loose := LW_k15.loose) (d := HandSHeadRun.topDef (OpenLaw.row PySem.Challenge.rw_stillwords_k15_rules_beside_one_another).prog 50) (kwd := []) LW_k15.ob_eq
    (by kernel_rfl) (fun s => by kernel_rfl) LW_k15.run (by kernel_rfl) (by kernel_rfl) (by kernel_rfl) (by rfl) (by first | assumption | decide +kernel) (by decide +kernel) ⟨rfl, rfl, rfl, rfl, rfl, by decide +kernel⟩ ?wit ?law
  case wit => w_witness2
  case law =>
    letI := LW_k15.lamT
    refine FX.walk_end (l := PySem.Challenge.rw_stillwords_k15_rules_beside_one_another) (n := 63) (k := 9) (x := "script") rfl (by decide) (by kernel_rfl) ⟨rfl, by decide, by decide⟩ ?_
    intro w mg fa0 h Y G named
    obtain ⟨K, inK, c⟩ := Y
    have e : (HandSHeadRun.topDef (OpenLaw.row PySem.Challenge.rw_stillwords_k15_rules_beside_one_another).prog 50).name = ("law" : PySem.Str) := by kernel_rfl
    rw [e] at named
    exact ⟨K, inK, LW_k15.facts inK G named c LW_k15.pure_law⟩
