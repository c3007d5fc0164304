import PyProof.Rows.All
import Wide.All
import OpenK.AllK
import Wide.FinOn
import HandS.ForMost
import HandS.IsInst
import HandS.Walk
import HandS.Wide
import HandS.TupAny
import HandS.Exc
import HandS.TryOnly
import HandS.ExcInit
import HandS.WordsExc
import HandS.AnyAll
import HandS.Comp
import KE.GoesEnum
import HandS.GenList
import HandS.EndOwn
import KE.KDictIter
import HandS.TupMul
import HandS.EndTab
import PySem.Challenge.RW_lazytags_k01_answers_of_machines
set_option Elab.async false
set_option autoImplicit false
set_option linter.all false
set_option maxHeartbeats 4000000
set_option maxRecDepth 100000
/-! The mirror layer: plain data D, a store of mutable objects, computations over it, and their tie to the readings of HandS. -/
namespace MM
open PySem L2

/-! ### data -/
inductive D where
  | non | bl (b : Bool) | int (i : Int) | str (s : Str)
  | tup (xs : List D) | lst (xs : List D)
  /-- a list that is read alone (the script) -/
  | frz (xs : List D)
  | ref (n : Nat)
/-- a mutable object -/
inductive O where
  | lst (xs : List D)
abbrev Store := List O
/-- an error: its class's name, its field -/
structure Er where
  cls : Str
  arg : Option D
inductive Res (α : Type) where
  | ok (a : α) (S : Store)
  | exc (e : Er) (S : Store)
  | bad
def Res.bind {α β : Type} (r : Res α) (k : α → Store → Res β) : Res β :=
  match r with
  | .ok a S => k a S
  | .exc e S => .exc e S
  | .bad => .bad
@[simp] theorem Res.bind_ok {α β : Type} (a : α) (S : Store) (k : α → Store → Res β) : (Res.ok a S).bind k = k a S := rfl
@[simp] theorem Res.bind_exc {α β : Type} (e : Er) (S : Store) (k : α → Store → Res β) : (Res.exc e S : Res α).bind k = .exc e S := rfl
@[simp] theorem Res.bind_bad {α β : Type} (k : α → Store → Res β) : (Res.bad : Res α).bind k = .bad := rfl
abbrev Rho := List (Option D)
/-- an expression's mirror; a test's; a list of arguments' -/
abbrev ME0 := Rho → Store → Res D
abbrev MT0 := Rho → Store → Res Bool
abbrev MA0 := Rho → Store → Res (List D)
inductive Fl where
  | nx | rt (d : D) | bk | ct
abbrev MS0 := Rho → Store → Res (Fl × Rho)

/-! ### the tie to the abstract heap -/
structure Gd where
  K : PySem.W.Frag
  mg : Str → Option Value
  /-- the tables of code objects that may grow -/
  tabs : List Addr
/-- a list that is read alone: frozen, or the module's -/
def Fz (K : PySem.W.Frag) (R φ : List Addr) (H : Hp) (a : Addr) (vs : List V) : Prop :=
  (a ∉ φ ∧ a ∉ R ∧ Rd H a (.lst vs)) ∨ ∃ (o : Obj) (its : Array Value) (n : Nat), K.lookup a = some o ∧ o.cls = .type "list" ∧ o.dict = none ∧ o.data = .seq its n ∧ its.size ≤ sizeLine ∧ Vals vs its.toList
theorem Fz.sq {K : PySem.W.Frag} {R φ : List Addr} {H : Hp} {a : Addr} {vs : List V} (h : Fz K R φ H a vs) : SqL K H a vs := by
  rcases h with ⟨_, _, h⟩ | h
  · exact .inl h
  · exact .inr h
mutual
/-- φ: the addresses of the store's objects; R: addresses that are kept apart -/
def Rv (G : Gd) (R φ : List Addr) (H : Hp) : D → V → Prop
  | .non, v => v = .non
  | .bl b, v => v = .bl b
  | .int i, v => v = .int i
  | .str s, v => v = .str s
  | .tup ds, v => ∃ a vs, v = .ref a ∧ SqT G.K H a vs ∧ RvL G R φ H ds vs
  | .lst ds, v => ∃ a vs, v = .ref a ∧ a ∉ φ ∧ a ∉ R ∧ H a = some (.lst vs) ∧ RvL G R φ H ds vs
  | .frz ds, v => ∃ a vs, v = .ref a ∧ Fz G.K R φ H a vs ∧ RvL G R φ H ds vs
  | .ref n, v => ∃ a, v = .ref a ∧ φ[n]? = some a
def RvL (G : Gd) (R φ : List Addr) (H : Hp) : List D → List V → Prop
  | [], vs => vs = []
  | d :: ds, vs => ∃ v r, vs = v :: r ∧ Rv G R φ H d v ∧ RvL G R φ H ds r
end
def Ro (G : Gd) (R φ : List Addr) (H : Hp) : O → Addr → Prop
  | .lst ds, a => ∃ vs, H a = some (.lst vs) ∧ RvL G R φ H ds vs
structure Rs (G : Gd) (R φ : List Addr) (S : Store) (H : Hp) : Prop where
  nd : φ.Nodup
  len : φ.length = S.length
  apart : ∀ a ∈ φ, a ∉ R
  obj : ∀ (i : Nat) o a, S[i]? = some o → φ[i]? = some a → Ro G R φ H o a
  res : ∀ a ∈ R, H a ≠ none
  tabs : ∀ p ∈ G.tabs, GxR.TabG H p
/-- what may change: the store's objects; new ones may come -/
structure Le (φ : List Addr) (H : Hp) (φ' : List Addr) (H' : Hp) : Prop where
  pre : ∃ r, φ' = φ ++ r
  keep : ∀ a o, H a = some o → a ∉ φ → (∀ ps, o ≠ .tbl ps) → H' a = some o ∧ a ∉ φ'
  tups : ∀ a vs, Rd H a (.tup vs) → Rd H' a (.tup vs)
  ne : ∀ a, H a ≠ none → H' a ≠ none
  tab : ∀ a, GxR.TabG H a → GxR.TabG H' a
theorem Le.refl {φ : List Addr} {H : Hp} : Le φ H φ H := ⟨⟨[], (List.append_nil _).symm⟩, fun _ _ h n _ => ⟨h, n⟩, fun _ _ h => h, fun _ h => h, fun _ h => h⟩
theorem Le.trans {φ φ1 φ2 : List Addr} {H H1 H2 : Hp} (a : Le φ H φ1 H1) (b : Le φ1 H1 φ2 H2) : Le φ H φ2 H2 := by
  obtain ⟨r1, e1⟩ := a.pre
  obtain ⟨r2, e2⟩ := b.pre
  refine ⟨⟨r1 ++ r2, by rw [e2, e1, List.append_assoc]⟩, fun c o h n q => ?_, fun c vs h => b.tups c vs (a.tups c vs h), fun c h => b.ne c (a.ne c h), fun c h => b.tab c (a.tab c h)⟩
  obtain ⟨h1, n1⟩ := a.keep c o h n q
  exact b.keep c o h1 n1 q
theorem SqT.le {G : Gd} {φ φ' : List Addr} {H H' : Hp} {a : Addr} {vs : List V} (l : Le φ H φ' H') (h : SqT G.K H a vs) : SqT G.K H' a vs := by
  rcases h with h | h
  · exact .inl (l.tups a vs h)
  · exact .inr h
theorem Fz.le {K : PySem.W.Frag} {R φ φ' : List Addr} {H H' : Hp} {a : Addr} {vs : List V} (l : Le φ H φ' H') (h : Fz K R φ H a vs) : Fz K R φ' H' a vs := by
  rcases h with ⟨n1, n2, h | ⟨o, h⟩⟩ | h
  · obtain ⟨k1, k2⟩ := l.keep a _ h n1 (fun _ z => nomatch z)
    exact .inl ⟨k2, n2, .inl k1⟩
  · obtain ⟨k1, k2⟩ := l.keep a _ h n1 (fun _ z => nomatch z)
    exact .inl ⟨k2, n2, .inr ⟨o, k1⟩⟩
  · exact .inr h
mutual
theorem Rv.le {G : Gd} {R φ φ' : List Addr} {H H' : Hp} (l : Le φ H φ' H') : ∀ {d : D} {v : V}, Rv G R φ H d v → Rv G R φ' H' d v
  | .non, v, h => by unfold Rv at h ⊢; exact h
  | .bl b, v, h => by unfold Rv at h ⊢; exact h
  | .int i, v, h => by unfold Rv at h ⊢; exact h
  | .str s, v, h => by unfold Rv at h ⊢; exact h
  | .tup ds, v, h => by
    unfold Rv at h ⊢
    obtain ⟨a, vs, e, h1, h2⟩ := h
    exact ⟨a, vs, e, SqT.le l h1, RvL.le l h2⟩
  | .lst ds, v, h => by
    unfold Rv at h ⊢
    obtain ⟨a, vs, e, n1, n2, h1, h2⟩ := h
    obtain ⟨k1, k2⟩ := l.keep a _ h1 n1 (fun _ z => nomatch z)
    exact ⟨a, vs, e, k2, n2, k1, RvL.le l h2⟩
  | .frz ds, v, h => by
    unfold Rv at h ⊢
    obtain ⟨a, vs, e, h1, h2⟩ := h
    exact ⟨a, vs, e, Fz.le l h1, RvL.le l h2⟩
  | .ref n, v, h => by
    unfold Rv at h ⊢
    obtain ⟨a, e, h1⟩ := h
    obtain ⟨r, er⟩ := l.pre
    refine ⟨a, e, ?_⟩
    rw [er]
    obtain ⟨hl, _⟩ := List.getElem?_eq_some_iff.mp h1
    rw [List.getElem?_append_left hl]
    exact h1
theorem RvL.le {G : Gd} {R φ φ' : List Addr} {H H' : Hp} (l : Le φ H φ' H') : ∀ {ds : List D} {vs : List V}, RvL G R φ H ds vs → RvL G R φ' H' ds vs
  | [], vs, h => by unfold RvL at h ⊢; exact h
  | d :: ds, vs, h => by
    unfold RvL at h ⊢
    obtain ⟨v, r, e, h1, h2⟩ := h
    exact ⟨v, r, e, Rv.le l h1, RvL.le l h2⟩
end
section
variable {G : Gd} {R φ φ' : List Addr} {S S' : Store} {H H' : Hp}
theorem RvL.length : ∀ {ds : List D} {vs : List V}, RvL G R φ H ds vs → ds.length = vs.length
  | [], vs, h => by unfold RvL at h; subst h; rfl
  | d :: ds, vs, h => by
    unfold RvL at h
    obtain ⟨v, r, e, _, h2⟩ := h
    subst e
    rw [List.length_cons, List.length_cons, RvL.length h2]
theorem RvL.get : ∀ {ds : List D} {vs : List V} {i : Nat} {d : D}, RvL G R φ H ds vs → ds[i]? = some d → ∃ v, vs[i]? = some v ∧ Rv G R φ H d v
  | [], vs, i, d, h, e => by simp at e
  | x :: ds, vs, 0, d, h, e => by
    unfold RvL at h
    obtain ⟨v, r, rfl, h1, _⟩ := h
    have e' : x = d := by simpa using e
    subst e'
    exact ⟨v, rfl, h1⟩
  | x :: ds, vs, i + 1, d, h, e => by
    unfold RvL at h
    obtain ⟨v, r, rfl, _, h2⟩ := h
    obtain ⟨u, e1, e2⟩ := RvL.get (i := i) h2 (by simpa using e)
    exact ⟨u, by simpa using e1, e2⟩
theorem RvL.getV : ∀ {ds : List D} {vs : List V} {i : Nat} {v : V}, RvL G R φ H ds vs → vs[i]? = some v → ∃ d, ds[i]? = some d ∧ Rv G R φ H d v := fun {ds vs i v} h e => by
  obtain ⟨hl, _⟩ := List.getElem?_eq_some_iff.mp e
  have hd : i < ds.length := by rw [RvL.length h]; exact hl
  obtain ⟨u, e1, e2⟩ := RvL.get h (List.getElem?_eq_getElem hd)
  rw [e] at e1
  cases e1
  exact ⟨_, List.getElem?_eq_getElem hd, e2⟩
theorem RvL.nil : RvL G R φ H [] [] := by unfold RvL; rfl
theorem RvL.cons {d : D} {ds : List D} {v : V} {vs : List V} (h : Rv G R φ H d v) (t : RvL G R φ H ds vs) : RvL G R φ H (d :: ds) (v :: vs) := by
  unfold RvL
  exact ⟨v, vs, rfl, h, t⟩
theorem RvL.append : ∀ {ds es : List D} {vs us : List V}, RvL G R φ H ds vs → RvL G R φ H es us → RvL G R φ H (ds ++ es) (vs ++ us)
  | [], es, vs, us, h, t => by unfold RvL at h; subst h; exact t
  | d :: ds, es, vs, us, h, t => by
    unfold RvL at h
    obtain ⟨v, r, rfl, h1, h2⟩ := h
    exact RvL.cons h1 (RvL.append h2 t)
theorem RvL.set : ∀ {ds : List D} {vs : List V} {i : Nat} {d : D} {v : V}, RvL G R φ H ds vs → Rv G R φ H d v → RvL G R φ H (ds.set i d) (vs.set i v)
  | [], vs, i, d, v, h, r => by unfold RvL at h; subst h; exact RvL.nil
  | x :: ds, vs, 0, d, v, h, r => by
    unfold RvL at h
    obtain ⟨u, t, rfl, h1, h2⟩ := h
    exact RvL.cons r h2
  | x :: ds, vs, i + 1, d, v, h, r => by
    unfold RvL at h
    obtain ⟨u, t, rfl, h1, h2⟩ := h
    exact RvL.cons h1 (RvL.set h2 r)
theorem RvL.drop : ∀ {ds : List D} {vs : List V} (n : Nat), RvL G R φ H ds vs → RvL G R φ H (ds.drop n) (vs.drop n)
  | _, _, 0, h => h
  | [], vs, n + 1, h => by unfold RvL at h; subst h; exact RvL.nil
  | x :: ds, vs, n + 1, h => by
    unfold RvL at h
    obtain ⟨u, t, rfl, h1, h2⟩ := h
    exact RvL.drop n h2
theorem RvL.take : ∀ {ds : List D} {vs : List V} (n : Nat), RvL G R φ H ds vs → RvL G R φ H (ds.take n) (vs.take n)
  | _, _, 0, h => RvL.nil
  | [], vs, n + 1, h => by unfold RvL at h; subst h; exact RvL.nil
  | x :: ds, vs, n + 1, h => by
    unfold RvL at h
    obtain ⟨u, t, rfl, h1, h2⟩ := h
    exact RvL.cons h1 (RvL.take n h2)
theorem RvL.reverse : ∀ {ds : List D} {vs : List V}, RvL G R φ H ds vs → RvL G R φ H ds.reverse vs.reverse
  | [], vs, h => by unfold RvL at h; subst h; exact RvL.nil
  | x :: ds, vs, h => by
    unfold RvL at h
    obtain ⟨u, t, rfl, h1, h2⟩ := h
    rw [List.reverse_cons, List.reverse_cons]
    exact RvL.append (RvL.reverse h2) (RvL.cons h1 RvL.nil)
/-- the environment -/
structure Rn (G : Gd) (R φ : List Addr) (H : Hp) (ρ : Rho) (σ : L2.St) : Prop where
  len : ρ.length = σ.length
  get : ∀ (i : Nat) (d : D), ρ[i]? = some (some d) → ∃ v, σ[i]? = some (some v) ∧ Rv G R φ H d v
theorem Rn.le (l : Le φ H φ' H') {ρ : Rho} {σ : L2.St} (r : Rn G R φ H ρ σ) : Rn G R φ' H' ρ σ := ⟨r.len, fun i d e => by
  obtain ⟨v, e1, e2⟩ := r.get i d e
  exact ⟨v, e1, Rv.le l e2⟩⟩
theorem Rn.set {ρ : Rho} {σ : L2.St} (r : Rn G R φ H ρ σ) {i : Nat} {d : D} {v : V} (h : Rv G R φ H d v) : Rn G R φ H (ρ.set i (some d)) (σ.set i (some v)) := by
  refine ⟨by rw [List.length_set, List.length_set]; exact r.len, fun j e q => ?_⟩
  by_cases hj : i = j
  · subst hj
    by_cases hl : i < ρ.length
    · rw [List.getElem?_set_self hl] at q
      cases q
      exact ⟨v, List.getElem?_set_self (by rw [← r.len]; exact hl), h⟩
    · rw [List.getElem?_eq_none (by rw [List.length_set]; omega)] at q
      cases q
  · rw [List.getElem?_set_ne hj] at q ⊢
    exact r.get j e q
theorem Rn.set_none {ρ : Rho} {σ : L2.St} (r : Rn G R φ H ρ σ) {i : Nat} {o : Option V} : Rn G R φ H (ρ.set i none) (σ.set i o) := by
  refine ⟨by rw [List.length_set, List.length_set]; exact r.len, fun j e q => ?_⟩
  by_cases hj : i = j
  · subst hj
    by_cases hl : i < ρ.length
    · rw [List.getElem?_set_self hl] at q
      cases q
    · rw [List.getElem?_eq_none (by rw [List.length_set]; omega)] at q
      cases q
  · rw [List.getElem?_set_ne hj] at q ⊢
    exact r.get j e q
end
section
variable {G : Gd} {R R' φ φ' : List Addr} {S S' : Store} {H H' : Hp}
mutual
/-- other addresses kept apart: those that were free -/
theorem Rv.reR (hR : ∀ a ∈ R', a ∈ R ∨ H a = none) : ∀ {d : D} {v : V}, Rv G R φ H d v → Rv G R' φ H d v
  | .non, v, h => by unfold Rv at h ⊢; exact h
  | .bl b, v, h => by unfold Rv at h ⊢; exact h
  | .int i, v, h => by unfold Rv at h ⊢; exact h
  | .str s, v, h => by unfold Rv at h ⊢; exact h
  | .tup ds, v, h => by
    unfold Rv at h ⊢
    obtain ⟨a, vs, e, h1, h2⟩ := h
    exact ⟨a, vs, e, h1, RvL.reR hR h2⟩
  | .lst ds, v, h => by
    unfold Rv at h ⊢
    obtain ⟨a, vs, e, n1, n2, h1, h2⟩ := h
    refine ⟨a, vs, e, n1, fun z => ?_, h1, RvL.reR hR h2⟩
    rcases hR a z with q | q
    · exact n2 q
    · rw [h1] at q
      cases q
  | .frz ds, v, h => by
    unfold Rv at h ⊢
    obtain ⟨a, vs, e, h1, h2⟩ := h
    refine ⟨a, vs, e, ?_, RvL.reR hR h2⟩
    rcases h1 with ⟨n1, n2, h1⟩ | h1
    · refine .inl ⟨n1, fun z => ?_, h1⟩
      rcases hR a z with q | q
      · exact n2 q
      · rcases h1 with h1 | ⟨o, h1⟩
        · rw [h1] at q
          cases q
        · rw [h1] at q
          cases q
    · exact .inr h1
  | .ref n, v, h => by unfold Rv at h ⊢; exact h
theorem RvL.reR (hR : ∀ a ∈ R', a ∈ R ∨ H a = none) : ∀ {ds : List D} {vs : List V}, RvL G R φ H ds vs → RvL G R' φ H ds vs
  | [], vs, h => by unfold RvL at h ⊢; exact h
  | d :: ds, vs, h => by
    unfold RvL at h ⊢
    obtain ⟨v, r, e, h1, h2⟩ := h
    exact ⟨v, r, e, Rv.reR hR h1, RvL.reR hR h2⟩
end
mutual
/-- an address kept apart becomes the store's -/
theorem Rv.own {p : Addr} : ∀ {d : D} {v : V}, Rv G (p :: R) φ H d v → Rv G R (φ ++ [p]) H d v
  | .non, v, h => by unfold Rv at h ⊢; exact h
  | .bl b, v, h => by unfold Rv at h ⊢; exact h
  | .int i, v, h => by unfold Rv at h ⊢; exact h
  | .str s, v, h => by unfold Rv at h ⊢; exact h
  | .tup ds, v, h => by
    unfold Rv at h ⊢
    obtain ⟨a, vs, e, h1, h2⟩ := h
    exact ⟨a, vs, e, h1, RvL.own h2⟩
  | .lst ds, v, h => by
    unfold Rv at h ⊢
    obtain ⟨a, vs, e, n1, n2, h1, h2⟩ := h
    refine ⟨a, vs, e, fun z => ?_, fun z => n2 (List.mem_cons_of_mem _ z), h1, RvL.own h2⟩
    rcases List.mem_append.mp z with q | q
    · exact n1 q
    · exact n2 (by rw [List.mem_singleton.mp q]; exact List.mem_cons_self)
  | .frz ds, v, h => by
    unfold Rv at h ⊢
    obtain ⟨a, vs, e, h1, h2⟩ := h
    refine ⟨a, vs, e, ?_, RvL.own h2⟩
    rcases h1 with ⟨n1, n2, h1⟩ | h1
    · refine .inl ⟨fun z => ?_, fun z => n2 (List.mem_cons_of_mem _ z), h1⟩
      rcases List.mem_append.mp z with q | q
      · exact n1 q
      · exact n2 (by rw [List.mem_singleton.mp q]; exact List.mem_cons_self)
    · exact .inr h1
  | .ref n, v, h => by
    unfold Rv at h ⊢
    obtain ⟨a, e, h1⟩ := h
    refine ⟨a, e, ?_⟩
    rw [List.getElem?_append_left (List.getElem?_eq_some_iff.mp h1).1]
    exact h1
theorem RvL.own {p : Addr} : ∀ {ds : List D} {vs : List V}, RvL G (p :: R) φ H ds vs → RvL G R (φ ++ [p]) H ds vs
  | [], vs, h => by unfold RvL at h ⊢; exact h
  | d :: ds, vs, h => by
    unfold RvL at h ⊢
    obtain ⟨v, r, e, h1, h2⟩ := h
    exact ⟨v, r, e, Rv.own h1, RvL.own h2⟩
end
mutual
/-- a list kept apart is written -/
theorem Rv.upR {p : Addr} {us : List V} (h1 : ∀ b u, H b = some u → b ≠ p → H' b = some u) (h2 : H p = some (.lst us)) (h3 : p ∈ R) : ∀ {d : D} {v : V}, Rv G R φ H d v → Rv G R φ H' d v
  | .non, v, h => by unfold Rv at h ⊢; exact h
  | .bl b, v, h => by unfold Rv at h ⊢; exact h
  | .int i, v, h => by unfold Rv at h ⊢; exact h
  | .str s, v, h => by unfold Rv at h ⊢; exact h
  | .tup ds, v, h => by
    unfold Rv at h ⊢
    obtain ⟨a, vs, e, q1, q2⟩ := h
    refine ⟨a, vs, e, ?_, RvL.upR h1 h2 h3 q2⟩
    rcases q1 with (q1 | ⟨o, q1⟩) | q1
    · exact .inl (.inl (h1 a _ q1 (ne_of q1 h2 (fun z => nomatch z))))
    · exact .inl (.inr ⟨o, h1 a _ q1 (ne_of q1 h2 (fun z => nomatch z))⟩)
    · exact .inr q1
  | .lst ds, v, h => by
    unfold Rv at h ⊢
    obtain ⟨a, vs, e, n1, n2, q1, q2⟩ := h
    exact ⟨a, vs, e, n1, n2, h1 a _ q1 (fun z => n2 (by rw [z]; exact h3)), RvL.upR h1 h2 h3 q2⟩
  | .frz ds, v, h => by
    unfold Rv at h ⊢
    obtain ⟨a, vs, e, q1, q2⟩ := h
    refine ⟨a, vs, e, ?_, RvL.upR h1 h2 h3 q2⟩
    rcases q1 with ⟨n1, n2, q1 | ⟨o, q1⟩⟩ | q1
    · exact .inl ⟨n1, n2, .inl (h1 a _ q1 (fun z => n2 (by rw [z]; exact h3)))⟩
    · exact .inl ⟨n1, n2, .inr ⟨o, h1 a _ q1 (fun z => n2 (by rw [z]; exact h3))⟩⟩
    · exact .inr q1
  | .ref n, v, h => by unfold Rv at h ⊢; exact h
theorem RvL.upR {p : Addr} {us : List V} (h1 : ∀ b u, H b = some u → b ≠ p → H' b = some u) (h2 : H p = some (.lst us)) (h3 : p ∈ R) : ∀ {ds : List D} {vs : List V}, RvL G R φ H ds vs → RvL G R φ H' ds vs
  | [], vs, h => by unfold RvL at h ⊢; exact h
  | d :: ds, vs, h => by
    unfold RvL at h ⊢
    obtain ⟨v, r, e, q1, q2⟩ := h
    exact ⟨v, r, e, Rv.upR h1 h2 h3 q1, RvL.upR h1 h2 h3 q2⟩
end
theorem Rn.reR (hR : ∀ a ∈ R', a ∈ R ∨ H a = none) {ρ : Rho} {σ : L2.St} (r : Rn G R φ H ρ σ) : Rn G R' φ H ρ σ := ⟨r.len, fun i d e => by
  obtain ⟨v, e1, e2⟩ := r.get i d e
  exact ⟨v, e1, Rv.reR hR e2⟩⟩
theorem Ro.reR (hR : ∀ a ∈ R', a ∈ R ∨ H a = none) {o : O} {a : Addr} (h : Ro G R φ H o a) : Ro G R' φ H o a := by
  cases o with
  | lst ds =>
    obtain ⟨vs, e, r⟩ := h
    exact ⟨vs, e, RvL.reR hR r⟩
theorem Ro.own {p : Addr} {o : O} {a : Addr} (h : Ro G (p :: R) φ H o a) : Ro G R (φ ++ [p]) H o a := by
  cases o with
  | lst ds =>
    obtain ⟨vs, e, r⟩ := h
    exact ⟨vs, e, RvL.own r⟩
end
section
variable {G : Gd} {R φ φ' : List Addr} {S S' : Store} {H H' : Hp}
/-- a new object that the store does not know -/
theorem Le.new (r : Rs G R φ S H) {p : Addr} {o : HO} (h : H p = none) : Le φ H φ (upd H p o) := by
  refine ⟨⟨[], (List.append_nil _).symm⟩, fun a u e n _ => ⟨by rw [upd_ne (ne_of_none e h)]; exact e, n⟩, fun a vs e => ?_, fun a e => ?_, fun a ⟨ps, e, t⟩ => ⟨ps, by rw [upd_ne (ne_of_none e h)]; exact e, t⟩⟩
  · rcases e with e | ⟨ob, e⟩
    · exact .inl (by rw [upd_ne (ne_of_none e h)]; exact e)
    · exact .inr ⟨ob, by rw [upd_ne (ne_of_none e h)]; exact e⟩
  · by_cases hp : a = p
    · subst hp
      rw [upd_same]
      exact fun z => nomatch z
    · rw [upd_ne hp]
      exact e
theorem Rs.at (r : Rs G R φ S H) {a : Addr} (h : a ∈ φ) : ∃ (i : Nat) (o : O), φ[i]? = some a ∧ S[i]? = some o ∧ Ro G R φ H o a := by
  obtain ⟨i, hi⟩ := List.mem_iff_getElem?.mp h
  have hl : i < S.length := by
    rw [← r.len]
    exact (List.getElem?_eq_some_iff.mp hi).1
  exact ⟨i, _, hi, List.getElem?_eq_getElem hl, r.obj i _ a (List.getElem?_eq_getElem hl) hi⟩
theorem Ro.there {o : O} {a : Addr} (h : Ro G R φ H o a) : ∃ u, H a = some u := by
  cases o with
  | lst ds =>
    obtain ⟨vs, e, _⟩ := h
    exact ⟨_, e⟩
theorem Rs.fresh (r : Rs G R φ S H) {p : Addr} (h : H p = none) : p ∉ φ ∧ p ∉ R := by
  refine ⟨fun z => ?_, fun z => r.res p z h⟩
  obtain ⟨i, o, _, _, ro⟩ := r.at z
  obtain ⟨u, e⟩ := Ro.there ro
  rw [h] at e
  cases e
theorem Ro.le (l : Le φ H φ' H') {o : O} {a : Addr} (h : Ro G R φ H o a) (k : H' a = H a) : Ro G R φ' H' o a := by
  cases o with
  | lst ds =>
    obtain ⟨vs, e, r⟩ := h
    exact ⟨vs, k.trans e, RvL.le l r⟩
theorem Rs.reserve (r : Rs G R φ S H) {p : Addr} {o : HO} (h : H p = none) : Rs G (p :: R) φ S (upd H p o) := by
  have l := Le.new r (o := o) h
  have fr := r.fresh h
  refine ⟨r.nd, r.len, fun a ha z => ?_, fun i u a e1 e2 => ?_, fun a ha => ?_, fun a ha => l.tab a (r.tabs a ha)⟩
  · rcases List.mem_cons.mp z with z | z
    · exact fr.1 (z ▸ ha)
    · exact r.apart a ha z
  · have ro := Ro.reR (R' := p :: R) (fun b hb => (List.mem_cons.mp hb).elim (fun z => .inr (by rw [z]; exact h)) .inl) (r.obj i u a e1 e2)
    refine Ro.le l ro (upd_ne ?_)
    rintro rfl
    exact fr.1 (List.mem_iff_getElem?.mpr ⟨i, e2⟩)
  · rcases List.mem_cons.mp ha with z | z
    · rw [z, upd_same]
      exact fun q => nomatch q
    · exact l.ne a (r.res a z)
theorem Rs.release {p : Addr} (r : Rs G (p :: R) φ S H) : Rs G R φ S H := by
  have hR : ∀ a ∈ R, a ∈ p :: R ∨ H a = none := fun a ha => .inl (List.mem_cons_of_mem _ ha)
  exact ⟨r.nd, r.len, fun a ha z => r.apart a ha (List.mem_cons_of_mem _ z), fun i u a e1 e2 => Ro.reR hR (r.obj i u a e1 e2), fun a ha => r.res a (List.mem_cons_of_mem _ ha), r.tabs⟩
/-- what was kept apart becomes the store's -/
theorem Rs.own {p : Addr} {o : O} (r : Rs G (p :: R) φ S H) (hp : p ∉ R) (ro : Ro G R (φ ++ [p]) H o p) : Rs G R (φ ++ [p]) (S ++ [o]) H := by
  have np : p ∉ φ := fun z => r.apart p z List.mem_cons_self
  refine ⟨?_, by rw [List.length_append, List.length_append, r.len]; rfl, fun a ha => ?_, fun i u a e1 e2 => ?_, fun a ha => r.res a (List.mem_cons_of_mem _ ha), r.tabs⟩
  · rw [List.nodup_append]
    exact ⟨r.nd, by simp, fun a ha b hb e => np (by have := List.mem_singleton.mp hb; rw [← this, ← e]; exact ha)⟩
  · rcases List.mem_append.mp ha with z | z
    · exact fun q => r.apart a z (List.mem_cons_of_mem _ q)
    · rw [List.mem_singleton.mp z]
      exact hp
  · by_cases hi : i < φ.length
    · rw [List.getElem?_append_left hi] at e2
      rw [List.getElem?_append_left (by rw [← r.len]; exact hi)] at e1
      exact Ro.own (r.obj i u a e1 e2)
    · rw [List.getElem?_append_right (by omega)] at e2
      rw [List.getElem?_append_right (by rw [← r.len]; omega), ← r.len] at e1
      have e0 : i - φ.length = 0 := by
        have := (List.getElem?_eq_some_iff.mp e2).1
        simp at this
        omega
      rw [e0] at e1 e2
      cases e1
      cases e2
      exact ro
theorem Rs.new (r : Rs G R φ S H) {p : Addr} {o : HO} (h : H p = none) : Rs G R φ S (upd H p o) := by
  have l := Le.new r (o := o) h
  refine ⟨r.nd, r.len, r.apart, fun i u a e1 e2 => ?_, fun a ha => l.ne a (r.res a ha), fun a ha => l.tab a (r.tabs a ha)⟩
  refine Ro.le l (r.obj i u a e1 e2) (upd_ne ?_)
  rintro rfl
  exact (r.fresh h).1 (List.mem_iff_getElem?.mpr ⟨i, e2⟩)
/-- a new store object -/
theorem Le.alloc (r : Rs G R φ S H) {p : Addr} {o : HO} (h : H p = none) : Le φ H (φ ++ [p]) (upd H p o) := by
  have l := Le.new r (o := o) h
  refine ⟨⟨[p], rfl⟩, fun a u e n q => ⟨(l.keep a u e n q).1, fun z => ?_⟩, l.tups, l.ne, l.tab⟩
  rcases List.mem_append.mp z with z | z
  · exact n z
  · exact ne_of_none e h (List.mem_singleton.mp z)
theorem Rs.alloc (r : Rs G R φ S H) {p : Addr} {ho : HO} {o : O} (h : H p = none) (ro : Ro G R (φ ++ [p]) (upd H p ho) o p) : Rs G R (φ ++ [p]) (S ++ [o]) (upd H p ho) := by
  have l := Le.alloc r (o := ho) h
  have fr := r.fresh h
  refine ⟨?_, by rw [List.length_append, List.length_append, r.len]; rfl, fun a ha => ?_, fun i u a e1 e2 => ?_, fun a ha => l.ne a (r.res a ha), fun a ha => l.tab a (r.tabs a ha)⟩
  · rw [List.nodup_append]
    exact ⟨r.nd, by simp, fun a ha b hb e => fr.1 (by have := List.mem_singleton.mp hb; rw [← this, ← e]; exact ha)⟩
  · rcases List.mem_append.mp ha with z | z
    · exact r.apart a z
    · rw [List.mem_singleton.mp z]
      exact fr.2
  · by_cases hi : i < φ.length
    · rw [List.getElem?_append_left hi] at e2
      rw [List.getElem?_append_left (by rw [← r.len]; exact hi)] at e1
      refine Ro.le l (r.obj i u a e1 e2) (upd_ne ?_)
      rintro rfl
      exact fr.1 (List.mem_iff_getElem?.mpr ⟨i, e2⟩)
    · rw [List.getElem?_append_right (by omega)] at e2
      rw [List.getElem?_append_right (by rw [← r.len]; omega), ← r.len] at e1
      have e0 : i - φ.length = 0 := by
        have := (List.getElem?_eq_some_iff.mp e2).1
        simp at this
        omega
      rw [e0] at e1 e2
      cases e1
      cases e2
      exact ro
/-- a store object is written -/
theorem Le.write (r : Rs G R φ S H) {n : Nat} {a : Addr} {o : HO} (h : φ[n]? = some a) : Le φ H φ (upd H a o) := by
  have ha : a ∈ φ := List.mem_iff_getElem?.mpr ⟨n, h⟩
  refine ⟨⟨[], (List.append_nil _).symm⟩, fun b u e nb _ => ⟨?_, nb⟩, fun b vs e => ?_, fun b e => ?_, fun b ⟨ps, e, t⟩ => ⟨ps, ?_, t⟩⟩
  · rw [upd_ne (show b ≠ a from fun z => nb (by rw [z]; exact ha))]
    exact e
  · have nb : b ≠ a := by
      rintro rfl
      obtain ⟨i, ob, _, _, ro⟩ := r.at ha
      cases ob with
      | lst ds =>
        obtain ⟨ws, e1, _⟩ := ro
        rcases e with e | ⟨_, e⟩ <;> rw [e1] at e <;> cases e
    rcases e with e | ⟨ob, e⟩
    · exact .inl (by rw [upd_ne nb]; exact e)
    · exact .inr ⟨ob, by rw [upd_ne nb]; exact e⟩
  · by_cases hp : b = a
    · subst hp
      rw [upd_same]
      exact fun z => nomatch z
    · rw [upd_ne hp]
      exact e
  · have nb : b ≠ a := by
      rintro rfl
      obtain ⟨i, ob, _, _, ro⟩ := r.at ha
      cases ob with
      | lst ds =>
        obtain ⟨ws, e1, _⟩ := ro
        rw [e1] at e
        cases e
    rw [upd_ne nb]
    exact e
theorem Rs.write (r : Rs G R φ S H) {n : Nat} {a : Addr} {ho : HO} {o : O} (h : φ[n]? = some a) (ro : Ro G R φ (upd H a ho) o a) : Rs G R φ (S.set n o) (upd H a ho) := by
  have l := Le.write r (o := ho) h
  refine ⟨r.nd, by rw [List.length_set]; exact r.len, r.apart, fun i u b e1 e2 => ?_, fun b hb => l.ne b (r.res b hb), fun b hb => l.tab b (r.tabs b hb)⟩
  by_cases hi : n = i
  · subst hi
    rw [h] at e2
    cases e2
    rw [List.getElem?_set_self (by rw [← r.len]; exact (List.getElem?_eq_some_iff.mp h).1)] at e1
    cases e1
    exact ro
  · rw [List.getElem?_set_ne hi] at e1
    refine Ro.le l (r.obj i u b e1 e2) (upd_ne ?_)
    rintro rfl
    exact hi ((List.getElem?_inj (List.getElem?_eq_some_iff.mp h).1 r.nd).mp (h.trans e2.symm))
end

/-! ### a run: what a computation in continuation form answers, by its mirror -/
/-- the class at C and the name of it, the error's own dict -/
def Xq (G : Gd) (R φ : List Addr) (H : Hp) (e : Er) (c : Value) (d : Option Addr) : Prop :=
  G.mg e.cls = some c ∧ (match e.arg with
    | none => d = none
    | some x => ∃ p f v, d = some p ∧ p ∉ φ ∧ H p = some (.xd [(f, v)]) ∧ Rv G R φ H x v)
def Run {α β : Type} (G : Gd) (E : XK) (R φ : List Addr) (H : Hp) (rel : List Addr → Hp → β → α → Prop) (r : Res β) (c : (α → Hp → Prop) → Prop) : Prop :=
  ∀ Q : α → Hp → Prop, (∀ b S' φ' v H', r = .ok b S' → Le φ H φ' H' → Rs G R φ' S' H' → rel φ' H' b v → Q v H') →
    (∀ e S' φ' H' cl d, r = .exc e S' → Le φ H φ' H' → Rs G R φ' S' H' → Xq G R φ' H' e cl d → E cl d H') → r ≠ .bad → c Q
section
variable {α β γ δ : Type} {G : Gd} {E : XK} {R φ φ' : List Addr} {S S' : Store} {H H' : Hp}
theorem Run.bind {rel : List Addr → Hp → β → α → Prop} {rel' : List Addr → Hp → δ → γ → Prop} {r : Res β} {k : β → Store → Res δ} {c : (α → Hp → Prop) → Prop} {c' : α → Hp → (γ → Hp → Prop) → Prop}
    (h : Run G E R φ H rel r c) (hk : ∀ b S' φ' v H', r = .ok b S' → Le φ H φ' H' → Rs G R φ' S' H' → rel φ' H' b v → Run G E R φ' H' rel' (k b S') (c' v H')) :
    Run G E R φ H rel' (r.bind k) (fun Q => c fun v H' => c' v H' Q) := by
  intro Q hq he hb
  refine h _ (fun b S' φ' v H' e l rs rl => ?_) (fun e S' φ' H' cl d er l rs x => he e S' φ' H' cl d (by rw [er]; rfl) l rs x) (fun z => hb (by rw [z]; rfl))
  subst e
  refine hk b S' φ' v H' rfl l rs rl Q (fun b2 S2 φ2 v2 H2 e2 l2 rs2 rl2 => hq b2 S2 φ2 v2 H2 e2 (l.trans l2) rs2 rl2) (fun e S2 φ2 H2 cl d er l2 rs2 x => he e S2 φ2 H2 cl d er (l.trans l2) rs2 x) hb
/-- the same, towards a computation that comes to it -/
theorem Run.bnd {rel : List Addr → Hp → β → α → Prop} {rel' : List Addr → Hp → δ → γ → Prop} {r : Res β} {k : β → Store → Res δ} {c : (α → Hp → Prop) → Prop} {c' : α → Hp → (γ → Hp → Prop) → Prop} {c0 : (γ → Hp → Prop) → Prop}
    (h : Run G E R φ H rel r c) (hk : ∀ b S' φ' v H', r = .ok b S' → Le φ H φ' H' → Rs G R φ' S' H' → rel φ' H' b v → Run G E R φ' H' rel' (k b S') (c' v H'))
    (hc : ∀ Q, c (fun v H' => c' v H' Q) → c0 Q := by exact fun _ q => q) : Run G E R φ H rel' (r.bind k) c0 := fun Q hq he hb => hc Q (Run.bind h hk Q hq he hb)
theorem Run.ret {rel : List Addr → Hp → β → α → Prop} {b : β} {v : α} {c : (α → Hp → Prop) → Prop} (rs : Rs G R φ S H) (h : rel φ H b v) (hc : ∀ Q : α → Hp → Prop, Q v H → c Q) : Run G E R φ H rel (.ok b S) c :=
  fun Q hq _ _ => hc Q (hq b S φ v H rfl Le.refl rs h)
theorem Run.bad {rel : List Addr → Hp → β → α → Prop} {c : (α → Hp → Prop) → Prop} : Run G E R φ H rel (.bad : Res β) c := fun _ _ _ h => (h rfl).elim
/-- a new object behind it -/
theorem Run.new {rel : List Addr → Hp → β → V → Prop} {b : β} {o : HO} {c : VK → Prop} (rs : Rs G R φ S H) (h : ∀ p, H p = none → rel φ (upd H p o) b (.ref p)) (hc : ∀ Q : VK, (∀ p, H p = none → Q (.ref p) (upd H p o)) → c Q) : Run G E R φ H rel (.ok b S) c :=
  fun Q hq _ _ => hc Q fun p hp => hq b S φ (.ref p) _ rfl (Le.new rs hp) (rs.new hp) (h p hp)
theorem Run.imp {rel rel' : List Addr → Hp → β → α → Prop} {r : Res β} {c : (α → Hp → Prop) → Prop} (h : Run G E R φ H rel r c) (hr : ∀ φ' H' b v, rel φ' H' b v → rel' φ' H' b v) : Run G E R φ H rel' r c :=
  fun Q hq he hb => h Q (fun b S' φ' v H' e l rs rl => hq b S' φ' v H' e l rs (hr _ _ _ _ rl)) he hb
theorem Run.conv {rel : List Addr → Hp → β → α → Prop} {r : Res β} {c c' : (α → Hp → Prop) → Prop} (h : Run G E R φ H rel r c) (hc : ∀ Q, c Q → c' Q) : Run G E R φ H rel r c' :=
  fun Q hq he hb => hc Q (h Q hq he hb)
end
abbrev RelV' (G : Gd) (R : List Addr) : List Addr → Hp → D → V → Prop := fun φ H d v => Rv G R φ H d v
abbrev RelB : List Addr → Hp → Bool → Bool → Prop := fun _ _ b c => b = c
abbrev RelL (G : Gd) (R : List Addr) : List Addr → Hp → List D → List V → Prop := fun φ H ds vs => RvL G R φ H ds vs
def SndE (G : Gd) (E : XK) (t : TE) (m : ME0) : Prop := ∀ σ H ρ φ R S, Rs G R φ S H → Rn G R φ H ρ σ → Run G E R φ H (RelV' G R) (m ρ S) (t σ H)
def SndT (G : Gd) (E : XK) (t : TT) (m : MT0) : Prop := ∀ σ H ρ φ R S, Rs G R φ S H → Rn G R φ H ρ σ → Run G E R φ H RelB (m ρ S) (t σ H)
def SndA (G : Gd) (E : XK) (t : TA) (m : MA0) : Prop := ∀ σ H ρ φ R S, Rs G R φ S H → Rn G R φ H ρ σ → Run G E R φ H (RelL G R) (m ρ S) (t σ H)
abbrev _root_.L2.Cx.gd (X : Cx) (T : List Addr) : Gd := ⟨X.K, X.mg, T⟩
def ME (T : List Addr) (X : Cx) (E : XK) (e : Expr) (m : ME0) : Prop := ∃ t, PE X e t ∧ SndE (X.gd T) E t m
def MT (T : List Addr) (X : Cx) (E : XK) (e : Expr) (m : MT0) : Prop := ∃ t, PT X e t ∧ SndT (X.gd T) E t m
def MW (T : List Addr) (X : Cx) (E : XK) (e : Expr) (m : MT0) : Prop := ∃ t, PW X e t ∧ SndT (X.gd T) E t m
def MA (T : List Addr) (X : Cx) (E : XK) (es : List Expr) (m : MA0) : Prop := ∃ t, PA X es t ∧ SndA (X.gd T) E t m
/-- what a statement ends in -/
inductive Out where
  | nx (σ : L2.St) | rt (v : V) | bk (σ : L2.St) | ct (σ : L2.St)
def endsOf (Q : Out → Hp → Prop) : Ends := ⟨fun σ H => Q (.nx σ) H, fun v H => Q (.rt v) H, fun σ H => Q (.bk σ) H, fun σ H => Q (.ct σ) H⟩
def outTo (D : Ends) : Out → Hp → Prop
  | .nx σ, H => D.nx σ H
  | .rt v, H => D.rt v H
  | .bk σ, H => D.bk σ H
  | .ct σ, H => D.ct σ H
theorem endsOf_outTo (D : Ends) : endsOf (outTo D) = D := rfl
def RelO (G : Gd) (R : List Addr) : List Addr → Hp → (Fl × Rho) → Out → Prop := fun φ H x o => match x.1, o with
  | .nx, .nx σ => Rn G R φ H x.2 σ
  | .rt d, .rt v => Rv G R φ H d v
  | .bk, .bk σ => Rn G R φ H x.2 σ
  | .ct, .ct σ => Rn G R φ H x.2 σ
  | _, _ => False
def SndS (G : Gd) (E : XK) (t : TS) (m : MS0) : Prop := ∀ σ H ρ φ R S, Rs G R φ S H → Rn G R φ H ρ σ → Run G E R φ H (RelO G R) (m ρ S) (fun Q => t (endsOf Q) σ H)
def MS (T : List Addr) (X : Cx) (E : XK) (st : Stmt) (m : MS0) : Prop := ∃ t, PS X st t ∧ SndS (X.gd T) E t m
def MSs (T : List Addr) (X : Cx) (E : XK) (sts : List Stmt) (m : MS0) : Prop := ∃ t, PSs X sts t ∧ SndS (X.gd T) E t m
end MM

/-! The mirror layer's rules: expressions. -/
namespace MM
open PySem L2

/-! ### the mirrors of expressions -/
def mVar (i : Nat) : ME0 := fun ρ S => match ρ[i]? with
  | some (some d) => .ok d S
  | _ => .bad
def mC (d : D) : ME0 := fun _ S => .ok d S
def mOp (f : D → D → Store → Res D) (ma mb : ME0) : ME0 := fun ρ S => (ma ρ S).bind fun x S1 => (mb ρ S1).bind fun y S2 => f x y S2
def mUn (f : D → Store → Res D) (ma : ME0) : ME0 := fun ρ S => (ma ρ S).bind fun x S1 => f x S1
def mNil : MA0 := fun _ S => .ok [] S
def mCons (ma : ME0) (mr : MA0) : MA0 := fun ρ S => (ma ρ S).bind fun x S1 => (mr ρ S1).bind fun xs S2 => .ok (x :: xs) S2
def mAndV (ma mb : ME0) : ME0 := fun ρ S => (ma ρ S).bind fun x S1 => match x with
  | .bl true => mb ρ S1
  | .bl false => .ok (.bl false) S1
  | _ => .bad
def mOrV (ma mb : ME0) : ME0 := fun ρ S => (ma ρ S).bind fun x S1 => match x with
  | .bl true => .ok (.bl true) S1
  | .bl false => mb ρ S1
  | _ => .bad
def mNotV (ma : ME0) : ME0 := fun ρ S => (ma ρ S).bind fun x S1 => match x with
  | .bl b => .ok (.bl (!b)) S1
  | _ => .bad
/-- a test by its value, True or False -/
def mB (ma : ME0) : MT0 := fun ρ S => (ma ρ S).bind fun x S1 => match x with
  | .bl b => .ok b S1
  | _ => .bad
def mAndT (a b : MT0) : MT0 := fun ρ S => (a ρ S).bind fun x S1 => if x = true then b ρ S1 else .ok false S1
def mOrT (a b : MT0) : MT0 := fun ρ S => (a ρ S).bind fun x S1 => if x = true then .ok true S1 else b ρ S1
def mNotT (a : MT0) : MT0 := fun ρ S => (a ρ S).bind fun x S1 => .ok (!x) S1
def mIfE (c : MT0) (a b : ME0) : ME0 := fun ρ S => (c ρ S).bind fun x S1 => if x = true then a ρ S1 else b ρ S1
def mTup (ma : MA0) : ME0 := fun ρ S => (ma ρ S).bind fun xs S1 => .ok (.tup xs) S1
/-- a list that no one will change; one that may be changed -/
def mLst (ma : MA0) : ME0 := fun ρ S => (ma ρ S).bind fun xs S1 => .ok (.lst xs) S1
def mLstS (ma : MA0) : ME0 := fun ρ S => (ma ρ S).bind fun xs S1 => .ok (.ref S1.length) (S1 ++ [.lst xs])
def mCall (f : List D → Store → Res D) (ma : MA0) : ME0 := fun ρ S => (ma ρ S).bind fun xs S1 => f xs S1
def mCmpC (f g : D → D → Store → Res D) (ma mb mc : ME0) : ME0 := fun ρ S => (ma ρ S).bind fun x S1 => (mb ρ S1).bind fun y S2 => (f x y S2).bind fun z S3 => match z with
  | .bl true => (mc ρ S3).bind fun w S4 => g y w S4
  | .bl false => .ok (.bl false) S3
  | _ => .bad

/-! ### values -/
section
variable {G : Gd} {E : XK} {R φ : List Addr} {S : Store} {H : Hp}
theorem Rv.int_of {i : Int} {v : V} (h : Rv G R φ H (.int i) v) : v = .int i := by unfold Rv at h; exact h
theorem Rv.bl_of {b : Bool} {v : V} (h : Rv G R φ H (.bl b) v) : v = .bl b := by unfold Rv at h; exact h
theorem Rv.non_of {v : V} (h : Rv G R φ H .non v) : v = .non := by unfold Rv at h; exact h
theorem Rv.str_of {z : Str} {v : V} (h : Rv G R φ H (.str z) v) : v = .str z := by unfold Rv at h; exact h
theorem Rv.int {i : Int} : Rv G R φ H (.int i) (.int i) := by unfold Rv; rfl
theorem Rv.bl {b : Bool} : Rv G R φ H (.bl b) (.bl b) := by unfold Rv; rfl
theorem Rv.non : Rv G R φ H .non .non := by unfold Rv; rfl
theorem Rv.str {z : Str} : Rv G R φ H (.str z) (.str z) := by unfold Rv; rfl
theorem Rv.tup {ds : List D} {vs : List V} {a : Addr} (h : H a = some (.tup vs)) (r : RvL G R φ H ds vs) : Rv G R φ H (.tup ds) (.ref a) := by
  unfold Rv
  exact ⟨a, vs, rfl, .inl (.inl h), r⟩
theorem Rv.lst {ds : List D} {vs : List V} {a : Addr} (n1 : a ∉ φ) (n2 : a ∉ R) (h : H a = some (.lst vs)) (r : RvL G R φ H ds vs) : Rv G R φ H (.lst ds) (.ref a) := by
  unfold Rv
  exact ⟨a, vs, rfl, n1, n2, h, r⟩
theorem Rv.tup_of {ds : List D} {v : V} (h : Rv G R φ H (.tup ds) v) : ∃ a vs, v = .ref a ∧ SqT G.K H a vs ∧ RvL G R φ H ds vs := by unfold Rv at h; exact h
theorem Rv.lst_of {ds : List D} {v : V} (h : Rv G R φ H (.lst ds) v) : ∃ a vs, v = .ref a ∧ a ∉ φ ∧ a ∉ R ∧ H a = some (.lst vs) ∧ RvL G R φ H ds vs := by unfold Rv at h; exact h
theorem Rv.frz_of {ds : List D} {v : V} (h : Rv G R φ H (.frz ds) v) : ∃ a vs, v = .ref a ∧ Fz G.K R φ H a vs ∧ RvL G R φ H ds vs := by unfold Rv at h; exact h
theorem Rv.ref_of {n : Nat} {v : V} (h : Rv G R φ H (.ref n) v) : ∃ a, v = .ref a ∧ φ[n]? = some a := by unfold Rv at h; exact h
theorem Rs.lst (r : Rs G R φ S H) {n : Nat} {ds : List D} {v : V} (h : Rv G R φ H (.ref n) v) (e : S[n]? = some (.lst ds)) : ∃ a vs, v = .ref a ∧ φ[n]? = some a ∧ H a = some (.lst vs) ∧ RvL G R φ H ds vs := by
  obtain ⟨a, rfl, ha⟩ := Rv.ref_of h
  obtain ⟨vs, h1, h2⟩ := r.obj n _ a e ha
  exact ⟨a, vs, rfl, ha, h1, h2⟩
def lstAt (S : Store) (n : Nat) : Option (List D) := match S[n]? with
  | some (.lst ds) => some ds
  | _ => none
theorem lstAt_of {n : Nat} {ds : List D} (h : lstAt S n = some ds) : S[n]? = some (.lst ds) := by
  unfold lstAt at h
  split at h
  · rename_i h'
    cases h
    exact h'
  · cases h
/-- the items of what is like a list or a tuple -/
def seqOf (S : Store) : D → Option (List D)
  | .tup ds => some ds
  | .lst ds => some ds
  | .frz ds => some ds
  | .ref n => lstAt S n
  | _ => none
theorem seq_of (r : Rs G R φ S H) {d : D} {v : V} {ds : List D} (h : Rv G R φ H d v) (e : seqOf S d = some ds) : ∃ a vs, v = .ref a ∧ (SqL G.K H a vs ∨ SqT G.K H a vs) ∧ RvL G R φ H ds vs := by
  cases d with
  | tup xs =>
    cases e
    obtain ⟨a, vs, e1, h1, h2⟩ := Rv.tup_of h
    exact ⟨a, vs, e1, .inr h1, h2⟩
  | lst xs =>
    cases e
    obtain ⟨a, vs, e1, _, _, h1, h2⟩ := Rv.lst_of h
    exact ⟨a, vs, e1, .inl (.inl (.inl h1)), h2⟩
  | frz xs =>
    cases e
    obtain ⟨a, vs, e1, h1, h2⟩ := Rv.frz_of h
    exact ⟨a, vs, e1, .inl h1.sq, h2⟩
  | ref n =>
    obtain ⟨a, vs, e1, _, h1, h2⟩ := r.lst h (lstAt_of e)
    exact ⟨a, vs, e1, .inl (.inl (.inl h1)), h2⟩
  | _ => cases e
/-- as above, lists alone -/
def lstOf (S : Store) : D → Option (List D)
  | .lst ds => some ds
  | .frz ds => some ds
  | .ref n => lstAt S n
  | _ => none
theorem lst_of (r : Rs G R φ S H) {d : D} {v : V} {ds : List D} (h : Rv G R φ H d v) (e : lstOf S d = some ds) : ∃ a vs, v = .ref a ∧ SqL G.K H a vs ∧ RvL G R φ H ds vs := by
  cases d with
  | lst xs =>
    cases e
    obtain ⟨a, vs, e1, _, _, h1, h2⟩ := Rv.lst_of h
    exact ⟨a, vs, e1, .inl (.inl h1), h2⟩
  | frz xs =>
    cases e
    obtain ⟨a, vs, e1, h1, h2⟩ := Rv.frz_of h
    exact ⟨a, vs, e1, h1.sq, h2⟩
  | ref n =>
    obtain ⟨a, vs, e1, _, h1, h2⟩ := r.lst h (lstAt_of e)
    exact ⟨a, vs, e1, .inl (.inl h1), h2⟩
  | _ => cases e

/-! ### operators by values -/
def Op2 (G : Gd) (E : XK) (r : R2) (f : D → D → Store → Res D) : Prop := ∀ R φ S H d e x y, Rs G R φ S H → Rv G R φ H d x → Rv G R φ H e y → Run G E R φ H (RelV' G R) (f d e S) (r x y H)
def Op1 (G : Gd) (E : XK) (r : V → Hp → VK → Prop) (f : D → Store → Res D) : Prop := ∀ R φ S H d x, Rs G R φ S H → Rv G R φ H d x → Run G E R φ H (RelV' G R) (f d S) (r x H)
/-- a call of a built-in by values -/
def OpL (G : Gd) (E : XK) (r : List V → Hp → VK → Prop) (f : List D → Store → Res D) : Prop := ∀ R φ S H ds xs, Rs G R φ S H → RvL G R φ H ds xs → Run G E R φ H (RelV' G R) (f ds S) (r xs H)
/-- two ints -/
def f2I (g : Int → Int → D) : D → D → Store → Res D := fun x y S => match x, y with
  | .int i, .int j => .ok (g i j) S
  | _, _ => .bad
def f2Ic (C : Int → Int → Bool) (g : Int → Int → D) : D → D → Store → Res D := fun x y S => match x, y with
  | .int i, .int j => if C i j = true then .ok (g i j) S else .bad
  | _, _ => .bad
theorem op2I {g : Int → Int → V} {g' : Int → Int → D} (hg : ∀ i j R φ H, Rv G R φ H (g' i j) (g i j)) : Op2 G E (rI0 g) (f2I g') := by
  intro R φ S H d e x y rs rd re
  cases d with
  | int i =>
    cases e with
    | int j =>
      have e1 := Rv.int_of rd
      have e2 := Rv.int_of re
      subst e1
      subst e2
      exact Run.ret rs (hg i j R φ H) fun Q q => ⟨i, j, rfl, rfl, q⟩
    | _ => exact Run.bad
  | _ => exact Run.bad
theorem op2Ic {C : Int → Int → Prop} {C' : Int → Int → Bool} {g : Int → Int → V} {g' : Int → Int → D} (hC : ∀ i j, C' i j = true → C i j) (hg : ∀ i j R φ H, Rv G R φ H (g' i j) (g i j)) : Op2 G E (rI C g) (f2Ic C' g') := by
  intro R φ S H d e x y rs rd re
  cases d with
  | int i =>
    cases e with
    | int j =>
      have e1 := Rv.int_of rd
      have e2 := Rv.int_of re
      subst e1
      subst e2
      show Run G E R φ H _ (if C' i j = true then .ok (g' i j) S else .bad) _
      by_cases hc : C' i j = true
      · rw [if_pos hc]
        exact Run.ret rs (hg i j R φ H) fun Q q => ⟨i, j, rfl, rfl, hC i j hc, q⟩
      · rw [if_neg hc]
        exact Run.bad
    | _ => exact Run.bad
  | _ => exact Run.bad
abbrev fSub := f2I fun i j => .int (i - j)
abbrev fLtI := f2I fun i j => .bl (decide (i < j))
abbrev fLeI := f2I fun i j => .bl (decide (i ≤ j))
abbrev fGtI := f2I fun i j => .bl (decide (j < i))
abbrev fGeI := f2I fun i j => .bl (decide (j ≤ i))
/-- products: together below a million bits -/
abbrev fMulI := f2Ic (fun i j => decide (i.natAbs.log2 + j.natAbs.log2 < 1000000)) fun i j => .int (i * j)
abbrev fMod := f2Ic (fun _ j => decide (0 < j)) fun i j => .int (i % j)
abbrev fFloor := f2Ic (fun _ j => decide (0 < j ∧ j.natAbs.log2 < 9000)) fun i j => .int (i / j)
abbrev fPow := f2Ic (fun i j => decide (0 ≤ j ∧ j ≤ 1000000 ∧ i.natAbs < 2 ^ 64)) fun i j => .int (i ^ j.toNat)
theorem o_sub : Op2 G E (rI0 fun i j => .int (i - j)) fSub := op2I fun _ _ _ _ _ => Rv.int
theorem o_add : Op2 G E (rI0 fun i j => .int (i + j)) (f2I fun i j => .int (i + j)) := op2I fun _ _ _ _ _ => Rv.int
theorem o_lt : Op2 G E (rI0 fun i j => .bl (decide (i < j))) fLtI := op2I fun _ _ _ _ _ => Rv.bl
theorem o_le : Op2 G E (rI0 fun i j => .bl (decide (i ≤ j))) fLeI := op2I fun _ _ _ _ _ => Rv.bl
theorem o_gt : Op2 G E (rI0 fun i j => .bl (decide (j < i))) fGtI := op2I fun _ _ _ _ _ => Rv.bl
theorem o_ge : Op2 G E (rI0 fun i j => .bl (decide (j ≤ i))) fGeI := op2I fun _ _ _ _ _ => Rv.bl
theorem o_mul : Op2 G E (rI CMulW fun i j => .int (i * j)) fMulI := op2Ic (fun i j h => show i.natAbs.log2 + j.natAbs.log2 < 1000000 from of_decide_eq_true h) fun _ _ _ _ _ => Rv.int
theorem o_mod : Op2 G E (rI (fun _ j => 0 < j) fun i j => .int (i % j)) fMod := op2Ic (fun _ _ h => of_decide_eq_true h) fun _ _ _ _ _ => Rv.int
theorem o_floor : Op2 G E (rI CDivW fun i j => .int (i / j)) fFloor := op2Ic (fun i j h => show 0 < j ∧ j.natAbs.log2 < 9000 from of_decide_eq_true h) fun _ _ _ _ _ => Rv.int
theorem o_pow : Op2 G E (rI CPow fun i j => .int (i ^ j.toNat)) fPow := op2Ic (fun i j h => show 0 ≤ j ∧ j ≤ 1000000 ∧ i.natAbs < 2 ^ 64 from of_decide_eq_true h) fun _ _ _ _ _ => Rv.int
def fNeg : D → Store → Res D := fun x S => match x with
  | .int i => .ok (.int (-i)) S
  | _ => .bad
theorem o_neg : Op1 G E (rU fun i => .int (-i)) fNeg := by
  intro R φ S H d x rs rd
  cases d with
  | int i =>
    have e1 := Rv.int_of rd
    subst e1
    exact Run.ret rs Rv.int fun Q q => ⟨i, rfl, q⟩
  | _ => exact Run.bad
def isNon : D → Bool
  | .non => true
  | _ => false
theorem Rv.isNon {d : D} {v : V} (h : Rv G R φ H d v) : decide (v = .non) = isNon d := by
  cases d with
  | non => rw [Rv.non_of h]; rfl
  | bl b => rw [Rv.bl_of h]; rfl
  | int b => rw [Rv.int_of h]; rfl
  | str b => rw [Rv.str_of h]; rfl
  | tup ds => obtain ⟨a, _, rfl, _⟩ := Rv.tup_of h; rfl
  | lst ds => obtain ⟨a, _, rfl, _⟩ := Rv.lst_of h; rfl
  | frz ds => obtain ⟨a, _, rfl, _⟩ := Rv.frz_of h; rfl
  | ref n => obtain ⟨a, rfl, _⟩ := Rv.ref_of h; rfl
/-- x is None, x is not None -/
def fIs (neg : Bool) : D → D → Store → Res D := fun x y S => match y with
  | .non => .ok (.bl (if neg then !isNon x else isNon x)) S
  | _ => .bad
theorem o_isN : Op2 G E (fun x y H Q => y = .non ∧ Q (.bl (decide (x = .non))) H) (fIs false) := by
  intro R φ S H d e x y rs rd re
  cases e with
  | non => exact Run.ret rs (Rv.bl (b := decide (x = .non)) |> fun h => by rw [Rv.isNon rd] at h ⊢; exact h) fun Q q => ⟨Rv.non_of re, q⟩
  | _ => exact Run.bad
theorem o_notN : Op2 G E (fun x y H Q => y = .non ∧ Q (.bl (!decide (x = .non))) H) (fIs true) := by
  intro R φ S H d e x y rs rd re
  cases e with
  | non => exact Run.ret rs (Rv.bl (b := !decide (x = .non)) |> fun h => by rw [Rv.isNon rd] at h ⊢; exact h) fun Q q => ⟨Rv.non_of re, q⟩
  | _ => exact Run.bad
/-! #### equality of data -/
mutual
def toPy (S : Store) : D → Option PyData
  | .non => some .none
  | .bl b => some (.bool b)
  | .int i => some (.int i)
  | .str z => some (.str z)
  | .tup ds => (toPyL S ds).map .tuple
  | .lst ds => (toPyL S ds).map .list
  | .frz ds => (toPyL S ds).map .list
  | .ref _ => none
def toPyL (S : Store) : List D → Option (List PyData)
  | [] => some []
  | d :: ds => match toPy S d, toPyL S ds with
    | some p, some ps => some (p :: ps)
    | _, _ => none
end
mutual
theorem toPy_dp (r : Rs G R φ S H) : ∀ {d : D} {v : V} {p : PyData}, Rv G R φ H d v → toPy S d = some p → Dp G.K H v p
  | .non, v, p, h, e => by
    unfold toPy at e
    cases e
    rw [Rv.non_of h]
    exact .non
  | .bl b, v, p, h, e => by
    unfold toPy at e
    cases e
    rw [Rv.bl_of h]
    exact .bl b
  | .int i, v, p, h, e => by
    unfold toPy at e
    cases e
    rw [Rv.int_of h]
    exact .int i
  | .str i, v, p, h, e => by
    unfold toPy at e
    cases e
    rw [Rv.str_of h]
    exact .str i
  | .tup ds, v, p, h, e => by
    unfold toPy at e
    obtain ⟨ps, e1, e2⟩ := Option.map_eq_some_iff.mp e
    obtain ⟨a, vs, rfl, h1, h2⟩ := Rv.tup_of h
    subst e2
    exact .tup h1 (toPyL_dp r h2 e1)
  | .lst ds, v, p, h, e => by
    unfold toPy at e
    obtain ⟨ps, e1, e2⟩ := Option.map_eq_some_iff.mp e
    obtain ⟨a, vs, rfl, _, _, h1, h2⟩ := Rv.lst_of h
    subst e2
    exact .lst (.inl (.inl h1)) (toPyL_dp r h2 e1)
  | .frz ds, v, p, h, e => by
    unfold toPy at e
    obtain ⟨ps, e1, e2⟩ := Option.map_eq_some_iff.mp e
    obtain ⟨a, vs, rfl, h1, h2⟩ := Rv.frz_of h
    subst e2
    exact .lst h1.sq (toPyL_dp r h2 e1)
  | .ref n, v, p, h, e => by
    unfold toPy at e
    cases e
theorem toPyL_dp (r : Rs G R φ S H) : ∀ {ds : List D} {vs : List V} {ps : List PyData}, RvL G R φ H ds vs → toPyL S ds = some ps → DpAll G.K H vs ps
  | [], vs, ps, h, e => by
    unfold toPyL at e
    unfold RvL at h
    cases e
    subst h
    exact .nil
  | d :: ds, vs, ps, h, e => by
    unfold toPyL at e
    unfold RvL at h
    obtain ⟨v, r', rfl, h1, h2⟩ := h
    split at e
    · rename_i p ps' e1 e2
      cases e
      exact .cons (toPy_dp r h1 e1) (toPyL_dp r h2 e2)
    · cases e
end
def eqRes (S : Store) (neg : Bool) (x y : D) : Option Bool := match toPy S x, toPy S y with
  | some p, some q => if SeqAt.shaped p = true ∧ SeqAt.shaped q = true then some (if neg then !PyData.eqv p q else PyData.eqv p q) else none
  | _, _ => none
def fEq (neg : Bool) : D → D → Store → Res D := fun x y S => match eqRes S neg x y with
  | some b => .ok (.bl b) S
  | none => .bad
theorem o_eq : Op2 G E (rEqD G.K) (fEq false) := by
  intro R φ S H d e x y rs rd re
  unfold fEq eqRes
  split
  · rename_i b hb
    split at hb
    · rename_i p q e1 e2
      split at hb
      · rename_i hs
        cases hb
        exact Run.ret rs Rv.bl fun Q q' => ⟨p, q, toPy_dp rs rd e1, toPy_dp rs re e2, hs.1, hs.2, q'⟩
      · cases hb
    · cases hb
  · exact Run.bad
theorem o_ne : Op2 G E (rNeD G.K) (fEq true) := by
  intro R φ S H d e x y rs rd re
  unfold fEq eqRes
  split
  · rename_i b hb
    split at hb
    · rename_i p q e1 e2
      split at hb
      · rename_i hs
        cases hb
        exact Run.ret rs Rv.bl fun Q q' => ⟨p, q, toPy_dp rs rd e1, toPy_dp rs re e2, hs.1, hs.2, q'⟩
      · cases hb
    · cases hb
  · exact Run.bad
/-! #### items -/
def fIx : D → D → Store → Res D := fun x y S => match y, seqOf S x with
  | .int i, some ds => match atI ds i with
    | some d => .ok d S
    | none => .bad
  | _, _ => .bad
theorem RvL.atI {ds : List D} {vs : List V} {i : Int} {d : D} (h : RvL G R φ H ds vs) (e : L2.atI ds i = some d) : ∃ v, L2.atI vs i = some v ∧ Rv G R φ H d v := by
  unfold L2.atI at e ⊢
  rw [← RvL.length h]
  cases h1 : ixN ds.length i with
  | none => rw [h1] at e; cases e
  | some j =>
    rw [h1] at e
    exact RvL.get h e
theorem o_ix : Op2 G E (rIx G.K) fIx := by
  intro R φ S H d e x y rs rd re
  unfold fIx
  split
  · rename_i i ds h1
    split
    · rename_i z h2
      obtain ⟨a, vs, rfl, h3, h4⟩ := seq_of rs rd h1
      obtain ⟨v, h5, h6⟩ := RvL.atI h4 h2
      refine Run.ret rs h6 fun Q q => ?_
      rcases h3 with h3 | h3
      · exact .inl ⟨a, vs, i, v, rfl, Rv.int_of re, h3, h5, q⟩
      · exact .inr (.inl ⟨a, vs, i, v, rfl, Rv.int_of re, h3, h5, q⟩)
    · exact Run.bad
  · exact Run.bad
end
end MM

/-! The mirror layer's rules: expressions by their syntax. -/
namespace MM
open PySem L2
section
variable {T : List Addr} {X : Cx} {E : XK} {a b c e : Expr} {es rest : List Expr} {ma mb mc me : ME0} {mA mB' : MT0} {mr : MA0} {pos p : Pos}

/-! ### readings made of readings -/
theorem SndE.var {G : Gd} {i : Nat} : SndE G E (tVar i) (mVar i) := by
  intro σ H ρ φ R S rs rn
  unfold mVar
  split
  · rename_i d h
    obtain ⟨v, e1, e2⟩ := rn.get i d h
    exact Run.ret rs e2 fun Q q => ⟨v, e1, q⟩
  · exact Run.bad
theorem me_var (i : Nat) {x : Str} (hN : X.N[i]? = some x := by rfl) (hv : Vis X.env.scope x := by first | exact Or.inl rfl | exact Or.inr (Or.inl rfl) | exact Or.inr (Or.inr rfl)) (hd : (x == ("__debug__" : Str)) = false := by decide)
    (hcd : (x == ("__classdict__" : Str)) = false := by decide) : ME T X E (.Name x pos) (mVar i) := ⟨_, pe_var hN hv hd hcd, SndE.var⟩
theorem SndE.cst {G : Gd} {v : V} {d : D} (h : ∀ R φ H, Rv G R φ H d v) : SndE G E (tC v) (mC d) := fun σ H ρ φ R S rs rn => Run.ret rs (h R φ H) fun Q q => q
theorem me_int {i : Int} {j : Nat} : ME T X E (.Constant (.int i) j pos) (mC (.int i)) := ⟨_, pe_int, SndE.cst fun _ _ _ => Rv.int⟩
theorem me_bl {i : Bool} {j : Nat} : ME T X E (.Constant (.bool i) j pos) (mC (.bl i)) := ⟨_, pe_bl, SndE.cst fun _ _ _ => Rv.bl⟩
theorem me_non {j : Nat} : ME T X E (.Constant .none j pos) (mC .non) := ⟨_, pe_non, SndE.cst fun _ _ _ => Rv.non⟩
theorem me_str {z : Str} {j : Nat} : ME T X E (.Constant (.str z) j pos) (mC (.str z)) := ⟨_, pe_str, SndE.cst fun _ _ _ => Rv.str⟩
/-- a constant of the module -/
theorem me_gint {x : Str} {i : Int} {t : Tok} (hg : Gl X x) (hm : X.mg x = some (.int i t)) (hd : (x == ("__debug__" : Str)) = false := by decide) : ME T X E (.Name x pos) (mC (.int i)) :=
  ⟨_, pe_glob hg hm (v := .int i) ⟨t, rfl⟩ hd, SndE.cst fun _ _ _ => Rv.int⟩
theorem me_gstr {x z : Str} {t : Tok} (hg : Gl X x) (hm : X.mg x = some (.str z t)) (hd : (x == ("__debug__" : Str)) = false := by decide) : ME T X E (.Name x pos) (mC (.str z)) :=
  ⟨_, pe_glob hg hm (v := .str z) ⟨t, rfl⟩ hd, SndE.cst fun _ _ _ => Rv.str⟩
theorem SndE.op {G : Gd} {r : R2} {f : D → D → Store → Res D} {ta tb : TE} (ha : SndE G E ta ma) (hb : SndE G E tb mb) (ho : Op2 G E r f) : SndE G E (tOp r ta tb) (mOp f ma mb) := fun σ H ρ φ R S rs rn =>
  Run.bnd (ha σ H ρ φ R S rs rn) fun d S1 φ1 x H1 _ l1 rs1 r1 => Run.bnd (hb σ H1 ρ φ1 R S1 rs1 (rn.le l1)) fun e S2 φ2 y H2 _ l2 rs2 r2 => ho R φ2 S2 H2 d e x y rs2 (Rv.le l2 r1) r2
theorem me_bin {op : Operator} {r : R2} {f : D → D → Store → Res D} (ho : OpR X (binaryOp op) r) (hs : Op2 (X.gd T) E r f) (ha : ME T X E a ma) (hb : ME T X E b mb) : ME T X E (.BinOp a op b pos) (mOp f ma mb) := by
  obtain ⟨ta, pa, sa⟩ := ha
  obtain ⟨tb, pb, sb⟩ := hb
  exact ⟨_, pe_op ho pa pb, SndE.op sa sb hs⟩
theorem SndE.un {G : Gd} {r : V → Hp → VK → Prop} {f : D → Store → Res D} {ta : TE} (ha : SndE G E ta ma) (ho : Op1 G E r f) : SndE G E (tUn r ta) (mUn f ma) := fun σ H ρ φ R S rs rn =>
  Run.bnd (ha σ H ρ φ R S rs rn) fun d S1 φ1 x H1 _ l1 rs1 r1 => ho R φ1 S1 H1 d x rs1 r1
theorem me_neg (ha : ME T X E a ma) : ME T X E (.UnaryOp .USub a pos) (mUn fNeg ma) := by
  obtain ⟨ta, pa, sa⟩ := ha
  exact ⟨_, pe_un un_neg pa, SndE.un sa o_neg⟩
theorem me_sub (ha : ME T X E a ma) (hb : ME T X E b mb) : ME T X E (.BinOp a .Sub b pos) (mOp fSub ma mb) := me_bin op_sub o_sub ha hb
theorem me_mul (ha : ME T X E a ma) (hb : ME T X E b mb) : ME T X E (.BinOp a .Mult b pos) (mOp fMulI ma mb) := me_bin op_mulW o_mul ha hb
theorem me_mod (ha : ME T X E a ma) (hb : ME T X E b mb) : ME T X E (.BinOp a .Mod b pos) (mOp fMod ma mb) := me_bin op_mod o_mod ha hb
theorem me_floor (ha : ME T X E a ma) (hb : ME T X E b mb) : ME T X E (.BinOp a .FloorDiv b pos) (mOp fFloor ma mb) := me_bin op_fdivW o_floor ha hb
theorem me_pow (ha : ME T X E a ma) (hb : ME T X E b mb) : ME T X E (.BinOp a .Pow b pos) (mOp fPow ma mb) := me_bin op_pow o_pow ha hb
/-! ### comparisons -/
theorem me_cmp {op : CmpOp} {r : R2} {f : D → D → Store → Res D} (ho : OpR X (compareOp op) r) (hs : Op2 (X.gd T) E r f) (ha : ME T X E a ma) (hb : ME T X E b mb) (hm : behindInMarks op b = false := by exact nomark _) : ME T X E (.Compare a [op] [b] pos) (mOp f ma mb) := by
  obtain ⟨ta, pa, sa⟩ := ha
  obtain ⟨tb, pb, sb⟩ := hb
  exact ⟨_, pe_cmpR ho pa pb hm, SndE.op sa sb hs⟩
theorem SndT.test {G : Gd} {ta : TE} (ha : SndE G E ta ma) : SndT G E (tTest ta) (mB ma) := fun σ H ρ φ R S rs rn =>
  Run.bnd (c' := fun x H1 Q => ∃ k, x = .bl k ∧ Q k H1) (ha σ H ρ φ R S rs rn) fun d S1 φ1 x H1 _ l1 rs1 r1 => by
    cases d with
    | bl b => exact Run.ret rs1 rfl fun Q q => ⟨b, Rv.bl_of r1, q⟩
    | _ => exact Run.bad
theorem mt_cmp {op : CmpOp} {r : R2} {f : D → D → Store → Res D} (ho : OpR X (compareOp op) r) (hs : Op2 (X.gd T) E r f) (ha : ME T X E a ma) (hb : ME T X E b mb) (hm : behindInMarks op b = false := by exact nomark _) : MT T X E (.Compare a [op] [b] pos) (mB (mOp f ma mb)) := by
  obtain ⟨ta, pa, sa⟩ := ha
  obtain ⟨tb, pb, sb⟩ := hb
  exact ⟨_, pt_cmpR ho pa pb hm, SndT.test (SndE.op sa sb hs)⟩
theorem SndE.chain {G : Gd} {r r' : R2} {f g : D → D → Store → Res D} {ta tb tc : TE} (ha : SndE G E ta ma) (hb : SndE G E tb mb) (hc : SndE G E tc mc) (ho : Op2 G E r f) (ho' : Op2 G E r' g) : SndE G E (tChain r r' ta tb tc) (mCmpC f g ma mb mc) := fun σ H ρ φ R S rs rn =>
  Run.bnd (ha σ H ρ φ R S rs rn) fun d S1 φ1 x H1 _ l1 rs1 r1 => Run.bnd (hb σ H1 ρ φ1 R S1 rs1 (rn.le l1)) fun e S2 φ2 y H2 _ l2 rs2 r2 =>
    Run.bnd (c' := fun z H3 Q => ∃ k, z = .bl k ∧ (if k = true then tc σ H3 fun w' H4 => r' y w' H4 Q else Q (.bl false) H3)) (ho R φ2 S2 H2 d e x y rs2 (Rv.le l2 r1) r2) fun z S3 φ3 w H3 _ l3 rs3 r3 => by
      cases z with
      | bl k =>
        cases k with
        | false => exact Run.ret rs3 Rv.bl fun Q q => ⟨false, Rv.bl_of r3, q⟩
        | true =>
          refine Run.conv (c := fun Q => tc σ H3 fun w' H4 => r' y w' H4 Q) (Run.bnd (hc σ H3 ρ φ3 R S3 rs3 (rn.le (l1.trans (l2.trans l3)))) fun u S4 φ4 w4 H4 _ l4 rs4 r4 => ho' R φ4 S4 H4 e u y w4 rs4 (Rv.le (l3.trans l4) r2) r4) fun Q q => ⟨true, Rv.bl_of r3, q⟩
      | _ => exact Run.bad
theorem me_chain {op op' : CmpOp} {r r' : R2} {f g : D → D → Store → Res D} (ho : OpR X (compareOp op) r) (hs : Op2 (X.gd T) E r f) (ho' : OpR X (compareOp op') r') (hs' : Op2 (X.gd T) E r' g) (ha : ME T X E a ma) (hb : ME T X E b mb) (hc : ME T X E c mc)
    (hm : lastMarks [op, op'] [b, c] = false := by with_unfolding_all rfl) : ME T X E (.Compare a [op, op'] [b, c] pos) (mCmpC f g ma mb mc) := by
  obtain ⟨ta, pa, sa⟩ := ha
  obtain ⟨tb, pb, sb⟩ := hb
  obtain ⟨tc, pc, sc⟩ := hc
  exact ⟨_, pe_chain ho ho' pa pb pc hm, SndE.chain sa sb sc hs hs'⟩
theorem mt_chain {op op' : CmpOp} {r r' : R2} {f g : D → D → Store → Res D} (ho : OpR X (compareOp op) r) (hs : Op2 (X.gd T) E r f) (ho' : OpR X (compareOp op') r') (hs' : Op2 (X.gd T) E r' g) (ha : ME T X E a ma) (hb : ME T X E b mb) (hc : ME T X E c mc)
    (hm : lastMarks [op, op'] [b, c] = false := by with_unfolding_all rfl) : MT T X E (.Compare a [op, op'] [b, c] pos) (mB (mCmpC f g ma mb mc)) := by
  obtain ⟨ta, pa, sa⟩ := ha
  obtain ⟨tb, pb, sb⟩ := hb
  obtain ⟨tc, pc, sc⟩ := hc
  exact ⟨_, pt_chain ho ho' pa pb pc hm, SndT.test (SndE.chain sa sb sc hs hs')⟩
/-! ### and, or, not, if-else -/
theorem me_one {op : BoolOp} (h : ME T X E a ma) : ME T X E (.BoolOp op [a] pos) ma := by
  obtain ⟨ta, pa, sa⟩ := h
  exact ⟨_, pe_one pa, sa⟩
theorem me_and (ha : ME T X E a ma) (hb : ME T X E (.BoolOp .And (b :: rest) pos) mb) : ME T X E (.BoolOp .And (a :: b :: rest) pos) (mAndV ma mb) := by
  obtain ⟨ta, pa, sa⟩ := ha
  obtain ⟨tb, pb, sb⟩ := hb
  refine ⟨_, pe_and pa pb, fun σ H ρ φ R S rs rn => Run.bnd (sa σ H ρ φ R S rs rn) fun d S1 φ1 x H1 _ l1 rs1 r1 => ?_⟩
  cases d with
  | bl k =>
    cases k with
    | false => exact Run.ret rs1 Rv.bl fun Q q => ⟨false, Rv.bl_of r1, q⟩
    | true => exact Run.conv (sb σ H1 ρ φ1 R S1 rs1 (rn.le l1)) fun Q q => ⟨true, Rv.bl_of r1, q⟩
  | _ => exact Run.bad
theorem me_or (ha : ME T X E a ma) (hb : ME T X E (.BoolOp .Or (b :: rest) pos) mb) : ME T X E (.BoolOp .Or (a :: b :: rest) pos) (mOrV ma mb) := by
  obtain ⟨ta, pa, sa⟩ := ha
  obtain ⟨tb, pb, sb⟩ := hb
  refine ⟨_, pe_or pa pb, fun σ H ρ φ R S rs rn => Run.bnd (sa σ H ρ φ R S rs rn) fun d S1 φ1 x H1 _ l1 rs1 r1 => ?_⟩
  cases d with
  | bl k =>
    cases k with
    | true => exact Run.ret rs1 Rv.bl fun Q q => ⟨true, Rv.bl_of r1, q⟩
    | false => exact Run.conv (sb σ H1 ρ φ1 R S1 rs1 (rn.le l1)) fun Q q => ⟨false, Rv.bl_of r1, q⟩
  | _ => exact Run.bad
theorem me_not (ha : ME T X E a ma) : ME T X E (.UnaryOp .Not a pos) (mNotV ma) := by
  obtain ⟨ta, pa, sa⟩ := ha
  refine ⟨_, pe_not pa, fun σ H ρ φ R S rs rn => Run.bnd (sa σ H ρ φ R S rs rn) fun d S1 φ1 x H1 _ l1 rs1 r1 => ?_⟩
  cases d with
  | bl k => exact Run.ret rs1 Rv.bl fun Q q => ⟨k, Rv.bl_of r1, q⟩
  | _ => exact Run.bad
theorem me_if {mc : MT0} (hc : MT T X E c mc) (ha : ME T X E a ma) (hb : ME T X E b mb) : ME T X E (.IfExp c a b pos) (mIfE mc ma mb) := by
  obtain ⟨tc, pc, sc⟩ := hc
  obtain ⟨ta, pa, sa⟩ := ha
  obtain ⟨tb, pb, sb⟩ := hb
  refine ⟨_, pe_ifExp pc pa pb, fun σ H ρ φ R S rs rn => Run.bnd (sc σ H ρ φ R S rs rn) fun d S1 φ1 x H1 _ l1 rs1 r1 => ?_⟩
  have e1 : d = x := r1
  subst e1
  cases d with
  | true => exact Run.conv (sa σ H1 ρ φ1 R S1 rs1 (rn.le l1)) fun Q q => by rw [if_pos rfl]; exact q
  | false => exact Run.conv (sb σ H1 ρ φ1 R S1 rs1 (rn.le l1)) fun Q q => by rw [if_neg Bool.false_ne_true]; exact q
/-! ### tests -/
theorem mt_val (h : ME T X E e me) (he : ∀ whole, isTrue e X.env whole = (do let v ← whole; standAt e.pos; holding [v] (truthy v)) := by intro _; rfl) : MT T X E e (mB me) := by
  obtain ⟨t, pt, st⟩ := h
  exact ⟨_, pt_val pt he, SndT.test st⟩
theorem mw_pt (h : MW T X E e mA) : MT T X E e mA := by
  obtain ⟨t, pt, st⟩ := h
  exact ⟨_, pt.pt, st⟩
theorem mw_and1 (h : MT T X E a mA) : MW T X E (.BoolOp .And [a] pos) mA := by
  obtain ⟨t, pt, st⟩ := h
  exact ⟨_, pw_and1 pt, st⟩
theorem mw_or1 (h : MT T X E a mA) : MW T X E (.BoolOp .Or [a] pos) mA := by
  obtain ⟨t, pt, st⟩ := h
  exact ⟨_, pw_or1 pt, st⟩
theorem mw_and (ha : MT T X E a mA) (hb : MW T X E (.BoolOp .And (b :: rest) pos) mB') : MW T X E (.BoolOp .And (a :: b :: rest) pos) (mAndT mA mB') := by
  obtain ⟨ta, pa, sa⟩ := ha
  obtain ⟨tb, pb, sb⟩ := hb
  refine ⟨_, pw_and pa pb, fun σ H ρ φ R S rs rn => Run.bnd (sa σ H ρ φ R S rs rn) fun d S1 φ1 x H1 _ l1 rs1 r1 => ?_⟩
  have e1 : d = x := r1
  subst e1
  cases d with
  | true => exact Run.conv (sb σ H1 ρ φ1 R S1 rs1 (rn.le l1)) fun Q q => by rw [if_pos rfl]; exact q
  | false => exact Run.ret rs1 rfl fun Q q => by rw [if_neg Bool.false_ne_true]; exact q
theorem mw_or (ha : MT T X E a mA) (hb : MW T X E (.BoolOp .Or (b :: rest) pos) mB') : MW T X E (.BoolOp .Or (a :: b :: rest) pos) (mOrT mA mB') := by
  obtain ⟨ta, pa, sa⟩ := ha
  obtain ⟨tb, pb, sb⟩ := hb
  refine ⟨_, pw_or pa pb, fun σ H ρ φ R S rs rn => Run.bnd (sa σ H ρ φ R S rs rn) fun d S1 φ1 x H1 _ l1 rs1 r1 => ?_⟩
  have e1 : d = x := r1
  subst e1
  cases d with
  | true => exact Run.ret rs1 rfl fun Q q => by rw [if_pos rfl]; exact q
  | false => exact Run.conv (sb σ H1 ρ φ1 R S1 rs1 (rn.le l1)) fun Q q => by rw [if_neg Bool.false_ne_true]; exact q
theorem mt_not (ha : MT T X E a mA) : MT T X E (.UnaryOp .Not a pos) (mNotT mA) := by
  obtain ⟨ta, pa, sa⟩ := ha
  refine ⟨_, pt_not pa, fun σ H ρ φ R S rs rn => Run.bnd (sa σ H ρ φ R S rs rn) fun d S1 φ1 x H1 _ l1 rs1 r1 => ?_⟩
  have e1 : d = x := r1
  subst e1
  exact Run.ret rs1 rfl fun Q q => q
/-! ### arguments, displays -/
/-- arguments, told by their number, too -/
def MAn (T : List Addr) (X : Cx) (E : XK) (es : List Expr) (m : MA0) : Prop := MA T X E es m ∧ ∀ ρ S ds S', m ρ S = .ok ds S' → ds.length = es.length
theorem ma_nil : MAn T X E [] mNil := ⟨⟨_, pa_nil, fun σ H ρ φ R S rs rn => Run.ret rs RvL.nil fun Q q => q⟩, fun ρ S ds S' h => by cases h; rfl⟩
theorem ma_cons (ha : ME T X E e me) (hr : MAn T X E es mr) (hs : starEach (e :: es) X.env = (false, eval e X.env) :: starEach es X.env := by rfl) : MAn T X E (e :: es) (mCons me mr) := by
  obtain ⟨ta, pa, sa⟩ := ha
  obtain ⟨⟨tr, pr, sr⟩, hl⟩ := hr
  refine ⟨⟨_, pa_cons pa pr hs, fun σ H ρ φ R S rs rn => Run.bnd (sa σ H ρ φ R S rs rn) fun d S1 φ1 x H1 _ l1 rs1 r1 => Run.bnd (sr σ H1 ρ φ1 R S1 rs1 (rn.le l1)) fun ds S2 φ2 xs H2 _ l2 rs2 r2 => Run.ret rs2 (RvL.cons (Rv.le l2 r1) r2) fun Q q => q⟩, fun ρ S ds S' h => ?_⟩
  unfold mCons at h
  cases h1 : me ρ S with
  | ok x S1 =>
    rw [h1] at h
    cases h2 : mr ρ S1 with
    | ok xs S2 =>
      rw [Res.bind_ok, h2] at h
      cases h
      rw [List.length_cons, List.length_cons, hl _ _ _ _ h2]
    | exc e S2 => rw [Res.bind_ok, h2] at h; cases h
    | bad => rw [Res.bind_ok, h2] at h; cases h
  | exc e S2 => rw [h1] at h; cases h
  | bad => rw [h1] at h; cases h
theorem me_tup {k : Nat} (h : MAn T X E es mr) (hl : es.length ≤ sizeLine := by decide) : ME T X E (.Tuple es k pos) (mTup mr) := by
  obtain ⟨⟨tr, pr, sr⟩, hn⟩ := h
  refine ⟨_, pe_tup pr, fun σ H ρ φ R S rs rn => Run.bnd (sr σ H ρ φ R S rs rn) fun ds S1 φ1 xs H1 e l1 rs1 r1 => ?_⟩
  refine Run.new (o := .tup xs) rs1 (fun p hp => Rv.tup upd_same (RvL.le (Le.new rs1 hp) r1)) fun Q q => ⟨?_, q⟩
  rw [← RvL.length r1, hn _ _ _ _ e]
  exact hl
theorem me_lst (h : MAn T X E es mr) (hl : es.length ≤ sizeLine := by decide) : ME T X E (.List es pos) (mLst mr) := by
  obtain ⟨⟨tr, pr, sr⟩, hn⟩ := h
  refine ⟨_, pe_lst pr, fun σ H ρ φ R S rs rn => Run.bnd (sr σ H ρ φ R S rs rn) fun ds S1 φ1 xs H1 e l1 rs1 r1 => ?_⟩
  refine Run.new (o := .lst xs) rs1 (fun p hp => Rv.lst (rs1.fresh hp).1 (rs1.fresh hp).2 upd_same (RvL.le (Le.new rs1 hp) r1)) fun Q q => ⟨?_, q⟩
  rw [← RvL.length r1, hn _ _ _ _ e]
  exact hl
/-- a new store object behind it -/
theorem Run.alloc {G : Gd} {R φ : List Addr} {S : Store} {H : Hp} {o : HO} {o' : O} {c : VK → Prop} (rs : Rs G R φ S H) (h : ∀ p, H p = none → Ro G R (φ ++ [p]) (upd H p o) o' p) (hc : ∀ Q : VK, (∀ p, H p = none → Q (.ref p) (upd H p o)) → c Q) :
    Run G E R φ H (RelV' G R) (.ok (.ref S.length) (S ++ [o'])) c := fun Q hq _ _ => hc Q fun p hp => hq _ _ (φ ++ [p]) (.ref p) _ rfl (Le.alloc rs hp) (rs.alloc hp (h p hp)) (by
    show Rv G R _ _ (.ref S.length) (.ref p)
    unfold Rv
    refine ⟨p, rfl, ?_⟩
    rw [List.getElem?_append_right (by rw [rs.len]; exact Nat.le_refl _), rs.len, Nat.sub_self]
    rfl)
theorem me_lstS (h : MAn T X E es mr) (hl : es.length ≤ sizeLine := by decide) : ME T X E (.List es pos) (mLstS mr) := by
  obtain ⟨⟨tr, pr, sr⟩, hn⟩ := h
  refine ⟨_, pe_lst pr, fun σ H ρ φ R S rs rn => Run.bnd (sr σ H ρ φ R S rs rn) fun ds S1 φ1 xs H1 e l1 rs1 r1 => ?_⟩
  refine Run.alloc (o := .lst xs) (o' := .lst ds) rs1 (fun p hp => ⟨xs, upd_same, RvL.le (Le.alloc rs1 hp) r1⟩) fun Q q => ⟨?_, q⟩
  rw [← RvL.length r1, hn _ _ _ _ e]
  exact hl
theorem SndE.cb {G : Gd} {r : List V → Hp → VK → Prop} {f : List D → Store → Res D} {ta : TA} (ha : SndA G E ta mr) (ho : OpL G E r f) : SndE G E (tCB r ta) (mCall f mr) := fun σ H ρ φ R S rs rn =>
  Run.bnd (ha σ H ρ φ R S rs rn) fun ds S1 φ1 xs H1 _ l1 rs1 r1 => ho R φ1 S1 H1 ds xs rs1 r1
/-- a built-in by its name -/
theorem me_cb {id : String} {x : Str} {r : List V → Hp → VK → Prop} {f : List D → Store → Res D} (hc : CallR X (.builtin id) r) (ho : OpL (X.gd T) E r f) (hg : Gl X x) (hm : X.mg x = none) (hv : bootBuiltins x = some (.builtin id)) (ha : MAn T X E (e :: es) mr)
    (hn : x ≠ "__name__" := by decide) (hdb : (x == ("__debug__" : Str)) = false := by decide)
    (he : starEach (e :: es) X.env = (false, eval e X.env) :: starEach es X.env := by rfl) (hpl : (backTo pos (starEach es X.env)).any (·.1) = false := by rfl) : ME T X E (.Call (.Name x p) (e :: es) [] pos) (mCall f mr) := by
  obtain ⟨⟨tr, pr, sr⟩, _⟩ := ha
  exact ⟨_, pe_callB hc hg hm hv pr hn hdb he hpl, SndE.cb sr ho⟩
theorem me_cty {TT : String} {x : Str} {r : List V → Hp → VK → Prop} {f : List D → Store → Res D} (hc : CallR X (.type TT) r) (ho : OpL (X.gd T) E r f) (hg : Gl X x) (hm : X.mg x = none) (hv : bootBuiltins x = some (.type TT)) (ha : MAn T X E (e :: es) mr)
    (hn : x ≠ "__name__" := by decide) (hdb : (x == ("__debug__" : Str)) = false := by decide)
    (he : starEach (e :: es) X.env = (false, eval e X.env) :: starEach es X.env := by rfl) (hpl : (backTo pos (starEach es X.env)).any (·.1) = false := by rfl) : ME T X E (.Call (.Name x p) (e :: es) [] pos) (mCall f mr) := by
  obtain ⟨⟨tr, pr, sr⟩, _⟩ := ha
  exact ⟨_, pe_callTy hc hg hm hv pr hn hdb he hpl, SndE.cb sr ho⟩
/-! ### items -/
theorem me_ix (ha : ME T X E a ma) (hb : ME T X E b mb) (hs : PlainIx b := by exact fun _ _ => rfl) : ME T X E (.Subscript a b pos) (mOp fIx ma mb) := by
  obtain ⟨ta, pa, sa⟩ := ha
  obtain ⟨tb, pb, sb⟩ := hb
  exact ⟨_, pe_ix ix_seq pa pb hs, SndE.op sa sb o_ix⟩
/-! ### a def's promise -/
def spM (G : Gd) (n : Nat) (f : List D → Store → Res D) : Sp := fun vs H Q E => ∃ φ R S ds, Rs G R φ S H ∧ RvL G R φ H ds vs ∧ ds.length = n ∧ f ds S ≠ .bad ∧
  (∀ d S' φ' v H', f ds S = .ok d S' → Le φ H φ' H' → Rs G R φ' S' H' → Rv G R φ' H' d v → Q v H') ∧
  (∀ er S' φ' H' cl d, f ds S = .exc er S' → Le φ H φ' H' → Rs G R φ' S' H' → Xq G R φ' H' er cl d → E cl d H')
theorem SndE.call {G : Gd} {n : Nat} {f : List D → Store → Res D} {ta : TA} (ha : SndA G E ta mr) (hn : ∀ ρ S ds S', mr ρ S = .ok ds S' → ds.length = n) : SndE G E (tCall (spM G n f) [] E ta) (mCall f mr) := fun σ H ρ φ R S rs rn =>
  Run.bnd (c' := fun vs H1 Q => spM G n f (vs ++ []) H1 Q E) (ha σ H ρ φ R S rs rn) fun ds S1 φ1 xs H1 e l1 rs1 r1 => fun Q hq he hb => by
    refine ⟨φ1, R, S1, ds, rs1, ?_, hn _ _ _ _ e, hb, hq, he⟩
    rw [List.append_nil]
    exact r1
theorem me_call {k : Nat} {f : Addr} {fd : FuncData} {ps : List Str} {x : Str} {n : Nat} {m : List D → Store → Res D} (F : FnOk X.prog X.w X.K X.mg X.base (L2.CX X.prog X.w) k f fd ps (spM (X.gd T) n m)) (hr : Room k X.A) (hg : Gl X x) (hm : X.mg x = some (.ref f)) (hk : PySem.W.keepIn X.K (.ref f) = true) (hb : Binds X.K fd ps [])
    (hx : Passes (L2.CX X.prog X.w) X E) (ha : MAn T X E (e :: es) mr) (hn : (e :: es).length = n := by rfl) (hdb : (x == ("__debug__" : Str)) = false := by decide) (he : starEach (e :: es) X.env = (false, eval e X.env) :: starEach es X.env := by rfl) (hpl : (backTo pos (starEach es X.env)).any (·.1) = false := by rfl) :
    ME T X E (.Call (.Name x p) (e :: es) [] pos) (mCall m mr) := by
  obtain ⟨⟨tr, pr, sr⟩, hl⟩ := ha
  exact ⟨_, pe_call F hr hg hm hk hb .nil hx pr hdb he hpl, SndE.call sr fun ρ S ds S' h => (hl ρ S ds S' h).trans hn⟩
theorem me_call0 {k : Nat} {f : Addr} {fd : FuncData} {ps : List Str} {x : Str} {m : List D → Store → Res D} (F : FnOk X.prog X.w X.K X.mg X.base (L2.CX X.prog X.w) k f fd ps (spM (X.gd T) 0 m)) (hr : Room k X.A) (hg : Gl X x) (hm : X.mg x = some (.ref f)) (hk : PySem.W.keepIn X.K (.ref f) = true) (hb : Binds X.K fd ps [])
    (hx : Passes (L2.CX X.prog X.w) X E) (hdb : (x == ("__debug__" : Str)) = false := by decide) : ME T X E (.Call (.Name x p) [] [] pos) (mCall m mNil) := by
  refine ⟨_, pe_call0 F hr hg hm hk hb .nil hx hdb, fun σ H ρ φ R S rs rn Q hq he hb => ?_⟩
  exact ⟨φ, R, S, [], rs, RvL.nil, rfl, hb, hq, he⟩
end
end MM

/-! The mirror layer's rules: statements, loops, comprehensions, defs. -/
namespace MM
open PySem L2

/-! ### the mirrors of statements -/
def sNx : MS0 := fun ρ S => .ok (.nx, ρ) S
def sBk : MS0 := fun ρ S => .ok (.bk, ρ) S
def sCt : MS0 := fun ρ S => .ok (.ct, ρ) S
def sNever : MS0 := fun _ _ => .bad
def sSeq (a b : MS0) : MS0 := fun ρ S => (a ρ S).bind fun x S1 => match x.1 with
  | .nx => b x.2 S1
  | fl => .ok (fl, x.2) S1
def sExpr (m : ME0) : MS0 := fun ρ S => (m ρ S).bind fun _ S1 => .ok (.nx, ρ) S1
def sRet (m : ME0) : MS0 := fun ρ S => (m ρ S).bind fun d S1 => .ok (.rt d, ρ) S1
def sRetN : MS0 := fun ρ S => .ok (.rt .non, ρ) S
def sIf (c : MT0) (a b : MS0) : MS0 := fun ρ S => (c ρ S).bind fun x S1 => if x = true then a ρ S1 else b ρ S1
/-- targets -/
abbrev MG0 := D → Rho → Store → Res Rho
abbrev MGs0 := List D → Rho → Store → Res Rho
def gN (i : Nat) : MG0 := fun d ρ S => .ok (ρ.set i (some d)) S
def gsNil : MGs0 := fun ds ρ S => match ds with
  | [] => .ok ρ S
  | _ => .bad
def gsCons (g : MG0) (gs : MGs0) : MGs0 := fun ds ρ S => match ds with
  | d :: r => (g d ρ S).bind fun ρ1 S1 => gs r ρ1 S1
  | [] => .bad
def gTp (n : Nat) (gs : MGs0) : MG0 := fun d ρ S => match d with
  | .tup ds => if ds.length = n then gs ds ρ S else .bad
  | _ => .bad
/-- o[i] = value, o a list of the store -/
def gIx (mo mi : ME0) : MG0 := fun d ρ S => (mo ρ S).bind fun o S1 => (mi ρ S1).bind fun i S2 => match o, i with
  | .ref n, .int k => match lstAt S2 n with
    | some ds => match ixN ds.length k with
      | some j => .ok ρ (S2.set n (.lst (ds.set j d)))
      | none => .bad
    | none => .bad
  | _, _ => .bad
def sAsg (m : ME0) (g : MG0) : MS0 := fun ρ S => (m ρ S).bind fun d S1 => (g d ρ S1).bind fun ρ1 S2 => .ok (.nx, ρ1) S2
/-- an iterator: at turn i over a store: none (not told), or at its end, or an item -/
structure ItD where
  get : Nat → Store → Option (Option D)
abbrev MI0 := Rho → Store → Res ItD
def itL (ds : List D) : ItD := ⟨fun i _ => some ds[i]?⟩
def itS (n : Nat) : ItD := ⟨fun i S => (lstAt S n).map fun ds => ds[i]?⟩
def itR (lo : Int) (n : Nat) : ItD := ⟨fun i _ => some (if i < n then some (.int (lo + i)) else none)⟩
def itE (ds : List D) : ItD := ⟨fun i _ => some (ds[i]?.map fun d => .tup [.int i, d])⟩
def BIG : Nat := 2 ^ 40
theorem BIG_eq : BIG = 2 ^ 40 := rfl
def forL (g : MG0) (b : MS0) : Nat → Nat → ItD → Rho → Store → Res (Fl × Rho)
  | 0, _, _, _, _ => .bad
  | f + 1, i, it, ρ, S => match it.get i S with
    | none => .bad
    | some none => .ok (.nx, ρ) S
    | some (some d) => (g d ρ S).bind fun ρ1 S1 => (b ρ1 S1).bind fun x S2 => match x.1 with
      | .nx => forL g b f (i + 1) it x.2 S2
      | .ct => forL g b f (i + 1) it x.2 S2
      | .bk => .ok (.nx, x.2) S2
      | .rt d => .ok (.rt d, x.2) S2
def sFor (mi : MI0) (g : MG0) (b : MS0) : MS0 := fun ρ S => (mi ρ S).bind fun it S1 => forL g b BIG 0 it ρ S1
def whL (c : MT0) (b : MS0) : Nat → Rho → Store → Res (Fl × Rho)
  | 0, _, _ => .bad
  | f + 1, ρ, S => (c ρ S).bind fun k S1 => if k = true then (b ρ S1).bind fun x S2 => match x.1 with
      | .nx => whL c b f x.2 S2
      | .ct => whL c b f x.2 S2
      | .bk => .ok (.nx, x.2) S2
      | .rt d => .ok (.rt d, x.2) S2
    else .ok (.nx, ρ) S1
def sWhile (c : MT0) (b : MS0) : MS0 := whL c b BIG
/-- comprehensions: nothing raised within -/
def Res.calm {α : Type} : Res α → Res α
  | .exc _ _ => .bad
  | r => r
def wipeD (ρ : Rho) : List Nat → Rho
  | [] => ρ
  | v :: vs => (wipeD ρ vs).set v none
def lcL (g : MG0) (tt : MT0) (te : ME0) : Nat → Nat → ItD → Rho → List D → Store → Res (List D)
  | 0, _, _, _, _, _ => .bad
  | f + 1, i, it, ρ, acc, S => match it.get i S with
    | none => .bad
    | some none => .ok acc S
    | some (some d) => (g d ρ S).calm.bind fun ρ1 S1 => (tt ρ1 S1).calm.bind fun b S2 =>
      if b = true then (te ρ1 S2).calm.bind fun y S3 => if acc.length < sizeLine then lcL g tt te f (i + 1) it ρ (acc ++ [y]) S3 else .bad
      else lcL g tt te f (i + 1) it ρ acc S2
def mLcL (mi : MI0) (g : MG0) (tt : MT0) (te : ME0) (vs : List Nat) : Rho → Store → Res (List D) := fun ρ S => (mi ρ S).bind fun it S1 => lcL g tt te BIG 0 it (wipeD ρ vs) [] S1
def mLc (mi : MI0) (g : MG0) (tt : MT0) (te : ME0) (vs : List Nat) : ME0 := fun ρ S => (mLcL mi g tt te vs ρ S).bind fun ds S1 => .ok (.lst ds) S1
/-- .. a list that may be changed -/
def mLcS (mi : MI0) (g : MG0) (tt : MT0) (te : ME0) (vs : List Nat) : ME0 := fun ρ S => (mLcL mi g tt te vs ρ S).bind fun ds S1 => .ok (.ref S1.length) (S1 ++ [.lst ds])
def mYes : MT0 := fun _ S => .ok true S
def mDef (N : Nat) (b : MS0) : List D → Store → Res D := fun ds S => (b (ds.map some ++ List.replicate (N - ds.length) none) S).bind fun x S1 => match x.1 with
  | .nx => .ok .non S1
  | .rt d => .ok d S1
  | _ => .bad

section
variable {T : List Addr} {X : Cx} {E : XK} {st : Stmt} {sts a b : List Stmt} {e c tg iter : Expr} {me : ME0} {mc : MT0} {m m1 m2 mb : MS0} {pos p : Pos}
theorem SndS.nx {G : Gd} : SndS G E tNext sNx := fun σ H ρ φ R S rs rn => Run.ret (v := Out.nx σ) rs (show RelO G R φ H (.nx, ρ) (.nx σ) from rn) fun Q q => q
theorem mss_nil : MSs T X E [] sNx := ⟨_, pss_nil, SndS.nx⟩
theorem mss_one (h : MS T X E st m) : MSs T X E [st] m := by
  obtain ⟨t, pt, s⟩ := h
  exact ⟨_, pss_one pt, s⟩
theorem mss_cons (h1 : MS T X E st m1) (h2 : MSs T X E sts m2) : MSs T X E (st :: sts) (sSeq m1 m2) := by
  obtain ⟨t, pt, s1⟩ := h1
  obtain ⟨u, pu, s2⟩ := h2
  refine ⟨_, pss_cons pt pu, fun σ H ρ φ R S rs rn => Run.bnd (c' := fun (o : Out) H1 (Q : Out → Hp → Prop) => match o with
    | .nx σ1 => u (endsOf Q) σ1 H1
    | o => Q o H1) (s1 σ H ρ φ R S rs rn) (fun x S1 φ1 o H1 _ l1 rs1 r1 => ?_) fun Q q => q⟩
  obtain ⟨fl, ρ1⟩ := x
  cases fl with
  | nx =>
    cases o with
    | nx σ1 => exact s2 σ1 H1 ρ1 φ1 R S1 rs1 r1
    | _ => exact False.elim r1
  | rt d =>
    cases o with
    | rt v => exact Run.ret (v := Out.rt v) rs1 r1 fun Q q => q
    | _ => exact False.elim r1
  | bk =>
    cases o with
    | bk σ1 => exact Run.ret (v := Out.bk σ1) rs1 r1 fun Q q => q
    | _ => exact False.elim r1
  | ct =>
    cases o with
    | ct σ1 => exact Run.ret (v := Out.ct σ1) rs1 r1 fun Q q => q
    | _ => exact False.elim r1
theorem ms_pass : MS T X E (.Pass pos) sNx := ⟨_, ps_pass, SndS.nx⟩
theorem ms_break : MS T X E (.Break pos) sBk := ⟨_, ps_break, fun σ H ρ φ R S rs rn => Run.ret (v := Out.bk σ) rs (show RelO (X.gd T) R φ H (.bk, ρ) (.bk σ) from rn) fun Q q => q⟩
theorem ms_continue : MS T X E (.Continue pos) sCt := ⟨_, ps_continue, fun σ H ρ φ R S rs rn => Run.ret (v := Out.ct σ) rs (show RelO (X.gd T) R φ H (.ct, ρ) (.ct σ) from rn) fun Q q => q⟩
theorem ms_never : MS T X E st sNever := ⟨_, ps_never, fun σ H ρ φ R S rs rn => Run.bad⟩
theorem ms_expr (h : ME T X E e me) (hs : swapsWith e none pos.line X.env = pure false := by rfl) : MS T X E (.Expr e pos) (sExpr me) := by
  obtain ⟨t, pt, s⟩ := h
  exact ⟨_, ps_expr pt hs, fun σ H ρ φ R S rs rn => Run.bnd (c' := fun _ H1 Q => Q (Out.nx σ) H1) (s σ H ρ φ R S rs rn) fun d S1 φ1 v H1 _ l1 rs1 r1 => Run.ret (v := Out.nx σ) rs1 (show RelO (X.gd T) R φ1 H1 (.nx, ρ) (.nx σ) from rn.le l1) fun Q q => q⟩
theorem ms_ret (h : ME T X E e me) : MS T X E (.Return (some e) pos) (sRet me) := by
  obtain ⟨t, pt, s⟩ := h
  exact ⟨_, ps_ret pt, fun σ H ρ φ R S rs rn => Run.bnd (c' := fun v H1 Q => Q (Out.rt v) H1) (s σ H ρ φ R S rs rn) fun d S1 φ1 v H1 _ l1 rs1 r1 => Run.ret (v := Out.rt v) rs1 (show RelO (X.gd T) R φ1 H1 (.rt d, ρ) (.rt v) from r1) fun Q q => q⟩
theorem ms_retN : MS T X E (.Return none pos) sRetN := ⟨_, ps_retN, fun σ H ρ φ R S rs rn => Run.ret (v := Out.rt .non) rs (show RelO (X.gd T) R φ H (.rt .non, ρ) (.rt .non) from (Rv.non : Rv (X.gd T) R φ H .non .non)) fun Q q => q⟩
theorem ms_if (hc : MT T X E c mc) (ha : MSs T X E a m1) (hb : MSs T X E b m2) : MS T X E (.If c a b pos) (sIf mc m1 m2) := by
  obtain ⟨tc, pc, sc⟩ := hc
  obtain ⟨ta, pa, sa⟩ := ha
  obtain ⟨tb, pb, sb⟩ := hb
  refine ⟨_, ps_if pc pa pb, fun σ H ρ φ R S rs rn => Run.bnd (c' := fun k H1 Q => if k = true then ta (endsOf Q) σ H1 else tb (endsOf Q) σ H1) (sc σ H ρ φ R S rs rn) (fun d S1 φ1 x H1 _ l1 rs1 r1 => ?_) fun Q q => q⟩
  have e1 : d = x := r1
  subst e1
  cases d with
  | true => exact Run.conv (sa σ H1 ρ φ1 R S1 rs1 (rn.le l1)) fun Q q => by rw [if_pos rfl]; exact q
  | false => exact Run.conv (sb σ H1 ρ φ1 R S1 rs1 (rn.le l1)) fun Q q => by rw [if_neg Bool.false_ne_true]; exact q
/-! ### targets -/
abbrev RelR (G : Gd) (R : List Addr) : List Addr → Hp → Rho → L2.St → Prop := fun φ H ρ σ => Rn G R φ H ρ σ
def SndG (G : Gd) (E : XK) (t : TG) (g : MG0) : Prop := ∀ d v σ H ρ φ R S, Rs G R φ S H → Rn G R φ H ρ σ → Rv G R φ H d v → Run G E R φ H (RelR G R) (g d ρ S) (fun Q => t v σ H Q)
def SndGs (G : Gd) (E : XK) (t : TGs) (g : MGs0) : Prop := ∀ ds vs σ H ρ φ R S, Rs G R φ S H → Rn G R φ H ρ σ → RvL G R φ H ds vs → Run G E R φ H (RelR G R) (g ds ρ S) (fun Q => t vs σ H Q)
def MG (T : List Addr) (X : Cx) (E : XK) (tg : Expr) (g : MG0) : Prop := ∃ t, PG X tg t ∧ SndG (X.gd T) E t g
def MGs (T : List Addr) (X : Cx) (E : XK) (tgs : List Expr) (g : MGs0) : Prop := ∃ t, PGs X tgs t ∧ SndGs (X.gd T) E t g
theorem SndG.name {G : Gd} {i : Nat} : SndG G E (gName i) (gN i) := fun d v σ H ρ φ R S rs rn r => Run.ret (v := σ.set i (some v)) rs (rn.set r) fun Q q => q
theorem mg_name {i : Nat} {x : Str} (hN : X.N.Nodup) (hi : X.N[i]? = some x) (hx : Loc X.env.scope x := by first | exact Or.inl rfl | exact Or.inr rfl) (hf : X.fn x = true ∨ X.env.scope.names.lookup x = some .local := by first | exact .inl rfl | exact .inr rfl | assumption) : MG T X E (.Name x pos) (gN i) :=
  ⟨_, pg_name hN hi hx hf, SndG.name⟩
theorem mgs_nil : MGs T X E [] gsNil := ⟨_, pgs_nil, fun ds vs σ H ρ φ R S rs rn r => by
  cases ds with
  | nil =>
    unfold RvL at r
    subst r
    exact Run.ret rs rn fun Q q => ⟨rfl, q⟩
  | cons d ds => exact Run.bad⟩
theorem mgs_cons {es : List Expr} {g : MG0} {gs : MGs0} (h1 : MG T X E e g) (h2 : MGs T X E es gs) (hs : (assignEach (e :: es) X.env).map (·.2) = assign e X.env :: (assignEach es X.env).map (·.2) := by rfl) : MGs T X E (e :: es) (gsCons g gs) := by
  obtain ⟨t, pt, s1⟩ := h1
  obtain ⟨u, pu, s2⟩ := h2
  refine ⟨_, pgs_cons pt pu hs, fun ds vs σ H ρ φ R S rs rn r => ?_⟩
  cases ds with
  | nil => exact Run.bad
  | cons d ds =>
    unfold RvL at r
    obtain ⟨v, vr, rfl, r1, r2⟩ := r
    refine Run.bnd (c' := fun σ1 H1 Q => u vr σ1 H1 Q) (s1 d v σ H ρ φ R S rs rn r1) (fun ρ1 S1 φ1 σ1 H1 _ l1 rs1 q1 => s2 ds vr σ1 H1 ρ1 φ1 R S1 rs1 q1 (RvL.le l1 r2)) fun Q q => ⟨v, vr, rfl, q⟩
theorem mg_tup {es : List Expr} {k n : Nat} {gs : MGs0} (hc : X.calm = true) (h : MGs T X E es gs) (hn : (assignEach es X.env).length = n := by rfl) (hst : (assignEach es X.env).findIdx? (·.1) = none := by rfl) : MG T X E (.Tuple es k pos) (gTp n gs) := by
  obtain ⟨t, pt, s⟩ := h
  refine ⟨_, pg_tup hc pt hn hst, fun d v σ H ρ φ R S rs rn r => ?_⟩
  cases d with
  | tup ds =>
    obtain ⟨a, vs, rfl, h1, h2⟩ := Rv.tup_of r
    show Run (X.gd T) E R φ H _ (if ds.length = n then gs ds ρ S else .bad) _
    by_cases hl : ds.length = n
    · rw [if_pos hl]
      exact Run.conv (s ds vs σ H ρ φ R S rs rn h2) fun Q q => ⟨a, vs, rfl, h1, by rw [← RvL.length h2]; exact hl, q⟩
    · rw [if_neg hl]
      exact Run.bad
  | _ => exact Run.bad
theorem mg_ix {o i : Expr} {mo mi : ME0} (ho : ME T X E o mo) (hi : ME T X E i mi)
    (ha : ∀ v, assign (.Subscript o i pos) X.env v = (do
      let ov ← holding [v] (eval o X.env)
      let iv ← holding [v, ov] (eval i X.env)
      standAt pos
      holding [v, ov, iv] (setItem ov iv v)
      release [v, ov, iv] []) := by intro _; rfl) : MG T X E (.Subscript o i pos) (gIx mo mi) := by
  obtain ⟨to, po, so⟩ := ho
  obtain ⟨ti, pi, si⟩ := hi
  refine ⟨_, pg_sub po pi set_list ha, fun d v σ H ρ φ R S rs rn r => ?_⟩
  refine Run.bnd (c' := fun o H1 Q => ti σ H1 fun i H2 => rSetL o i v H2 fun H3 => Q σ H3) (so σ H ρ φ R S rs rn) (fun o S1 φ1 ov H1 _ l1 rs1 r1 => ?_) fun Q q => q
  refine Run.bnd (c' := fun i H2 Q => rSetL ov i v H2 fun H3 => Q σ H3) (si σ H1 ρ φ1 R S1 rs1 (rn.le l1)) (fun i S2 φ2 iv H2 _ l2 rs2 r2 => ?_) fun Q q => q
  have l12 := l1.trans l2
  cases o with
  | ref n =>
    cases i with
    | int k =>
      show Run (X.gd T) E R φ2 H2 _ (match lstAt S2 n with
        | some ds => match ixN ds.length k with
          | some j => .ok ρ (S2.set n (.lst (ds.set j d)))
          | none => .bad
        | none => .bad) _
      split
      · rename_i ds hds
        split
        · rename_i j hj
          obtain ⟨a, vs, rfl, ha, h1, h2⟩ := rs2.lst (Rv.le l2 r1) (lstAt_of hds)
          have lw : Le φ2 H2 φ2 (upd H2 a (.lst (vs.set j v))) := Le.write rs2 ha
          have rw' := rs2.write (ho := .lst (vs.set j v)) (o := .lst (ds.set j d)) ha ⟨_, upd_same, RvL.set (RvL.le lw h2) (Rv.le (l12.trans lw) r)⟩
          intro Q hq _ _
          refine ⟨a, vs, k, j, rfl, Rv.int_of r2, h1, by rw [← RvL.length h2]; exact hj, ?_⟩
          exact hq ρ _ φ2 σ _ rfl lw rw' (rn.le (l12.trans lw))
        · exact Run.bad
      · exact Run.bad
    | _ => exact Run.bad
  | _ => exact Run.bad
theorem SndS.asg {G : Gd} {te : TE} {t : TG} {g : MG0} (se : SndE G E te me) (sg : SndG G E t g) : SndS G E (tAsg te t) (sAsg me g) := fun σ H ρ φ R S rs rn =>
  Run.bnd (c' := fun v H1 Q => t v σ H1 fun σ1 H2 => Q (Out.nx σ1) H2) (se σ H ρ φ R S rs rn) (fun d S1 φ1 v H1 _ l1 rs1 r1 =>
    Run.bnd (c' := fun σ1 H2 Q => Q (Out.nx σ1) H2) (sg d v σ H1 ρ φ1 R S1 rs1 (rn.le l1) r1) (fun ρ1 S2 φ2 σ1 H2 _ l2 rs2 r2 => Run.ret (v := Out.nx σ1) rs2 (show RelO G R φ2 H2 (.nx, ρ1) (.nx σ1) from r2) fun Q q => q) fun Q q => q) fun Q q => q
theorem ms_asg {g : MG0} (he : ME T X E e me) (hg : MG T X E tg g) (hs : swapsWithSole [tg] e pos.line X.env = pure false := by rfl) (hw : swappedStores [tg] e X.env = pure none := by rfl)
    (h1 : (assignEach [tg] X.env).map (·.2) = [assign tg X.env] := by rfl) : MS T X E (.Assign [tg] e pos) (sAsg me g) := by
  obtain ⟨t, pt, s⟩ := he
  obtain ⟨u, pu, sg⟩ := hg
  exact ⟨_, ps_asg pt pu hs hw h1, SndS.asg s sg⟩
theorem ms_set {i : Nat} {x : Str} {pos' : Pos} (hN : X.N.Nodup) (hi : X.N[i]? = some x) (he : ME T X E e me) (hx : Loc X.env.scope x := by first | exact Or.inl rfl | exact Or.inr rfl) (hs : swapsWith e (some (.Name x pos')) pos.line X.env = pure false := by rfl) (hf : X.fn x = true ∨ X.env.scope.names.lookup x = some .local := by first | exact .inl rfl | exact .inr rfl | assumption) :
    MS T X E (.Assign [.Name x pos'] e pos) (sAsg me (gN i)) := by
  obtain ⟨t, pt, s⟩ := he
  exact ⟨_, ps_set hN hi hx pt hs hf, SndS.asg s SndG.name⟩
/-! ### iterators -/
def RelI (G : Gd) (R : List Addr) : List Addr → Hp → ItD → It → Prop := fun φ0 H0 it J => ∀ R', (∀ a ∈ R', a ∈ R ∨ H0 a = none) → ∀ i φ S H, Le φ0 H0 φ H → Rs G R' φ S H →
  (it.get i S = some none → J.stop i H) ∧ ∀ d, it.get i S = some (some d) → J.go i H ∧ ∀ x H', J.yld i H x H' → Le φ H φ H' ∧ Rs G R' φ S H' ∧ Rv G R' φ H' d x
def SndI (G : Gd) (E : XK) (t : TI) (m : MI0) : Prop := ∀ σ H ρ φ R S, Rs G R φ S H → Rn G R φ H ρ σ → Run G E R φ H (RelI G R) (m ρ S) (fun Q => t σ H Q)
def MI (T : List Addr) (X : Cx) (E : XK) (tg iter : Expr) (m : MI0) : Prop := ∃ t, PI X tg iter t ∧ SndI (X.gd T) E t m
/-- a list, by value or of the store -/
def miL (me : ME0) : MI0 := fun ρ S => (me ρ S).bind fun d S1 => match d with
  | .lst ds => .ok (itL ds) S1
  | .frz ds => .ok (itL ds) S1
  | .ref n => match lstAt S1 n with
    | some _ => .ok (itS n) S1
    | none => .bad
  | _ => .bad
def miT (me : ME0) : MI0 := fun ρ S => (me ρ S).bind fun d S1 => match d with
  | .tup ds => .ok (itL ds) S1
  | _ => .bad
theorem Le.new_same {G : Gd} {R φ : List Addr} {S : Store} {H : Hp} (rs : Rs G R φ S H) : Le φ H φ H ∧ Rs G R φ S H := ⟨Le.refl, rs⟩
theorem relI_list {G : Gd} {R φ : List Addr} {H : Hp} {ds : List D} {vs : List V} {a : Addr} (h : ∀ φ' H', Le φ H φ' H' → SqL G.K H' a vs) (r : RvL G R φ H ds vs) : RelI G R φ H (itL ds) (Itl G.K a) := by
  intro R' hR i φ1 S1 H1 l rs
  refine ⟨fun e => ⟨vs, h _ _ l, ?_⟩, fun d e => ?_⟩
  · have e' : ds[i]? = none := Option.some.inj e
    rw [← RvL.length r]
    exact List.getElem?_eq_none_iff.mp e'
  · have e' : ds[i]? = some d := Option.some.inj e
    obtain ⟨v, e1, e2⟩ := RvL.get r e'
    refine ⟨⟨vs, v, h _ _ l, e1⟩, fun x H' hy => ?_⟩
    obtain ⟨rfl, hy⟩ := hy
    have e3 := hy vs (h _ _ l)
    rw [e1] at e3
    cases e3
    exact ⟨Le.refl, rs, Rv.le l (Rv.reR hR e2)⟩
theorem relI_tup {G : Gd} {R φ : List Addr} {H : Hp} {ds : List D} {vs : List V} {a : Addr} (h : SqT G.K H a vs) (r : RvL G R φ H ds vs) : RelI G R φ H (itL ds) (Itt G.K a) := by
  intro R' hR i φ1 S1 H1 l rs
  refine ⟨fun e => ⟨vs, SqT.le l h, ?_⟩, fun d e => ?_⟩
  · have e' : ds[i]? = none := Option.some.inj e
    rw [← RvL.length r]
    exact List.getElem?_eq_none_iff.mp e'
  · have e' : ds[i]? = some d := Option.some.inj e
    obtain ⟨v, e1, e2⟩ := RvL.get r e'
    refine ⟨⟨vs, v, SqT.le l h, e1⟩, fun x H' hy => ?_⟩
    obtain ⟨rfl, hy⟩ := hy
    have e3 := hy vs (SqT.le l h)
    rw [e1] at e3
    cases e3
    exact ⟨Le.refl, rs, Rv.le l (Rv.reR hR e2)⟩
theorem relI_store {G : Gd} {R φ : List Addr} {H : Hp} {n : Nat} {a : Addr} (h : φ[n]? = some a) : RelI G R φ H (itS n) (Itl G.K a) := by
  intro R' hR i φ1 S1 H1 l rs
  have ha : φ1[n]? = some a := by
    obtain ⟨r, er⟩ := l.pre
    rw [er, List.getElem?_append_left (List.getElem?_eq_some_iff.mp h).1]
    exact h
  have key : ∀ o, (itS n).get i S1 = some o → ∃ ds vs, S1[n]? = some (.lst ds) ∧ ds[i]? = o ∧ H1 a = some (.lst vs) ∧ RvL G R' φ1 H1 ds vs := fun o e => by
    obtain ⟨ds, e1, e2⟩ := Option.map_eq_some_iff.mp (show (lstAt S1 n).map (fun ds => ds[i]?) = some o from e)
    obtain ⟨vs, h1, h2⟩ := rs.obj n _ a (lstAt_of e1) ha
    exact ⟨ds, vs, lstAt_of e1, e2, h1, h2⟩
  refine ⟨fun e => ?_, fun d e => ?_⟩
  · obtain ⟨ds, vs, _, e2, h1, h2⟩ := key _ e
    refine ⟨vs, .inl (.inl h1), ?_⟩
    rw [← RvL.length h2]
    exact List.getElem?_eq_none_iff.mp e2
  · obtain ⟨ds, vs, _, e2, h1, h2⟩ := key _ e
    obtain ⟨v, e3, e4⟩ := RvL.get h2 e2
    refine ⟨⟨vs, v, .inl (.inl h1), e3⟩, fun x H' hy => ?_⟩
    obtain ⟨rfl, hy⟩ := hy
    have e5 := hy vs (.inl (.inl h1))
    rw [e3] at e5
    cases e5
    exact ⟨Le.refl, rs, e4⟩
theorem mi_list (h : ME T X E e me) : MI T X E tg e (miL me) := by
  obtain ⟨t, pt, s⟩ := h
  refine ⟨_, pi_list pt, fun σ H ρ φ R S rs rn => Run.bnd (c' := fun (x : V) H1 Q => ∃ a, x = V.ref a ∧ (∃ xs, SqL X.K H1 a xs) ∧ Q (Itl X.K a) H1) (s σ H ρ φ R S rs rn) (fun d S1 φ1 v H1 _ l1 rs1 r1 => ?_) fun Q q => q⟩
  cases d with
  | lst ds =>
    obtain ⟨a, vs, rfl, n1, n2, h1, h2⟩ := Rv.lst_of r1
    exact Run.ret (v := Itl X.K a) rs1 (relI_list (fun φ' H' l => .inl (.inl (l.keep a _ h1 n1 (fun _ z => nomatch z)).1)) h2) fun Q q => ⟨a, rfl, ⟨vs, .inl (.inl h1)⟩, q⟩
  | frz ds =>
    obtain ⟨a, vs, rfl, h1, h2⟩ := Rv.frz_of r1
    exact Run.ret (v := Itl X.K a) rs1 (relI_list (fun φ' H' l => (Fz.le l h1).sq) h2) fun Q q => ⟨a, rfl, ⟨vs, h1.sq⟩, q⟩
  | ref n =>
    show Run (X.gd T) E R φ1 H1 _ (match lstAt S1 n with
      | some _ => .ok (itS n) S1
      | none => .bad) _
    split
    · rename_i ds hds
      obtain ⟨a, vs, rfl, ha, h1, h2⟩ := rs1.lst r1 (lstAt_of hds)
      exact Run.ret (v := Itl X.K a) rs1 (relI_store ha) fun Q q => ⟨a, rfl, ⟨vs, .inl (.inl h1)⟩, q⟩
    · exact Run.bad
  | _ => exact Run.bad
theorem mi_tup (h : ME T X E e me) : MI T X E tg e (miT me) := by
  obtain ⟨t, pt, s⟩ := h
  refine ⟨_, pi_tup pt, fun σ H ρ φ R S rs rn => Run.bnd (c' := fun (x : V) H1 Q => ∃ a, x = V.ref a ∧ (∃ xs, SqT X.K H1 a xs) ∧ Q (Itt X.K a) H1) (s σ H ρ φ R S rs rn) (fun d S1 φ1 v H1 _ l1 rs1 r1 => ?_) fun Q q => q⟩
  cases d with
  | tup ds =>
    obtain ⟨a, vs, rfl, h1, h2⟩ := Rv.tup_of r1
    exact Run.ret (v := Itt X.K a) rs1 (relI_tup h1 h2) fun Q q => ⟨a, rfl, ⟨vs, h1⟩, q⟩
  | _ => exact Run.bad
def miR1 (ma : MA0) : MI0 := fun ρ S => (ma ρ S).bind fun ds S1 => match ds with
  | [.int j] => if -(2 ^ 62) ≤ j ∧ j < 2 ^ 62 then .ok (itR 0 j.toNat) S1 else .bad
  | _ => .bad
def miR2 (ma : MA0) : MI0 := fun ρ S => (ma ρ S).bind fun ds S1 => match ds with
  | [.int i, .int j] => if -(2 ^ 62) ≤ i ∧ i < 2 ^ 62 ∧ -(2 ^ 62) ≤ j ∧ j < 2 ^ 62 then .ok (itR i (j - i).toNat) S1 else .bad
  | _ => .bad
theorem relI_range {G : Gd} {R φ : List Addr} {H : Hp} {lo : Int} {n : Nat} : RelI G R φ H (itR lo n) (Itr lo n) := by
  intro R' hR i φ1 S1 H1 l rs
  refine ⟨fun e => ?_, fun d e => ?_⟩
  · have e' : (if i < n then some (D.int (lo + i)) else none) = none := Option.some.inj e
    by_cases h : i < n
    · rw [if_pos h] at e'
      cases e'
    · exact Nat.le_of_not_lt h
  · have e' : (if i < n then some (D.int (lo + i)) else none) = some d := Option.some.inj e
    by_cases h : i < n
    · rw [if_pos h] at e'
      cases e'
      refine ⟨h, fun x H' hy => ?_⟩
      obtain ⟨rfl, rfl⟩ := hy
      exact ⟨Le.refl, rs, Rv.int⟩
    · rw [if_neg h] at e'
      cases e'
theorem RvL.one_of {G : Gd} {R φ : List Addr} {H : Hp} {d : D} {vs : List V} (h : RvL G R φ H [d] vs) : ∃ v, vs = [v] ∧ Rv G R φ H d v := by
  unfold RvL at h
  obtain ⟨v, r, rfl, h1, h2⟩ := h
  unfold RvL at h2
  subst h2
  exact ⟨v, rfl, h1⟩
theorem RvL.two_of {G : Gd} {R φ : List Addr} {H : Hp} {d e : D} {vs : List V} (h : RvL G R φ H [d, e] vs) : ∃ v w, vs = [v, w] ∧ Rv G R φ H d v ∧ Rv G R φ H e w := by
  unfold RvL at h
  obtain ⟨v, r, rfl, h1, h2⟩ := h
  obtain ⟨w, rfl, h3⟩ := RvL.one_of h2
  exact ⟨v, w, rfl, h1, h3⟩
theorem mi_range1 {mr : MA0} (hg : Gl X "range") (hm : X.mg "range" = none) (ha : MAn T X E [e] mr) (hs : starEach [e] X.env = [(false, eval e X.env)] := by rfl) : MI T X E tg (.Call (.Name "range" p) [e] [] pos) (miR1 mr) := by
  obtain ⟨⟨t, pt, s⟩, _⟩ := ha
  refine ⟨_, pi_range1 hg hm pt hs, fun σ H ρ φ R S rs rn => Run.bnd (c' := fun (vs : List V) H1 Q => ∃ j : Int, vs = [V.int j] ∧ -(2 ^ 62) ≤ j ∧ j < 2 ^ 62 ∧ Q (Itr 0 j.toNat) H1) (s σ H ρ φ R S rs rn) (fun ds S1 φ1 vs H1 e0 l1 rs1 r1 => ?_) fun Q q => q⟩
  split
  · rename_i j
    obtain ⟨v, rfl, h1⟩ := RvL.one_of r1
    by_cases hj : -(2 ^ 62) ≤ j ∧ j < 2 ^ 62
    · rw [if_pos hj]
      exact Run.ret (v := Itr 0 j.toNat) rs1 relI_range fun Q q => ⟨j, by rw [Rv.int_of h1], hj.1, hj.2, q⟩
    · rw [if_neg hj]
      exact Run.bad
  · exact Run.bad
theorem mi_range2 {e1 e2 : Expr} {mr : MA0} (hg : Gl X "range") (hm : X.mg "range" = none) (ha : MAn T X E [e1, e2] mr) (hs : starEach [e1, e2] X.env = [(false, eval e1 X.env), (false, eval e2 X.env)] := by rfl) (hs2 : starEach [e2] X.env = [(false, eval e2 X.env)] := by rfl) : MI T X E tg (.Call (.Name "range" p) [e1, e2] [] pos) (miR2 mr) := by
  obtain ⟨⟨t, pt, s⟩, _⟩ := ha
  refine ⟨_, pi_range2 hg hm pt hs hs2, fun σ H ρ φ R S rs rn => Run.bnd (c' := fun (vs : List V) H1 Q => ∃ i j : Int, vs = [V.int i, V.int j] ∧ (-(2 ^ 62) ≤ i ∧ i < 2 ^ 62 ∧ -(2 ^ 62) ≤ j ∧ j < 2 ^ 62) ∧ Q (Itr i (j - i).toNat) H1) (s σ H ρ φ R S rs rn) (fun ds S1 φ1 vs H1 e0 l1 rs1 r1 => ?_) fun Q q => q⟩
  split
  · rename_i i j
    obtain ⟨v, w, rfl, h1, h2⟩ := RvL.two_of r1
    by_cases hj : -(2 ^ 62) ≤ i ∧ i < 2 ^ 62 ∧ -(2 ^ 62) ≤ j ∧ j < 2 ^ 62
    · rw [if_pos hj]
      exact Run.ret (v := Itr i (j - i).toNat) rs1 relI_range fun Q q => ⟨i, j, by rw [Rv.int_of h1, Rv.int_of h2], hj, q⟩
    · rw [if_neg hj]
      exact Run.bad
  · exact Run.bad
end
end MM

/-! The mirror layer's rules: loops, comprehensions, defs. -/
namespace MM
open PySem L2
/-! ### loops -/
section
variable {G : Gd} {E : XK} {R φ : List Addr} {S : Store} {H : Hp}
theorem for_run {t : TG} {tb : TS} {g : MG0} {b : MS0} {it : ItD} {J : It} {ρ : Rho} {σ : L2.St} (rel : RelI G R φ H it J) (sg : SndG G E t g) (sb : SndS G E tb b) (rs : Rs G R φ S H) (rn : Rn G R φ H ρ σ) :
    Run G E R φ H (RelO G R) (forL g b BIG 0 it ρ S) (fun Q => ∃ W : Nat → Nat → L2.St → Hp → Prop, (∃ m, W 0 m σ H) ∧ ∀ i m σ H, W i m σ H →
      (J.stop i H ∧ (endsOf Q).nx σ H) ∨ (J.go i H ∧ ∃ N : L2.St → Hp → Prop, (∀ σ' H', N σ' H' → ∃ m', m' < m ∧ W (i + 1) m' σ' H') ∧ ∀ x H', J.yld i H x H' → t x σ H' fun σ2 H2 => tb { (endsOf Q) with nx := N, ct := N, bk := (endsOf Q).nx } σ2 H2)) := by
  intro Q hq he hb
  refine ⟨fun i m σ' H' => ∃ φ' ρ' S', Le φ H φ' H' ∧ Rs G R φ' S' H' ∧ Rn G R φ' H' ρ' σ' ∧ forL g b m i it ρ' S' = forL g b BIG 0 it ρ S, ⟨BIG, φ, ρ, S, Le.refl, rs, rn, rfl⟩, fun i m σ1 H1 hW => ?_⟩
  obtain ⟨φ1, ρ1, S1, l1, rs1, rn1, e⟩ := hW
  cases m with
  | zero => exact (hb e.symm).elim
  | succ f =>
    obtain ⟨r0, r1⟩ := rel R (fun _ h => .inl h) i φ1 S1 H1 l1 rs1
    cases hg : it.get i S1 with
    | none =>
      have : forL g b (f + 1) i it ρ1 S1 = .bad := by unfold forL; rw [hg]
      exact (hb (e.symm.trans this)).elim
    | some o =>
      cases o with
      | none =>
        have z : forL g b (f + 1) i it ρ1 S1 = .ok (.nx, ρ1) S1 := by unfold forL; rw [hg]
        exact .inl ⟨r0 hg, hq _ S1 φ1 (Out.nx σ1) H1 (e.symm.trans z) l1 rs1 rn1⟩
      | some d =>
        have z : forL g b (f + 1) i it ρ1 S1 = ((g d ρ1 S1).bind fun ρ2 S2 => (b ρ2 S2).bind fun x S3 => match x.1 with
            | .nx => forL g b f (i + 1) it x.2 S3
            | .ct => forL g b f (i + 1) it x.2 S3
            | .bk => .ok (.nx, x.2) S3
            | .rt d => .ok (.rt d, x.2) S3) := by
          conv => lhs; unfold forL
          rw [hg]
          try rfl
        rw [e] at z
        obtain ⟨r2, r3⟩ := r1 d hg
        refine .inr ⟨r2, fun σ' H' => ∃ φ' ρ' S', Le φ H φ' H' ∧ Rs G R φ' S' H' ∧ Rn G R φ' H' ρ' σ' ∧ forL g b f (i + 1) it ρ' S' = forL g b BIG 0 it ρ S, fun σ' H' hN => ⟨f, Nat.lt_succ_self f, hN⟩, fun x H2 hy => ?_⟩
        obtain ⟨l2, rs2, rv⟩ := r3 x H2 hy
        have l12 := l1.trans l2
        refine sg d x σ1 H2 ρ1 φ1 R S1 rs2 (rn1.le l2) rv (fun σ2 H3 => tb _ σ2 H3) (fun ρ2 S2 φ2 σ2 H3 e2 l3 rs3 rn3 => ?_) (fun er S2 φ2 H3 cl dd e2 l3 rs3 xq => he er S2 φ2 H3 cl dd (by rw [z, e2]; rfl) (l12.trans l3) rs3 xq) (fun e2 => hb (by rw [z, e2]; rfl))
        have z2 := z
        rw [e2, Res.bind_ok] at z2
        have l13 := l12.trans l3
        refine sb σ2 H3 ρ2 φ2 R S2 rs3 rn3 (fun o H4 => match o with
          | .nx σ' => ∃ φ' ρ' S', Le φ H φ' H4 ∧ Rs G R φ' S' H4 ∧ Rn G R φ' H4 ρ' σ' ∧ forL g b f (i + 1) it ρ' S' = forL g b BIG 0 it ρ S
          | .ct σ' => ∃ φ' ρ' S', Le φ H φ' H4 ∧ Rs G R φ' S' H4 ∧ Rn G R φ' H4 ρ' σ' ∧ forL g b f (i + 1) it ρ' S' = forL g b BIG 0 it ρ S
          | .bk σ' => Q (.nx σ') H4
          | .rt v => Q (.rt v) H4) (fun y S3 φ3 o H4 e3 l4 rs4 ro => ?_) (fun er S3 φ3 H4 cl dd e3 l4 rs4 xq => he er S3 φ3 H4 cl dd (by rw [z2, e3]; rfl) (l13.trans l4) rs4 xq) (fun e3 => hb (by rw [z2, e3]; rfl))
        obtain ⟨fl, ρ3⟩ := y
        rw [e3, Res.bind_ok] at z2
        cases fl with
        | nx =>
          cases o with
          | nx σ3 => exact ⟨φ3, ρ3, S3, l13.trans l4, rs4, ro, z2.symm⟩
          | _ => exact False.elim ro
        | ct =>
          cases o with
          | ct σ3 => exact ⟨φ3, ρ3, S3, l13.trans l4, rs4, ro, z2.symm⟩
          | _ => exact False.elim ro
        | bk =>
          cases o with
          | bk σ3 => exact hq _ S3 φ3 (Out.nx σ3) H4 z2 (l13.trans l4) rs4 ro
          | _ => exact False.elim ro
        | rt d =>
          cases o with
          | rt v => exact hq _ S3 φ3 (Out.rt v) H4 z2 (l13.trans l4) rs4 ro
          | _ => exact False.elim ro
theorem wh_run {tc : TT} {tb : TS} {c : MT0} {b : MS0} {ρ : Rho} {σ : L2.St} (sc : SndT G E tc c) (sb : SndS G E tb b) (rs : Rs G R φ S H) (rn : Rn G R φ H ρ σ) :
    Run G E R φ H (RelO G R) (whL c b BIG ρ S) (fun Q => tWhile tc tb (endsOf Q) σ H) := by
  intro Q hq he hb
  refine ⟨fun m σ' H' => ∃ φ' ρ' S', Le φ H φ' H' ∧ Rs G R φ' S' H' ∧ Rn G R φ' H' ρ' σ' ∧ whL c b m ρ' S' = whL c b BIG ρ S, ⟨BIG, φ, ρ, S, Le.refl, rs, rn, rfl⟩, fun m σ1 H1 hW => ?_⟩
  obtain ⟨φ1, ρ1, S1, l1, rs1, rn1, e⟩ := hW
  cases m with
  | zero => exact (hb e.symm).elim
  | succ f =>
    have z : whL c b (f + 1) ρ1 S1 = ((c ρ1 S1).bind fun k S2 => if k = true then (b ρ1 S2).bind fun x S3 => match x.1 with
            | .nx => whL c b f x.2 S3
            | .ct => whL c b f x.2 S3
            | .bk => .ok (.nx, x.2) S3
            | .rt d => .ok (.rt d, x.2) S3
          else .ok (.nx, ρ1) S2) := by
      conv => lhs; unfold whL
      try rfl
    rw [e] at z
    refine sc σ1 H1 ρ1 φ1 R S1 rs1 rn1 _ (fun k S2 φ2 k' H2 e2 l2 rs2 ek => ?_) (fun er S2 φ2 H2 cl dd e2 l2 rs2 xq => he er S2 φ2 H2 cl dd (by rw [z, e2]; rfl) (l1.trans l2) rs2 xq) (fun e2 => hb (by rw [z, e2]; rfl))
    have ek' : k = k' := ek
    subst ek'
    have z2 := z
    rw [e2, Res.bind_ok] at z2
    have l12 := l1.trans l2
    cases k with
    | false =>
      rw [if_neg Bool.false_ne_true] at z2 ⊢
      exact hq _ S2 φ2 (Out.nx σ1) H2 z2 l12 rs2 (rn1.le l2)
    | true =>
      rw [if_pos rfl] at z2 ⊢
      refine ⟨fun σ' H' => ∃ φ' ρ' S', Le φ H φ' H' ∧ Rs G R φ' S' H' ∧ Rn G R φ' H' ρ' σ' ∧ whL c b f ρ' S' = whL c b BIG ρ S, fun σ' H' hN => ⟨f, Nat.lt_succ_self f, hN⟩, ?_⟩
      refine sb σ1 H2 ρ1 φ2 R S2 rs2 (rn1.le l2) (fun o H4 => match o with
          | .nx σ' => ∃ φ' ρ' S', Le φ H φ' H4 ∧ Rs G R φ' S' H4 ∧ Rn G R φ' H4 ρ' σ' ∧ whL c b f ρ' S' = whL c b BIG ρ S
          | .ct σ' => ∃ φ' ρ' S', Le φ H φ' H4 ∧ Rs G R φ' S' H4 ∧ Rn G R φ' H4 ρ' σ' ∧ whL c b f ρ' S' = whL c b BIG ρ S
          | .bk σ' => Q (.nx σ') H4
          | .rt v => Q (.rt v) H4) (fun y S3 φ3 o H4 e3 l4 rs4 ro => ?_) (fun er S3 φ3 H4 cl dd e3 l4 rs4 xq => he er S3 φ3 H4 cl dd (by rw [z2, e3]; rfl) (l12.trans l4) rs4 xq) (fun e3 => hb (by rw [z2, e3]; rfl))
      obtain ⟨fl, ρ3⟩ := y
      rw [e3, Res.bind_ok] at z2
      cases fl with
      | nx =>
        cases o with
        | nx σ3 => exact ⟨φ3, ρ3, S3, l12.trans l4, rs4, ro, z2.symm⟩
        | _ => exact False.elim ro
      | ct =>
        cases o with
        | ct σ3 => exact ⟨φ3, ρ3, S3, l12.trans l4, rs4, ro, z2.symm⟩
        | _ => exact False.elim ro
      | bk =>
        cases o with
        | bk σ3 => exact hq _ S3 φ3 (Out.nx σ3) H4 z2 (l12.trans l4) rs4 ro
        | _ => exact False.elim ro
      | rt d =>
        cases o with
        | rt v => exact hq _ S3 φ3 (Out.rt v) H4 z2 (l12.trans l4) rs4 ro
        | _ => exact False.elim ro
end
section
variable {T : List Addr} {X : Cx} {E : XK} {st : Stmt} {body : List Stmt} {c tg iter elt : Expr} {ifs : List Expr} {me : ME0} {mc : MT0} {m mb : MS0} {mi : MI0} {g : MG0} {pos p : Pos}
theorem ms_for (hp : PassesOwn (model X.prog X.w) X.A X.env X.xe) (hc : X.calm = true) (hi : MI T X E tg iter mi) (hg : MG T X E tg g) (hb : MSs T X E body mb) (hs : ∀ x, foldedSetIterable iter X.env x = pure x := by intro _; rfl) : MS T X E (.For tg iter body [] pos) (sFor mi g mb) := by
  obtain ⟨ti, pi, si⟩ := hi
  obtain ⟨t, pt, sg⟩ := hg
  obtain ⟨tb, pb, sb⟩ := hb
  exact ⟨_, ps_for hp hc pi pt pb hs, fun σ H ρ φ R S rs rn => Run.bnd (c' := fun (J : It) H1 (Q : Out → Hp → Prop) => ∃ W : Nat → Nat → L2.St → Hp → Prop, (∃ m, W 0 m σ H1) ∧ ∀ i m σ H, W i m σ H →
      (J.stop i H ∧ (endsOf Q).nx σ H) ∨ (J.go i H ∧ ∃ N : L2.St → Hp → Prop, (∀ σ' H', N σ' H' → ∃ m', m' < m ∧ W (i + 1) m' σ' H') ∧ ∀ x H', J.yld i H x H' → t x σ H' fun σ2 H2 => tb { (endsOf Q) with nx := N, ct := N, bk := (endsOf Q).nx } σ2 H2)) (si σ H ρ φ R S rs rn) (fun it S1 φ1 J H1 e0 l1 rs1 r1 => for_run r1 sg sb rs1 (rn.le l1)) fun Q q => q⟩
theorem ms_while (hp : PassesOwn (model X.prog X.w) X.A X.env X.xe) (hc : MT T X E c mc) (hb : MSs T X E body mb) : MS T X E (.While c body [] pos) (sWhile mc mb) := by
  obtain ⟨tc, pc, sc⟩ := hc
  obtain ⟨tb, pb, sb⟩ := hb
  exact ⟨_, ps_while hp pc pb, fun σ H ρ φ R S rs rn => wh_run sc sb rs rn⟩
/-! ### one reading for many places -/
theorem PE.weak {t t' : TE} {e : Expr} (h : PE X e t) (w : ∀ σ H Q, t' σ H Q → t σ H Q) : PE X e t' := ⟨fun pins s σ H Q I q => h.run pins s σ H Q I (w σ H Q q)⟩
theorem PTs.weak {t t' : TT} {es : List Expr} (h : PTs X es t) (w : ∀ σ H Q, t' σ H Q → t σ H Q) : PTs X es t' := ⟨fun pins s σ H Q I q => h.run pins s σ H Q I (w σ H Q q)⟩
theorem PG.weak {t t' : TG} {e : Expr} (h : PG X e t) (w : ∀ v σ H Q, t' v σ H Q → t v σ H Q) : PG X e t' := ⟨fun pins s σ H v u Q I r q => h.run pins s σ H v u Q I r (w v σ H Q q)⟩
end
section
variable {ι : Type} {XX : ι → Cx} {G : Gd} {E : XK} {e : Expr} {es : List Expr}
theorem Run.all {α β : Type} {R φ : List Addr} {H : Hp} {rel : List Addr → Hp → β → α → Prop} {r : Res β} {c : ι → (α → Hp → Prop) → Prop} (h : ∀ i, Run G E R φ H rel r (c i)) : Run G E R φ H rel r (fun Q => ∀ i, c i Q) :=
  fun Q hq he hb i => h i Q hq he hb
theorem all_E {m : ME0} (h : ∀ i, ∃ t, PE (XX i) e t ∧ SndE G E t m) : ∃ t, (∀ i, PE (XX i) e t) ∧ SndE G E t m := by
  refine ⟨fun σ H Q => ∀ i, Classical.choose (h i) σ H Q, fun i => PE.weak (Classical.choose_spec (h i)).1 fun σ H Q q => q i, fun σ H ρ φ R S rs rn => Run.all fun i => (Classical.choose_spec (h i)).2 σ H ρ φ R S rs rn⟩
theorem all_T {m : MT0} (h : ∀ i, ∃ t, PTs (XX i) es t ∧ SndT G E t m) : ∃ t, (∀ i, PTs (XX i) es t) ∧ SndT G E t m := by
  refine ⟨fun σ H Q => ∀ i, Classical.choose (h i) σ H Q, fun i => PTs.weak (Classical.choose_spec (h i)).1 fun σ H Q q => q i, fun σ H ρ φ R S rs rn => Run.all fun i => (Classical.choose_spec (h i)).2 σ H ρ φ R S rs rn⟩
end
/-! ### comprehensions -/
/-- targets of a comprehension: names, and tuples of names; the slots they store -/
def MTs (T : List Addr) (X : Cx) (E : XK) (ifs : List Expr) (m : MT0) : Prop := ∃ t, PTs X ifs t ∧ SndT (X.gd T) E t m
theorem mts_nil {T : List Addr} {X : Cx} {E : XK} : MTs T X E [] mYes := ⟨_, pts_nil, fun σ H ρ φ R S rs rn => Run.ret rs rfl fun Q q => q⟩
theorem mts_one {T : List Addr} {X : Cx} {E : XK} {c : Expr} {m : MT0} (h : MT T X E c m) : MTs T X E [c] m := by
  obtain ⟨t, pt, s⟩ := h
  exact ⟨_, pts_one pt, s⟩
/-- a target that stores the slots vs alone -/
def WipesG (g : TG) (vs : List Nat) : Prop := ∀ v σ H Q Q', (∀ σ2 H2, wipe σ2 vs = wipe σ vs → Q σ2 H2 → Q' σ2 H2) → g v σ H Q → g v σ H Q'
def WipesGs (g : TGs) (vs : List Nat) : Prop := ∀ us σ H Q Q', (∀ σ2 H2, wipe σ2 vs = wipe σ vs → Q σ2 H2 → Q' σ2 H2) → g us σ H Q → g us σ H Q'
theorem wipe_set {σ : L2.St} {i : Nat} {o : Option V} : ∀ {vs : List Nat}, i ∈ vs → wipe (σ.set i o) vs = wipe σ vs
  | [], h => nomatch h
  | v :: vs, h => by
    show (wipe (σ.set i o) vs).set v none = (wipe σ vs).set v none
    by_cases hm : i ∈ vs
    · rw [wipe_set hm]
    · have e : i = v := (List.mem_cons.mp h).resolve_right hm
      subst e
      clear h
      have key : ∀ (us : List Nat), i ∉ us → wipe (σ.set i o) us = (wipe σ us).set i o := by
        intro us
        induction us with
        | nil => intro _; rfl
        | cons u us ih =>
          intro hu
          have h1 : i ≠ u := fun z => hu (by rw [z]; exact List.mem_cons_self)
          show (wipe (σ.set i o) us).set u none = ((wipe σ us).set u none).set i o
          rw [ih fun z => hu (List.mem_cons_of_mem _ z), List.set_comm _ _ h1]
      rw [key vs hm, List.set_set]
theorem wipe_idem {σ : L2.St} {vs : List Nat} : wipe (wipe σ vs) vs = wipe σ vs := by
  have key : ∀ us : List Nat, (∀ u ∈ us, u ∈ vs) → wipe (wipe σ us) vs = wipe σ vs := by
    intro us
    induction us with
    | nil => intro _; rfl
    | cons u us ih =>
      intro h
      show wipe ((wipe σ us).set u none) vs = wipe σ vs
      rw [wipe_set (h u List.mem_cons_self)]
      exact ih fun w hw => h w (List.mem_cons_of_mem _ hw)
  exact key vs fun _ h => h
theorem Rn.wipe {G : Gd} {R φ : List Addr} {H : Hp} {ρ : Rho} {σ : L2.St} (r : Rn G R φ H ρ σ) : ∀ vs : List Nat, Rn G R φ H (wipeD ρ vs) (L2.wipe σ vs)
  | [] => r
  | v :: vs => (Rn.wipe r vs).set_none
theorem wipes_name {i : Nat} {vs : List Nat} (h : i ∈ vs) : WipesG (gName i) vs := fun v σ H Q Q' hq q => hq _ _ (wipe_set h) q
theorem wipes_nil {vs : List Nat} : WipesGs gNil vs := fun us σ H Q Q' hq q => ⟨q.1, hq _ _ rfl q.2⟩
theorem wipes_cons {t : TG} {u : TGs} {vs : List Nat} (h1 : WipesG t vs) (h2 : WipesGs u vs) : WipesGs (gCons t u) vs := fun us σ H Q Q' hq q => by
  obtain ⟨v, r, e, q⟩ := q
  exact ⟨v, r, e, h1 v σ H _ _ (fun σ2 H2 e2 q2 => h2 r σ2 H2 _ _ (fun σ3 H3 e3 q3 => hq σ3 H3 (e3.trans e2) q3) q2) q⟩
theorem wipes_tup {K : PySem.W.Frag} {n : Nat} {t : TGs} {vs : List Nat} (h : WipesGs t vs) : WipesG (gTup K n t) vs := fun v σ H Q Q' hq q => by
  obtain ⟨a, xs, e, h1, h2, q⟩ := q
  exact ⟨a, xs, e, h1, h2, h xs σ H _ _ hq q⟩
/-- a comprehension's target -/
structure MGc (T : List Addr) (X : Cx) (E : XK) (tg : Expr) (vs : List Nat) (t : TG) (g : MG0) : Prop where
  pg : PG X tg t
  snd : SndG (X.gd T) E t g
  wip : WipesG t vs
structure MGcs (T : List Addr) (X : Cx) (E : XK) (tgs : List Expr) (vs : List Nat) (t : TGs) (g : MGs0) : Prop where
  pg : PGs X tgs t
  snd : SndGs (X.gd T) E t g
  wip : WipesGs t vs
section
variable {T : List Addr} {X : Cx} {E : XK} {pos : Pos} {vs : List Nat}
theorem mgc_name {i : Nat} {x : Str} (hN : X.N.Nodup) (hi : X.N[i]? = some x) (hv : i ∈ vs) (hx : Loc X.env.scope x := by first | exact Or.inl rfl | exact Or.inr rfl) (hf : X.fn x = true ∨ X.env.scope.names.lookup x = some .local := by first | exact .inl rfl | exact .inr rfl | assumption) : MGc T X E (.Name x pos) vs (gName i) (gN i) :=
  ⟨pg_name hN hi hx hf, SndG.name, wipes_name hv⟩
theorem mgcs_nil : MGcs T X E [] vs gNil gsNil := ⟨pgs_nil, fun ds us σ H ρ φ R S rs rn r => by
  cases ds with
  | nil =>
    unfold RvL at r
    subst r
    exact Run.ret rs rn fun Q q => ⟨rfl, q⟩
  | cons d ds => exact Run.bad, wipes_nil⟩
theorem mgcs_cons {e : Expr} {es : List Expr} {t : TG} {u : TGs} {g : MG0} {gs : MGs0} (h1 : MGc T X E e vs t g) (h2 : MGcs T X E es vs u gs) (hs : (assignEach (e :: es) X.env).map (·.2) = assign e X.env :: (assignEach es X.env).map (·.2) := by rfl) : MGcs T X E (e :: es) vs (gCons t u) (gsCons g gs) := by
  refine ⟨pgs_cons h1.pg h2.pg hs, fun ds us σ H ρ φ R S rs rn r => ?_, wipes_cons h1.wip h2.wip⟩
  cases ds with
  | nil => exact Run.bad
  | cons d ds =>
    unfold RvL at r
    obtain ⟨v, vr, rfl, r1, r2⟩ := r
    refine Run.bnd (c' := fun σ1 H1 Q => u vr σ1 H1 Q) (h1.snd d v σ H ρ φ R S rs rn r1) (fun ρ1 S1 φ1 σ1 H1 _ l1 rs1 q1 => h2.snd ds vr σ1 H1 ρ1 φ1 R S1 rs1 q1 (RvL.le l1 r2)) fun Q q => ⟨v, vr, rfl, q⟩
theorem mgc_tup {es : List Expr} {k n : Nat} {t : TGs} {gs : MGs0} (hc : X.calm = true) (h : MGcs T X E es vs t gs) (hn : (assignEach es X.env).length = n := by rfl) (hst : (assignEach es X.env).findIdx? (·.1) = none := by rfl) : MGc T X E (.Tuple es k pos) vs (gTup X.K n t) (gTp n gs) := by
  refine ⟨pg_tup hc h.pg hn hst, fun d v σ H ρ φ R S rs rn r => ?_, wipes_tup h.wip⟩
  cases d with
  | tup ds =>
    obtain ⟨a, us, rfl, h1, h2⟩ := Rv.tup_of r
    show Run (X.gd T) E R φ H _ (if ds.length = n then gs ds ρ S else .bad) _
    by_cases hl : ds.length = n
    · rw [if_pos hl]
      exact Run.conv (h.snd ds us σ H ρ φ R S rs rn h2) fun Q q => ⟨a, us, rfl, h1, by rw [← RvL.length h2]; exact hl, q⟩
    · rw [if_neg hl]
      exact Run.bad
  | _ => exact Run.bad
end
section
variable {G : Gd} {E : XK} {R φ : List Addr} {S : Store} {H : Hp}
theorem Res.calm_ok {α : Type} {r : Res α} {a : α} {S : Store} (h : r.calm = .ok a S) : r = .ok a S := by
  cases r with
  | ok b S' => exact h
  | exc e S' => cases h
  | bad => cases h
/-- nothing raised -/
theorem Run.calm {α β : Type} {rel : List Addr → Hp → β → α → Prop} {r : Res β} {c : (α → Hp → Prop) → Prop} (h : Run G E0 R φ H rel r c) : Run G E R φ H rel r.calm c := by
  intro Q hq he hb
  cases r with
  | ok b S' => exact h Q hq (fun e S' φ' H' cl d z => nomatch z) hb
  | exc e S' => exact (hb rfl).elim
  | bad => exact (hb rfl).elim
theorem lc_run {t : TG} {tt : TT} {te : TE} {g : MG0} {mt : MT0} {me : ME0} {it : ItD} {J : It} {ρ : Rho} {σ : L2.St} {vs : List Nat} (rel : RelI G R φ H it J) (sg : SndG G E0 t g) (wg : WipesG t vs) (st : SndT G E0 tt mt) (se : SndE G E0 te me) (rs : Rs G R φ S H) (rn : Rn G R φ H ρ σ) (Q : VK)
    (hq : ∀ ds S' φ' D us H', lcL g mt me BIG 0 it (wipeD ρ vs) [] S = .ok ds S' → H D = none → Le φ H φ' H' → Rs G (D :: R) φ' S' H' → H' D = some (.lst us) → RvL G (D :: R) φ' H' ds us → Q (.ref D) H') (hb : lcL g mt me BIG 0 it (wipeD ρ vs) [] S ≠ .bad) :
    ∀ D, H D = none → ∃ W : Nat → Nat → Hp → Prop, (∃ m, W 0 m (upd H D (.lst []))) ∧ ∀ i m H, W i m H →
      (J.stop i H ∧ Q (.ref D) H) ∨ (J.go i H ∧ ∃ Nx : Hp → Prop, (∀ H', Nx H' → ∃ m', m' < m ∧ W (i + 1) m' H') ∧ ∀ x H', J.yld i H x H' → t x (wipe σ vs) H' fun σ2 H2 => wipe σ2 vs = wipe σ vs ∧ tt σ2 H2 fun b H3 =>
        if b = true then te σ2 H3 fun y H4 => ∃ acc, H4 D = some (.lst acc) ∧ acc.length < sizeLine ∧ Nx (upd H4 D (.lst (acc ++ [y]))) else Nx H3) := by
  intro D hD
  have hR : ∀ a ∈ D :: R, a ∈ R ∨ H a = none := fun a ha => (List.mem_cons.mp ha).elim (fun z => .inr (by rw [z]; exact hD)) .inl
  have frD := rs.fresh hD
  have rn0 : Rn G (D :: R) φ H (wipeD ρ vs) (wipe σ vs) := (rn.reR hR).wipe vs
  -- the state at a turn
  refine ⟨fun i m H' => ∃ φ' S' ds us, Le φ H φ' H' ∧ Rs G (D :: R) φ' S' H' ∧ H' D = some (.lst us) ∧ RvL G (D :: R) φ' H' ds us ∧ lcL g mt me m i it (wipeD ρ vs) ds S' = lcL g mt me BIG 0 it (wipeD ρ vs) [] S, ⟨BIG, φ, S, [], [], Le.new rs hD, rs.reserve hD, upd_same, RvL.nil, rfl⟩, fun i m H1 hW => ?_⟩
  obtain ⟨φ1, S1, ds, us, l1, rs1, hd1, rv1, e⟩ := hW
  cases m with
  | zero => exact (hb e.symm).elim
  | succ f =>
    obtain ⟨r0, r1⟩ := rel (D :: R) hR i φ1 S1 H1 l1 rs1
    cases hg : it.get i S1 with
    | none =>
      have : lcL g mt me (f + 1) i it (wipeD ρ vs) ds S1 = .bad := by unfold lcL; rw [hg]
      exact (hb (e.symm.trans this)).elim
    | some o =>
      cases o with
      | none =>
        have z : lcL g mt me (f + 1) i it (wipeD ρ vs) ds S1 = .ok ds S1 := by unfold lcL; rw [hg]
        exact .inl ⟨r0 hg, hq ds S1 φ1 D us H1 (e.symm.trans z) hD l1 rs1 hd1 rv1⟩
      | some d =>
        have z : lcL g mt me (f + 1) i it (wipeD ρ vs) ds S1 = ((g d (wipeD ρ vs) S1).calm.bind fun ρ1 S2 => (mt ρ1 S2).calm.bind fun b S3 =>
            if b = true then (me ρ1 S3).calm.bind fun y S4 => if ds.length < sizeLine then lcL g mt me f (i + 1) it (wipeD ρ vs) (ds ++ [y]) S4 else .bad
            else lcL g mt me f (i + 1) it (wipeD ρ vs) ds S3) := by
          conv => lhs; unfold lcL
          rw [hg]
        rw [e] at z
        obtain ⟨r2, r3⟩ := r1 d hg
        refine .inr ⟨r2, fun H' => ∃ φ' S' ds us, Le φ H φ' H' ∧ Rs G (D :: R) φ' S' H' ∧ H' D = some (.lst us) ∧ RvL G (D :: R) φ' H' ds us ∧ lcL g mt me f (i + 1) it (wipeD ρ vs) ds S' = lcL g mt me BIG 0 it (wipeD ρ vs) [] S, fun H' hN => ⟨f, Nat.lt_succ_self f, hN⟩, fun x H2 hy => ?_⟩
        obtain ⟨l2, rs2, rv⟩ := r3 x H2 hy
        have l12 := l1.trans l2
        have k12 : ∀ {φ' H'}, Le φ1 H1 φ' H' → H' D = some (.lst us) := fun {φ' H'} l => (l.keep D _ hd1 (fun z => rs1.apart D z List.mem_cons_self) (fun _ z => nomatch z)).1
        have g1 := Run.calm (E := fun _ _ _ => True) (sg d x (wipe σ vs) H2 (wipeD ρ vs) φ1 (D :: R) S1 rs2 (rn0.le l12) rv)
        refine wg x (wipe σ vs) H2 (fun σ2 H3 => ∃ ρ2 S2 φ2, (g d (wipeD ρ vs) S1).calm = .ok ρ2 S2 ∧ Le φ1 H2 φ2 H3 ∧ Rs G (D :: R) φ2 S2 H3 ∧ Rn G (D :: R) φ2 H3 ρ2 σ2) _ (fun σ2 H3 ew hw => ⟨ew.trans wipe_idem, ?_⟩)
          (g1 _ (fun ρ2 S2 φ2 σ2 H3 e2 l3 rs3 rn3 => ⟨ρ2, S2, φ2, e2, l3, rs3, rn3⟩) (fun _ _ _ _ _ _ _ _ _ _ => trivial) (fun e2 => hb (by rw [z, e2]; rfl)))
        obtain ⟨ρ2, S2, φ2, e2, l3, rs3, rn3⟩ := hw
        have z2 := z
        rw [e2, Res.bind_ok] at z2
        refine Run.calm (E := fun _ _ _ => True) (st σ2 H3 ρ2 φ2 (D :: R) S2 rs3 rn3) _ (fun b S3 φ3 b' H4 e3 l4 rs4 eb => ?_) (fun _ _ _ _ _ _ _ _ _ _ => trivial) (fun e3 => hb (by rw [z2, e3]; rfl))
        have eb' : b = b' := eb
        subst eb'
        have z3 := z2
        rw [e3, Res.bind_ok] at z3
        have l14 : Le φ1 H1 φ3 H4 := l2.trans (l3.trans l4)
        cases b with
        | false =>
          rw [if_neg Bool.false_ne_true] at z3 ⊢
          exact ⟨φ3, S3, ds, us, l1.trans l14, rs4, k12 l14, RvL.le l14 rv1, z3.symm⟩
        | true =>
          rw [if_pos rfl] at z3 ⊢
          refine Run.calm (E := fun _ _ _ => True) (se σ2 H4 ρ2 φ3 (D :: R) S3 rs4 (rn3.le l4)) _ (fun y S4 φ4 w H5 e4 l5 rs5 ry => ?_) (fun _ _ _ _ _ _ _ _ _ _ => trivial) (fun e4 => hb (by rw [z3, e4]; rfl))
          rw [e4, Res.bind_ok] at z3
          have l15 : Le φ1 H1 φ4 H5 := l14.trans l5
          have hd5 := k12 l15
          have np : D ∉ φ4 := fun q => rs5.apart D q List.mem_cons_self
          by_cases hl : ds.length < sizeLine
          · rw [if_pos hl] at z3
            -- the list grows
            have lw : ∀ {o : HO} (b : Addr) (u : HO), H5 b = some u → b ≠ D → (upd H5 D o) b = some u := fun b u e5 nb => by rw [upd_ne nb]; exact e5
            have reLe : Le φ H φ4 (upd H5 D (.lst (us ++ [w]))) := by
              have l05 := l1.trans l15
              refine ⟨l05.pre, fun b u eb nb q => ?_, fun b ws eb => ?_, fun b eb => ?_, fun b tb => ?_⟩
              · have nb' : b ≠ D := ne_of_none eb hD
                exact ⟨lw b u (l05.keep b u eb nb q).1 nb', (l05.keep b u eb nb q).2⟩
              · have q := l05.tups b ws eb
                have nb' : b ≠ D := by
                  rintro rfl
                  rcases eb with eb | ⟨_, eb⟩ <;> rw [hD] at eb <;> cases eb
                rcases q with q | ⟨ob, q⟩
                · exact .inl (lw b _ q nb')
                · exact .inr ⟨ob, lw b _ q nb'⟩
              · by_cases nb' : b = D
                · subst nb'
                  exact (eb hD).elim
                · rw [upd_ne nb']
                  exact l05.ne b eb
              · obtain ⟨ps, e9, t9⟩ := l05.tab b tb
                exact ⟨ps, lw b _ e9 (ne_of e9 hd5 (fun z => nomatch z)), t9⟩
            have le5 : ∀ {d : MM.D} {v : V}, Rv G (D :: R) φ4 H5 d v → Rv G (D :: R) φ4 (upd H5 D (.lst (us ++ [w]))) d v := fun {d v} r => Rv.upR (fun b u eb nb => lw b u eb nb) hd5 List.mem_cons_self r
            have le5L : ∀ {d : List MM.D} {v : List V}, RvL G (D :: R) φ4 H5 d v → RvL G (D :: R) φ4 (upd H5 D (.lst (us ++ [w]))) d v := fun {d v} r => RvL.upR (fun b u eb nb => lw b u eb nb) hd5 List.mem_cons_self r
            refine ⟨us, hd5, by rw [← RvL.length rv1]; exact hl, φ4, S4, ds ++ [y], us ++ [w], reLe, ⟨rs5.nd, rs5.len, rs5.apart, fun j u b e6 e7 => ?_, fun b hb' => ?_, fun b hb' => ?_⟩, upd_same, RvL.append (le5L (RvL.le l15 rv1)) (RvL.cons (le5 ry) RvL.nil), z3.symm⟩
            · have ro := rs5.obj j u b e6 e7
              have nb : b ≠ D := by
                rintro rfl
                exact np (List.mem_iff_getElem?.mpr ⟨j, e7⟩)
              cases u with
              | lst es =>
                obtain ⟨ws, e8, e9⟩ := ro
                exact ⟨ws, lw b _ e8 nb, le5L e9⟩
            · by_cases nb : b = D
              · rw [nb, upd_same]
                exact fun q => nomatch q
              · rw [upd_ne nb]
                exact rs5.res b hb'
            · obtain ⟨ps, e9, t9⟩ := rs5.tabs b hb'
              exact ⟨ps, lw b _ e9 (ne_of e9 hd5 (fun z => nomatch z)), t9⟩
          · rw [if_neg hl] at z3
            exact (hb z3).elim
end
end MM

/-! The mirror layer's rules: comprehensions by their syntax, built-ins, defs. -/
namespace MM
open PySem L2 PyProof.Rows
section
variable {G : Gd} {E : XK} {wi : TI} {t : TG} {tt : TT} {te : TE} {mi : MI0} {g : MG0} {mt : MT0} {me : ME0} {vs : List Nat}
theorem lc_snd (si : SndI G E wi mi) (sg : SndG G E0 t g) (wg : WipesG t vs) (st : SndT G E0 tt mt) (se : SndE G E0 te me) : SndE G E (tLc wi t tt te vs) (mLc mi g mt me vs) := by
  intro σ H ρ φ R S rs rn Q hq hx hb
  have e0 : mLc mi g mt me vs ρ S = (mi ρ S).bind fun it S1 => (lcL g mt me BIG 0 it (wipeD ρ vs) [] S1).bind fun ds S2 => .ok (.lst ds) S2 := by
    unfold mLc mLcL
    cases mi ρ S <;> rfl
  rw [e0] at hq hx hb
  refine si σ H ρ φ R S rs rn _ (fun it S1 φ1 J H1 e1 l1 rs1 r1 => ?_) (fun er S' φ' H' cl d er' => hx er S' φ' H' cl d (by rw [er']; rfl)) (fun e1 => hb (by rw [e1]; rfl))
  rw [e1, Res.bind_ok] at hq hx hb
  refine lc_run r1 sg wg st se rs1 (rn.le l1) Q (fun ds S2 φ2 D us H2 e2 hD l2 rs2 h2 rv => ?_) (fun e2 => hb (by rw [e2]; rfl))
  rw [e2, Res.bind_ok] at hq
  have hR : ∀ a ∈ R, a ∈ D :: R ∨ H2 a = none := fun a ha => .inl (List.mem_cons_of_mem _ ha)
  exact hq _ S2 φ2 _ H2 rfl (l1.trans l2) rs2.release (Rv.lst (fun z => rs2.apart D z List.mem_cons_self) (rs1.fresh hD).2 h2 (RvL.reR hR rv))
theorem lcS_snd (si : SndI G E wi mi) (sg : SndG G E0 t g) (wg : WipesG t vs) (st : SndT G E0 tt mt) (se : SndE G E0 te me) : SndE G E (tLc wi t tt te vs) (mLcS mi g mt me vs) := by
  intro σ H ρ φ R S rs rn Q hq hx hb
  have e0 : mLcS mi g mt me vs ρ S = (mi ρ S).bind fun it S1 => (lcL g mt me BIG 0 it (wipeD ρ vs) [] S1).bind fun ds S2 => .ok (.ref S2.length) (S2 ++ [.lst ds]) := by
    unfold mLcS mLcL
    cases mi ρ S <;> rfl
  rw [e0] at hq hx hb
  refine si σ H ρ φ R S rs rn _ (fun it S1 φ1 J H1 e1 l1 rs1 r1 => ?_) (fun er S' φ' H' cl d er' => hx er S' φ' H' cl d (by rw [er']; rfl)) (fun e1 => hb (by rw [e1]; rfl))
  rw [e1, Res.bind_ok] at hq hx hb
  refine lc_run r1 sg wg st se rs1 (rn.le l1) Q (fun ds S2 φ2 D us H2 e2 hD l2 rs2 h2 rv => ?_) (fun e2 => hb (by rw [e2]; rfl))
  rw [e2, Res.bind_ok] at hq
  have l12 := l1.trans l2
  have nH : H D = none := by
    cases h : H D with
    | none => rfl
    | some u => exact ((l1.ne D (by rw [h]; exact fun z => nomatch z)) hD).elim
  refine hq _ _ (φ2 ++ [D]) _ H2 rfl ⟨?_, fun a u ha na q => ⟨(l12.keep a u ha na q).1, fun z => ?_⟩, l12.tups, l12.ne, l12.tab⟩ (rs2.own (rs1.fresh hD).2 ⟨us, h2, RvL.own rv⟩) ?_
  · obtain ⟨r, er⟩ := l12.pre
    exact ⟨r ++ [D], by rw [er, List.append_assoc]⟩
  · rcases List.mem_append.mp z with z | z
    · exact (l12.keep a u ha na q).2 z
    · rw [List.mem_singleton.mp z, nH] at ha
      cases ha
  · show Rv G R (φ2 ++ [D]) H2 (.ref S2.length) (.ref D)
    unfold Rv
    refine ⟨D, rfl, ?_⟩
    rw [List.getElem?_append_right (by rw [rs2.len]; exact Nat.le_refl _), rs2.len, Nat.sub_self]
    rfl
end
section
variable {T : List Addr} {X : Cx} {E : XK} {elt tg iter : Expr} {ifs : List Expr} {scope : Scope} {own : List (Str × Nat)} {pos : Pos} {mi : MI0} {g : MG0} {mt : MT0} {me : ME0} {t : TG}
/-- what a comprehension's parts are, wherever they stand -/
structure LcOk (T : List Addr) (X : Cx) (elt tg : Expr) (ifs : List Expr) (scope : Scope) (own : List (Str × Nat)) (t : TG) (g : MG0) (mt : MT0) (me : ME0) : Prop where
  tg : ∀ (s : Shared) (H : Hp) (C : Addr) (cl : List (Str × Addr)) (fp : List Addr), MGc T (X.blk s H scope (compEnvC scope cl C X.env) fp) E0 tg (own.map (·.2)) t g
  ifs : ∀ (s : Shared) (H : Hp) (C : Addr) (cl : List (Str × Addr)) (fp : List Addr), MTs T (X.blk s H scope (compEnvC scope cl C X.env) fp) E0 ifs mt
  elt : ∀ (s : Shared) (H : Hp) (C : Addr) (cl : List (Str × Addr)) (fp : List Addr), ME T (X.blk s H scope (compEnvC scope cl C X.env) fp) E0 elt me
theorem LcOk.parts (h : LcOk T X elt tg ifs scope own t g mt me) : ∃ (tt : TT) (te : TE), (∀ (s : Shared) (H : Hp) (C : Addr) (cl : List (Str × Addr)) (fp : List Addr), PTs (X.blk s H scope (compEnvC scope cl C X.env) fp) ifs tt) ∧ (∀ (s : Shared) (H : Hp) (C : Addr) (cl : List (Str × Addr)) (fp : List Addr), PE (X.blk s H scope (compEnvC scope cl C X.env) fp) elt te) ∧
    SndG (X.gd T) E0 t g ∧ WipesG t (own.map (·.2)) ∧ SndT (X.gd T) E0 tt mt ∧ SndE (X.gd T) E0 te me := by
  obtain ⟨tt, pt, st⟩ := all_T (ι := Shared × Hp × Addr × List (Str × Addr) × List Addr) (XX := fun i => X.blk i.1 i.2.1 scope (compEnvC scope i.2.2.2.1 i.2.2.1 X.env) i.2.2.2.2) (G := (X.gd T)) (E := E0) (es := ifs) (m := mt) fun i => h.ifs i.1 i.2.1 i.2.2.1 i.2.2.2.1 i.2.2.2.2
  obtain ⟨te, pe, se⟩ := all_E (ι := Shared × Hp × Addr × List (Str × Addr) × List Addr) (XX := fun i => X.blk i.1 i.2.1 scope (compEnvC scope i.2.2.2.1 i.2.2.1 X.env) i.2.2.2.2) (G := (X.gd T)) (E := E0) (e := elt) (m := me) fun i => h.elt i.1 i.2.1 i.2.2.1 i.2.2.2.1 i.2.2.2.2
  exact ⟨tt, te, fun s H C cl fp => pt (s, H, C, cl, fp), fun s H C cl fp => pe (s, H, C, cl, fp), (h.tg {} (fun _ => none) 0 [] []).snd, (h.tg {} (fun _ => none) 0 [] []).wip, st, se⟩
theorem me_lc (hc : X.calm = true) (hN : X.N.Nodup) (hi : MI T X E tg iter mi) (ok : blkC X.N X.env.scope scope own = true) (h : LcOk T X elt tg ifs scope own t g mt me) (hs : ∀ x, foldedSetIterable iter X.env x = pure x := by intro _; rfl) :
    ME T X E (.ListComp elt [⟨tg, iter, ifs, 0⟩] scope pos) (mLc mi g mt me (own.map (·.2))) := by
  obtain ⟨wi, pi, si⟩ := hi
  obtain ⟨tt, te, pt, pe, sg, wg, st, se⟩ := h.parts
  exact ⟨_, pe_lc hc hN pi (blkOk_by ok) (fun s H C cl fp => (h.tg s H C cl fp).pg) pt pe hs, lc_snd si sg wg st se⟩
theorem me_lcS (hc : X.calm = true) (hN : X.N.Nodup) (hi : MI T X E tg iter mi) (ok : blkC X.N X.env.scope scope own = true) (h : LcOk T X elt tg ifs scope own t g mt me) (hs : ∀ x, foldedSetIterable iter X.env x = pure x := by intro _; rfl) :
    ME T X E (.ListComp elt [⟨tg, iter, ifs, 0⟩] scope pos) (mLcS mi g mt me (own.map (·.2))) := by
  obtain ⟨wi, pi, si⟩ := hi
  obtain ⟨tt, te, pt, pe, sg, wg, st, se⟩ := h.parts
  exact ⟨_, pe_lc hc hN pi (blkOk_by ok) (fun s H C cl fp => (h.tg s H C cl fp).pg) pt pe hs, lcS_snd si sg wg st se⟩
theorem ms_setLc {i : Nat} {y : Str} {py spos : Pos} (hc : X.calm = true) (hN : X.N.Nodup) (hy : X.N[i]? = some y) (hyl : X.env.scope.names.lookup y = some .local) (hsw : swapsWith (.ListComp elt [⟨tg, iter, ifs, 0⟩] scope pos) (some (.Name y py)) spos.line X.env = pure true)
    (hi : MI T X E tg iter mi) (ok : blkC X.N X.env.scope scope own = true) (h : LcOk T X elt tg ifs scope own t g mt me) (hs : ∀ x, foldedSetIterable iter X.env x = pure x := by intro _; rfl) :
    MS T X E (.Assign [.Name y py] (.ListComp elt [⟨tg, iter, ifs, 0⟩] scope pos) spos) (sAsg (mLc mi g mt me (own.map (·.2))) (gN i)) := by
  obtain ⟨wi, pi, si⟩ := hi
  obtain ⟨tt, te, pt, pe, sg, wg, st, se⟩ := h.parts
  exact ⟨_, ps_setLc hc hN hy hyl hsw pi (blkOk_by ok) (fun s H C cl fp => (h.tg s H C cl fp).pg) pt pe hs, SndS.asg (lc_snd si sg wg st se) SndG.name⟩
theorem ms_setLcS {i : Nat} {y : Str} {py spos : Pos} (hc : X.calm = true) (hN : X.N.Nodup) (hy : X.N[i]? = some y) (hyl : X.env.scope.names.lookup y = some .local) (hsw : swapsWith (.ListComp elt [⟨tg, iter, ifs, 0⟩] scope pos) (some (.Name y py)) spos.line X.env = pure true)
    (hi : MI T X E tg iter mi) (ok : blkC X.N X.env.scope scope own = true) (h : LcOk T X elt tg ifs scope own t g mt me) (hs : ∀ x, foldedSetIterable iter X.env x = pure x := by intro _; rfl) :
    MS T X E (.Assign [.Name y py] (.ListComp elt [⟨tg, iter, ifs, 0⟩] scope pos) spos) (sAsg (mLcS mi g mt me (own.map (·.2))) (gN i)) := by
  obtain ⟨wi, pi, si⟩ := hi
  obtain ⟨tt, te, pt, pe, sg, wg, st, se⟩ := h.parts
  exact ⟨_, ps_setLc hc hN hy hyl hsw pi (blkOk_by ok) (fun s H C cl fp => (h.tg s H C cl fp).pg) pt pe hs, SndS.asg (lcS_snd si sg wg st se) SndG.name⟩
end
/-! ### built-ins -/
section
variable {T : List Addr} {X : Cx} {E : XK} {e : Expr} {es : List Expr} {me : ME0} {mr : MA0} {pos p : Pos} {G : Gd}
/-- len -/
def fLen : List D → Store → Res D := fun ds S => match ds with
  | [d] => match seqOf S d with
    | some xs => .ok (.int xs.length) S
    | none => match d with
      | .str z => if z.length ≤ sizeLine then .ok (.int z.length) S else .bad
      | _ => .bad
  | _ => .bad
theorem CallR.orr {f : Value} {r r' : List V → Hp → VK → Prop} (h : CallR X f r) (h' : CallR X f r') : CallR X f (fun xs H Q => r xs H Q ∨ r' xs H Q) := by
  intro pins s σ H xs us Q I rv q
  rcases q with q | q
  · exact h pins s σ H xs us Q I rv q
  · exact h' pins s σ H xs us Q I rv q
theorem o_len : OpL G E (fun xs H Q => (∃ p ys, xs = [V.ref p] ∧ (SqL G.K H p ys ∨ SqT G.K H p ys) ∧ Q (.int ys.length) H) ∨ (∃ z, xs = [V.str z] ∧ z.length ≤ sizeLine ∧ Q (.int z.length) H)) fLen := by
  intro R φ S H ds xs rs rv
  unfold fLen
  split
  · rename_i d
    obtain ⟨v, rfl, h1⟩ := RvL.one_of rv
    split
    · rename_i ys hy
      obtain ⟨a, vs, rfl, h2, h3⟩ := seq_of rs h1 hy
      exact Run.ret rs Rv.int fun Q q => .inl ⟨a, vs, rfl, h2, by rw [← RvL.length h3]; exact q⟩
    · split
      · rename_i z _
        have e := Rv.str_of h1
        subst e
        by_cases hz : z.length ≤ sizeLine
        · rw [if_pos hz]
          exact Run.ret rs Rv.int fun Q q => .inr ⟨z, rfl, hz, q⟩
        · rw [if_neg hz]
          exact Run.bad
      · exact Run.bad
  · exact Run.bad
theorem me_len (hg : Gl X "len") (hm : X.mg "len" = none) (ha : MAn T X E [e] mr) (he : starEach [e] X.env = (false, eval e X.env) :: starEach [] X.env := by rfl) (hpl : (backTo pos (starEach [] X.env)).any (·.1) = false := by rfl) :
    ME T X E (.Call (.Name "len" p) [e] [] pos) (mCall fLen mr) := me_cb (CallR.orr call_len_seq call_len_str) o_len hg hm PySem.boot_len ha (by decide) (by decide) he hpl
/-- all of a list of truth values -/
def blsOf : List D → Option (List Bool)
  | [] => some []
  | .bl b :: r => (blsOf r).map (b :: ·)
  | _ :: _ => none
theorem blsOf_vals {R φ : List Addr} {H : Hp} : ∀ {ds : List D} {vs : List V} {bs : List Bool}, RvL G R φ H ds vs → blsOf ds = some bs → vs = bs.map V.bl
  | [], vs, bs, h, e => by
    unfold RvL at h
    cases e
    exact h
  | .bl b :: r, vs, bs, h, e => by
    unfold RvL at h
    obtain ⟨v, t, rfl, h1, h2⟩ := h
    obtain ⟨cs, e1, rfl⟩ := Option.map_eq_some_iff.mp (show (blsOf r).map (b :: ·) = some bs from e)
    rw [Rv.bl_of h1, blsOf_vals h2 e1]
    rfl
  | .non :: r, vs, bs, h, e => by cases e
  | .int _ :: r, vs, bs, h, e => by cases e
  | .str _ :: r, vs, bs, h, e => by cases e
  | .tup _ :: r, vs, bs, h, e => by cases e
  | .lst _ :: r, vs, bs, h, e => by cases e
  | .frz _ :: r, vs, bs, h, e => by cases e
  | .ref _ :: r, vs, bs, h, e => by cases e
def fAll : List D → Store → Res D := fun ds S => match ds with
  | [d] => match lstOf S d with
    | some xs => match blsOf xs with
      | some bs => .ok (.bl (bs.all id)) S
      | none => .bad
    | none => .bad
  | _ => .bad
theorem o_all : OpL G E (rAll G.K) fAll := by
  intro R φ S H ds xs rs rv
  unfold fAll
  split
  · rename_i d
    obtain ⟨v, rfl, h1⟩ := RvL.one_of rv
    split
    · rename_i ys hy
      obtain ⟨a, vs, rfl, h2, h3⟩ := lst_of rs h1 hy
      split
      · rename_i bs hb
        have e := blsOf_vals h3 hb
        subst e
        exact Run.ret rs Rv.bl fun Q q => ⟨a, bs, rfl, h2, q⟩
      · exact Run.bad
    · exact Run.bad
  · exact Run.bad
theorem me_all (hc : X.calm = true) (hg : Gl X "all") (hm : X.mg "all" = none) (ha : MAn T X E [e] mr) (he : starEach [e] X.env = (false, eval e X.env) :: starEach [] X.env := by rfl) (hpl : (backTo pos (starEach [] X.env)).any (·.1) = false := by rfl) :
    ME T X E (.Call (.Name "all" p) [e] [] pos) (mCall fAll mr) := me_cb (cr_all hc) o_all hg hm (by decide +kernel) ha (by decide) (by decide) he hpl
/-- tuple(xs) -/
def fTuple : List D → Store → Res D := fun ds S => match ds with
  | [.tup xs] => .ok (.tup xs) S
  | [d] => match lstOf S d with
    | some xs => .ok (.tup xs) S
    | none => .bad
  | _ => .bad
theorem o_tuple : OpL G E (fun xs H Q => ∃ p ys, xs = [V.ref p] ∧ ((SqL G.K H p ys ∧ ∀ l, H l = none → Q (.ref l) (upd H l (.tup ys))) ∨ (SqT G.K H p ys ∧ Q (.ref p) H))) fTuple := by
  intro R φ S H ds xs rs rv
  unfold fTuple
  split
  · rename_i ys
    obtain ⟨v, rfl, h1⟩ := RvL.one_of rv
    obtain ⟨a, vs, rfl, h2, h3⟩ := Rv.tup_of h1
    exact Run.ret rs h1 fun Q q => ⟨a, vs, rfl, .inr ⟨h2, q⟩⟩
  · rename_i d _
    obtain ⟨v, rfl, h1⟩ := RvL.one_of rv
    split
    · rename_i ys hy
      obtain ⟨a, vs, rfl, h2, h3⟩ := lst_of rs h1 hy
      exact Run.new (o := .tup vs) rs (fun p hp => Rv.tup upd_same (RvL.le (Le.new rs hp) h3)) fun Q q => ⟨a, vs, rfl, .inl ⟨h2, q⟩⟩
    · exact Run.bad
  · exact Run.bad
theorem me_tuple (hg : Gl X "tuple") (hm : X.mg "tuple" = none) (ha : MAn T X E [e] mr) (he : starEach [e] X.env = (false, eval e X.env) :: starEach [] X.env := by rfl) (hpl : (backTo pos (starEach [] X.env)).any (·.1) = false := by rfl) :
    ME T X E (.Call (.Name "tuple" p) [e] [] pos) (mCall fTuple mr) := me_cty call_tuple_of o_tuple hg hm (by decide +kernel) ha (by decide) (by decide) he hpl
/-- int(x) of an int, of a truth value -/
def fInt : List D → Store → Res D := fun ds S => match ds with
  | [.int i] => .ok (.int i) S
  | [.bl k] => .ok (.int (if k then 1 else 0)) S
  | _ => .bad
theorem o_int : OpL G E (fun xs H Q => (∃ i, xs = [V.int i] ∧ Q (.int i) H) ∨ ∃ k, xs = [V.bl k] ∧ Q (.int (if k then 1 else 0)) H) fInt := by
  intro R φ S H ds xs rs rv
  unfold fInt
  split
  · rename_i i
    obtain ⟨v, rfl, h1⟩ := RvL.one_of rv
    have e := Rv.int_of h1
    subst e
    exact Run.ret rs h1 fun Q q => .inl ⟨i, rfl, q⟩
  · rename_i k
    obtain ⟨v, rfl, h1⟩ := RvL.one_of rv
    have e := Rv.bl_of h1
    subst e
    exact Run.ret rs Rv.int fun Q q => .inr ⟨k, rfl, q⟩
  · exact Run.bad
theorem me_int1 (hg : Gl X "int") (hm : X.mg "int" = none) (ha : MAn T X E [e] mr) (he : starEach [e] X.env = (false, eval e X.env) :: starEach [] X.env := by rfl) (hpl : (backTo pos (starEach [] X.env)).any (·.1) = false := by rfl) :
    ME T X E (.Call (.Name "int" p) [e] [] pos) (mCall fInt mr) := me_cty call_int1 o_int hg hm (by decide +kernel) ha (by decide) (by decide) he hpl
/-- max(i, j), min(i, j) -/
def f2L (g : Int → Int → Int) : List D → Store → Res D := fun ds S => match ds with
  | [.int i, .int j] => .ok (.int (g i j)) S
  | _ => .bad
theorem o_2L {g : Int → Int → Int} : OpL G E (fun xs H Q => ∃ i j, xs = [V.int i, V.int j] ∧ Q (.int (g i j)) H) (f2L g) := by
  intro R φ S H ds xs rs rv
  unfold f2L
  split
  · rename_i i j
    obtain ⟨v, w, rfl, h1, h2⟩ := RvL.two_of rv
    have e := Rv.int_of h1
    have e' := Rv.int_of h2
    subst e
    subst e'
    exact Run.ret rs Rv.int fun Q q => ⟨i, j, rfl, q⟩
  · exact Run.bad
abbrev fMax2 := f2L fun i j => if j > i then j else i
abbrev fMin2 := f2L fun i j => if j < i then j else i
theorem me_max2 {e1 e2 : Expr} (hc : X.calm = true) (hg : Gl X "max") (hm : X.mg "max" = none) (ha : MAn T X E [e1, e2] mr) (he : starEach [e1, e2] X.env = (false, eval e1 X.env) :: starEach [e2] X.env := by rfl) (hpl : (backTo pos (starEach [e2] X.env)).any (·.1) = false := by rfl) :
    ME T X E (.Call (.Name "max" p) [e1, e2] [] pos) (mCall fMax2 mr) := me_cb (call_max2 hc) o_2L hg hm (by decide +kernel) ha (by decide) (by decide) he hpl
theorem me_min2 {e1 e2 : Expr} (hc : X.calm = true) (hg : Gl X "min") (hm : X.mg "min" = none) (ha : MAn T X E [e1, e2] mr) (he : starEach [e1, e2] X.env = (false, eval e1 X.env) :: starEach [e2] X.env := by rfl) (hpl : (backTo pos (starEach [e2] X.env)).any (·.1) = false := by rfl) :
    ME T X E (.Call (.Name "min" p) [e1, e2] [] pos) (mCall fMin2 mr) := me_cb (call_min2 hc) o_2L hg hm (by decide +kernel) ha (by decide) (by decide) he hpl
/-- isinstance(x, T), T a built-in class -/
def tyO : Option O → Option String
  | some (.lst _) => some "list"
  | none => none
def tyD (S : Store) : D → Option String
  | .non => some "NoneType"
  | .bl _ => some "bool"
  | .int _ => some "int"
  | .str _ => some "str"
  | .tup _ => some "tuple"
  | .lst _ => some "list"
  | .frz _ => none
  | .ref n => tyO S[n]?
def fIsi (T : String) : D → Store → Res D := fun d S => match tyD S d with
  | some t => match kitB t T with
    | some b => .ok (.bl b) S
    | none => .bad
  | none => .bad
theorem tyD_x {R φ : List Addr} {S : Store} {H : Hp} {d : D} {v : V} {t : String} (rs : Rs G R φ S H) (h : Rv G R φ H d v) (e : tyD S d = some t) : TyX G.K H v (.type t) := by
  cases d with
  | non => cases e; rw [Rv.non_of h]; exact .base .non
  | bl b => cases e; rw [Rv.bl_of h]; exact .base (.bl b)
  | int i => cases e; rw [Rv.int_of h]; exact .base (.int i)
  | str z => cases e; rw [Rv.str_of h]; exact .base (.str z)
  | tup ds =>
    cases e
    obtain ⟨a, vs, rfl, h1, _⟩ := Rv.tup_of h
    rcases h1 with (h1 | ⟨o, h1⟩) | ⟨o, its, n, h1, h2, _⟩
    · exact .base (.tup h1)
    · exact .fTuple h1
    · exact .kTuple h1 h2
  | lst ds =>
    cases e
    obtain ⟨a, vs, rfl, _, _, h1, _⟩ := Rv.lst_of h
    exact .base (.lst h1)
  | frz ds => cases e
  | ref n =>
    change tyO S[n]? = some t at e
    cases ho : S[n]? with
    | none => rw [ho] at e; cases e
    | some o =>
      rw [ho] at e
      cases o with
      | lst ds =>
        cases e
        obtain ⟨a, vs, rfl, _, h1, _⟩ := rs.lst h ho
        exact .base (.lst h1)
theorem me_isi {TT : String} {x : Str} {q : Pos} (hg : Gl X "isinstance") (hm : X.mg "isinstance" = none) (hgT : Gl X x) (hmT : X.mg x = none) (hvT : bootBuiltins x = some (.type TT)) (h : ME T X E e me) (hnT : x ≠ "__name__" := by decide) (hdT : (x == ("__debug__" : Str)) = false := by decide)
    (he : starEach [e, .Name x q] X.env = (false, eval e X.env) :: starEach [.Name x q] X.env := by rfl) (he2 : starEach [.Name x q] X.env = (false, eval (.Name x q) X.env) :: starEach [] X.env := by rfl) (hpl : (backTo pos (starEach [.Name x q] X.env)).any (·.1) = false := by rfl) :
    ME T X E (.Call (.Name "isinstance" p) [e, .Name x q] [] pos) (mUn (fIsi TT) me) := by
  obtain ⟨t, pt, st⟩ := h
  refine ⟨_, pe_callB call_isi hg hm (by decide +kernel) (pa_cons pt (pa_cons (pe_bltn (v := .ty TT) hgT hmT hvT rfl hnT hdT) pa_nil he2) he) (by decide) (by decide) he hpl, fun σ H ρ φ R S rs rn => ?_⟩
  refine Run.bnd (c' := fun (v : V) H1 (Q : VK) => rIsi X.K [v, .ty TT] H1 Q) (st σ H ρ φ R S rs rn) (fun d S1 φ1 v H1 e0 l1 rs1 r1 => ?_) fun Q q => q
  unfold fIsi
  split
  · rename_i ty ht
    split
    · rename_i b hb
      exact Run.ret rs1 Rv.bl fun Q q => ⟨v, .ty TT, .type ty, .type TT, b, rfl, .ty TT, tyD_x rs1 r1 ht, kit_ty hb, q⟩
    · exact Run.bad
  · exact Run.bad
end
/-! ### a def -/
theorem start_rn {G : Gd} {R φ : List Addr} {H : Hp} {N : List Str} {ds : List D} {vs : List V} (r : RvL G R φ H ds vs) : Rn G R φ H (ds.map some ++ List.replicate (N.length - ds.length) none) (L2.start N vs) := by
  unfold L2.start
  have hl := RvL.length r
  refine ⟨by simp [hl], fun i d e => ?_⟩
  by_cases hi : i < ds.length
  · rw [List.getElem?_append_left (by rw [List.length_map]; exact hi), List.getElem?_map] at e
    obtain ⟨d', e1, e2⟩ := Option.map_eq_some_iff.mp e
    cases e2
    obtain ⟨v, e3, e4⟩ := RvL.get r e1
    refine ⟨v, ?_, e4⟩
    rw [List.getElem?_append_left (by rw [List.length_map, ← hl]; exact hi), List.getElem?_map, e3]
    rfl
  · rw [List.getElem?_append_right (by rw [List.length_map]; omega)] at e
    obtain ⟨h1, h2⟩ := List.getElem?_eq_some_iff.mp e
    rw [List.getElem_replicate] at h2
    cases h2
section
variable {T : List Addr} {P : Program} {w : World} {K : PySem.W.Frag} {mg : Str → Option Value} {base : Heap}
theorem fn_ok {x qual : Str} {st : Stmt} {f : Addr} {fd : FuncData} {N ps : List Str} {k n : Nat} {m : MS0} (F : Fun K x qual st f fd) (S : FnScope N ps (defScope st)) (hn : ps.length = n)
    (hbody : ∀ (cdv : Value) (A : Around) (outer : List Env) (s : Shared) (H : Hp) (E : XK), Room k (A.deeper (envOfC qual (defScope st) s.heap.objs.size f cdv)) →
      MSs T (cxOf (L2.CX P w) P w K mg base N qual (defScope st) f cdv A outer s H E) E (defBody st) m) : FnOk P w K mg base (L2.CX P w) (k + 1) f fd ps (spM ⟨K, mg, T⟩ n (mDef N.length m)) := by
  refine F.okX S (fun vs H Q E h => ?_) (fun cdv A outer s H vs Q E hr h => ?_)
  · obtain ⟨φ, R, S, ds, _, h1, h2, _⟩ := h
    rw [← RvL.length h1, h2, hn]
  · obtain ⟨φ, R, S, ds, rs, rv, hl, hb, hq, hx⟩ := h
    obtain ⟨t, pt, st⟩ := hbody cdv A outer s H E hr
    refine ⟨t, pt, ?_⟩
    have e0 : mDef N.length m ds S = (m (ds.map some ++ List.replicate (N.length - ds.length) none) S).bind fun x S1 => match x.1 with
      | .nx => .ok .non S1
      | .rt d => .ok d S1
      | _ => .bad := rfl
    rw [e0] at hb hq hx
    refine st (L2.start N vs) H _ φ R S rs (start_rn rv) (fun o H' => match o with
      | .nx _ => Q .non H'
      | .rt v => Q v H'
      | _ => False) (fun y S' φ' o H' e1 l1 rs1 ro => ?_) (fun er S' φ' H' cl d e1 l1 rs1 xq => hx er S' φ' H' cl d (by rw [e1]; rfl) l1 rs1 xq) (fun e1 => hb (by rw [e1]; rfl))
    obtain ⟨fl, ρ'⟩ := y
    rw [e1, Res.bind_ok] at hb hq
    cases fl with
    | nx =>
      cases o with
      | nx σ => exact hq .non S' φ' .non H' rfl l1 rs1 Rv.non
      | _ => exact False.elim ro
    | rt d =>
      cases o with
      | rt v => exact hq d S' φ' v H' rfl l1 rs1 ro
      | _ => exact False.elim ro
    | bk => exact (hb rfl).elim
    | ct => exact (hb rfl).elim
end
end MM

/-! Walks over what is a list or a tuple; enumerate over both; calls by keywords. -/
namespace MM
open PySem L2 PyProof.Rows
section
variable {T : List Addr} {X : Cx} {tg : Expr}
/-- what iter(x) gives, by the value x -/
def IterR (X : Cx) (tg : Expr) (r : V → Hp → (It → Hp → Prop) → Prop) : Prop := ∀ (pins : List (Addr × Obj)) (s : Shared) (σ : L2.St) (H : Hp) (x : V) (u : Value) (R : It → Hp → Prop), Inv X pins σ H s → RelV x u → r x H R → wpAny (model X.prog X.w) X.A (pyIter u) (PIE X pins σ tg R) X.xe s
theorem IterR.or {r r' : V → Hp → (It → Hp → Prop) → Prop} (h : IterR X tg r) (h' : IterR X tg r') : IterR X tg (fun x H R => r x H R ∨ r' x H R) := fun pins s σ H x u R I rv q => by
  rcases q with q | q
  · exact h pins s σ H x u R I rv q
  · exact h' pins s σ H x u R I rv q
theorem pi_by {e : Expr} {te : TE} {r : V → Hp → (It → Hp → Prop) → Prop} (he : PE X e te) (h : IterR X tg r) : PI X tg e (fun σ H R => te σ H fun x H1 => r x H1 R) :=
  ⟨fun pins s σ H R I q => thn (he.run pins s σ H _ I q) fun v s1 ⟨x, H1, I1, r1, q1⟩ => h pins s1 σ H1 x v R I1 r1 q1⟩
theorem ir_list : IterR X tg (fun x H R => ∃ a xs, x = .ref a ∧ SqL X.K H a xs ∧ R (Itl X.K a) H) := fun pins s1 σ H1 x v R I1 r1 q1 => by
  obtain ⟨a, xs, e, hq, q⟩ := q1
  subst e
  cases r1
  obtain ⟨its, rv, p, hz⟩ := I1.list hq
  refine wpAny_pyIter_list p.isList ?_
  refine ⟨s1.heap.objs.size, [s1.heap.objs.size], _, _, H1, rfl, I1.kept (t' := s1.toks) fun b o e => Heap.get?_push_of_some _ e, turn_list a _, ⟨_, Heap.get?_push_size _ rfl, rfl, rfl⟩, fun b hb => ?_, q⟩
  have e : b = s1.heap.objs.size := by simpa using hb
  subst e
  exact I1.fpOk (Nat.le_refl _) (I1.hok.fresh (Nat.le_refl _))
theorem ir_tup : IterR X tg (fun x H R => ∃ a xs, x = .ref a ∧ SqT X.K H a xs ∧ R (Itt X.K a) H) := fun pins s1 σ H1 x v R I1 r1 q1 => by
  obtain ⟨a, xs, e, hq, q⟩ := q1
  subst e
  cases r1
  obtain ⟨its, rv, p, hz⟩ := I1.tuple hq
  refine wpAny_pyIter_tuple (show s1.heap.IsTuple a its.toArray from p) ?_
  refine ⟨s1.heap.objs.size, [s1.heap.objs.size], _, _, H1, rfl, I1.kept (t' := s1.toks) fun b o e => Heap.get?_push_of_some _ e, turn_tuple a _, ⟨_, Heap.get?_push_size _ rfl, rfl, rfl⟩, fun b hb => ?_, q⟩
  have e : b = s1.heap.objs.size := by simpa using hb
  subst e
  exact I1.fpOk (Nat.le_refl _) (I1.hok.fresh (Nat.le_refl _))
end
section
variable {T : List Addr} {X : Cx} {E : XK} {e tg : Expr} {me : ME0}
def itOf (S : Store) : D → Option ItD
  | .tup ds => some (itL ds)
  | .lst ds => some (itL ds)
  | .frz ds => some (itL ds)
  | .ref n => (lstAt S n).map fun _ => itS n
  | _ => none
/-- what is a list or a tuple, walked -/
def miA (me : ME0) : MI0 := fun ρ S => (me ρ S).bind fun d S1 => match itOf S1 d with
  | some it => .ok it S1
  | none => .bad
theorem itOf_rel {G : Gd} {R φ : List Addr} {S : Store} {H : Hp} {d : D} {v : V} {it : ItD} (rs : Rs G R φ S H) (r : Rv G R φ H d v) (h : itOf S d = some it) : ∃ a, v = .ref a ∧ ((∃ vs, SqL G.K H a vs ∧ RelI G R φ H it (Itl G.K a)) ∨ (∃ vs, SqT G.K H a vs ∧ RelI G R φ H it (Itt G.K a))) := by
  cases d with
  | tup ds =>
    cases h
    obtain ⟨a, vs, rfl, h1, h2⟩ := Rv.tup_of r
    exact ⟨a, rfl, .inr ⟨vs, h1, relI_tup h1 h2⟩⟩
  | lst ds =>
    cases h
    obtain ⟨a, vs, rfl, n1, n2, h1, h2⟩ := Rv.lst_of r
    exact ⟨a, rfl, .inl ⟨vs, .inl (.inl h1), relI_list (fun φ' H' l => .inl (.inl (l.keep a _ h1 n1 (fun _ z => nomatch z)).1)) h2⟩⟩
  | frz ds =>
    cases h
    obtain ⟨a, vs, rfl, h1, h2⟩ := Rv.frz_of r
    exact ⟨a, rfl, .inl ⟨vs, h1.sq, relI_list (fun φ' H' l => (Fz.le l h1).sq) h2⟩⟩
  | ref n =>
    obtain ⟨ds, e1, e2⟩ := Option.map_eq_some_iff.mp (show (lstAt S n).map (fun _ => itS n) = some it from h)
    subst e2
    obtain ⟨a, vs, rfl, ha, h1, h2⟩ := rs.lst r (lstAt_of e1)
    exact ⟨a, rfl, .inl ⟨vs, .inl (.inl h1), relI_store ha⟩⟩
  | _ => cases h
theorem mi_any (h : ME T X E e me) : MI T X E tg e (miA me) := by
  obtain ⟨t, pt, s⟩ := h
  refine ⟨_, pi_by pt (IterR.or ir_list ir_tup), fun σ H ρ φ R S rs rn => Run.bnd (c' := fun (x : V) H1 Q => (∃ a xs, x = V.ref a ∧ SqL X.K H1 a xs ∧ Q (Itl X.K a) H1) ∨ (∃ a xs, x = V.ref a ∧ SqT X.K H1 a xs ∧ Q (Itt X.K a) H1)) (s σ H ρ φ R S rs rn) (fun d S1 φ1 v H1 e0 l1 rs1 r1 => ?_) fun Q q => q⟩
  split
  · rename_i it hit
    obtain ⟨a, rfl, h1 | h1⟩ := itOf_rel rs1 r1 hit
    · obtain ⟨vs, h2, h3⟩ := h1
      exact Run.ret (v := Itl X.K a) rs1 h3 fun Q q => .inl ⟨a, vs, rfl, h2, q⟩
    · obtain ⟨vs, h2, h3⟩ := h1
      exact Run.ret (v := Itt X.K a) rs1 h3 fun Q q => .inr ⟨a, vs, rfl, h2, q⟩
  · exact Run.bad
end
/-! ### enumerate over a tuple -/
set_option maxHeartbeats 8000000 in
theorem meets_enumerate_newB1 {v : Value} {o : Obj} {H : Heap → Prop} (B : Begins v o H) :
    Meets (Builtin.«enumerate.__new__» ⟨[.type "enumerate", v], []⟩) (fun _ R s => H s.heap ∧
      R (.ok (.ret (.ref (s.heap.push o).objs.size))) { s with heap := (s.heap.push o).push { cls := .type "enumerate", data := .fields #[.none, .bool false, .ref s.heap.objs.size, rawInt 0, .none, .none] } }) :=
  .of_wp fun prog w A R s h => by
    obtain ⟨hp, g, d, tk, os⟩ := s; obtain ⟨h1, h⟩ := h
    have hsub := sub_enumerate
    have q1 : ∀ {A' : Around} {E : Value → Shared → Prop} {Q : Value → Shared → Prop}, Q (.ref hp.objs.size) ⟨hp.push o, g, d, tk, os⟩ → wpAny (model prog w) A' (pyIter v) Q E ⟨hp, g, d, tk, os⟩ :=
      fun q => B.iter prog w _ _ ⟨hp, g, d, tk, os⟩ _ h1 q
    wp_walk using q1
    refine wpAny_stack_any fun st => wpAny_pure ?_
    split
    · rename_i c _ _ _ _ _
      cases (c == Value.type "enumerate")
      · wp_walk using q1
        exact ⟨_, rfl, h⟩
      · wp_walk using q1
        exact ⟨_, rfl, h⟩
    · wp_walk using q1
      exact ⟨_, rfl, h⟩
theorem call_enumerate_B {prog : Program} {w : World} {A : Around} {E : Value → Shared → Prop} {s : Shared} {v : Value} {o : Obj} {H : Heap → Prop} {Q : Value → Shared → Prop} (B : Begins v o H) (h1 : H s.heap)
    (h : ∀ h', IsEnum h' (s.heap.objs.size + 1) s.heap.objs.size 0 .none → h'.get? s.heap.objs.size = some o → h'.objs.size = s.heap.objs.size + 2 →
      (∀ b o, s.heap.get? b = some o → h'.get? b = some o) → Q (.ref (s.heap.objs.size + 1)) { s with heap := h' }) :
    wpAny (model prog w) A (call (.type "enumerate") [v]) Q E s := by
  refine callType_new F.called_enumerate (by decide) (F.typeCall_enumerate_1 _) (F.newCall_enumerate_1 _) (fun obj => F.args_object_init_2 obj _) F.entry_enumerate_new
    (meets_enumerate_newB1 B) ⟨h1, ?_⟩
  have hz : (s.heap.push o).objs.size = s.heap.objs.size + 1 := Heap.size_push ..
  show _ ∧ _
  rw [hz]
  have he : IsEnum ((s.heap.push o).push { cls := .type "enumerate", data := .fields #[.none, .bool false, .ref s.heap.objs.size, rawInt 0, .none, .none] }) (s.heap.objs.size + 1) s.heap.objs.size 0 .none := by
    have := Heap.get?_push_size (s.heap.push o) (o := { cls := .type "enumerate", data := .fields #[.none, .bool false, .ref s.heap.objs.size, rawInt 0, .none, .none] }) rfl
    rw [hz] at this; exact this
  exact ⟨⟨_, he, rfl⟩, h _ he (Heap.get?_push_of_some _ (Heap.get?_push_size _ B.free)) (by rw [Heap.size_push, hz]) fun b o x => Heap.get?_push_of_some _ (Heap.get?_push_of_some _ x)⟩
theorem pyNext_enumT_end {prog : Program} {w : World} {A : Around} {E : Value → Shared → Prop} {s : Shared} {e it l : Addr} {i : Nat} {items : Array Value} {old : Value} {Q : Option Value → Shared → Prop} (hh : A.in1.handled = none)
    (he : IsEnum s.heap e it i old) (hit : s.heap.IsTupleIter it l i) (hl : s.heap.IsTuple l items) (hx : items[i]? = none)
    (hQ : ∀ h', Heap.ExtBut it s.heap h' → Q none { s with heap := h' }) : wpAny (model prog w) A (pyNext (.ref e)) Q E s := by
  have hT : s.TypeIs (.ref e) "enumerate" := ⟨_, he, rfl⟩
  unfold pyNext
  refine wpAny_bind (wpAny_attempt (wpAny_callSpecial?_slot (name := Str.ofString "__next__") hT F.slot_enumerate_next
    (wpAny_call_entry F.slot_enumerate_next hT F.entry_enumerate_next ?_ (F.args_enumerate_next_1 _))))
  show wpAny _ _ (field (.ref e) 2 >>= _) _ _ _
  refine wpAny_bind (wpAny_field he rfl (x := .ref it) rfl ?_)
  refine wpAny_bind (wpAny_nextOf_tuple_end hh hit hl hx fun h' x he' hx' => ?_)
  obtain ⟨o, ho, hc⟩ := hx'
  refine wpAny_bind (wpAny_isInstance (T := "StopIteration") (b := true) ⟨o, ho, hc⟩ isSubtype_stop ?_)
  exact wpAny_pure (hQ _ he')
/-- the tuple at a, each item in a new pair -/
def IteT (K : PySem.W.Frag) (a : Addr) : It :=
  ⟨fun i H => ∃ (xs : List V) (x : V), SqT K H a xs ∧ xs[i]? = some x, fun i H v H' => ∃ T x, v = .ref T ∧ H T = none ∧ H' = upd H T (.tup [.int (i : Nat), x]) ∧ ∀ xs, SqT K H a xs → xs[i]? = some x, fun i H => ∃ xs : List V, SqT K H a xs ∧ xs.length ≤ i⟩
theorem turn_enumT {P : Program} {w : World} {K : PySem.W.Frag} {elts : List Expr} {kk : Nat} {tpos : Pos} (a e it : Addr) :
    Turn P w K (.Tuple elts kk tpos) (IteT K a) [e, it] e (fun i h => (∃ old, IsEnum h e it ((i : Nat) : Int) old) ∧ h.IsTupleIter it a i ∧ e ≠ it) where
  mem := by simp
  obj := fun i h st b hb => by
    obtain ⟨⟨old, he⟩, ⟨o, ho, hc, hd⟩, _⟩ := st
    have e' : b = e ∨ b = it := by simpa using hb
    rcases e' with z | z
    · rw [z]; exact ⟨_, he, fun v q => nomatch q⟩
    · rw [z]; exact ⟨o, ho, fun v q => by rw [hd] at q; cases q⟩
  keep := fun i h h' st k => let ⟨⟨old, he⟩, hi, hne⟩ := st; ⟨⟨old, k e (by simp) _ he⟩, hi.at fun o q => k it (by simp) o q, hne⟩
  item := by
    intro X hP hw hK hc i pins s σ H E I hf st hg
    subst hP hw hK
    obtain ⟨⟨old, he⟩, hit, hne⟩ := st
    obtain ⟨xs, x, hq, hx⟩ := hg
    obtain ⟨its, rv, p, hz⟩ := I.tuple hq
    obtain ⟨u, hu, ru⟩ := rv.get hx
    have hel : e < s.heap.objs.size := Heap.lt_size he
    have hil : it < s.heap.objs.size := by obtain ⟨_, q, _⟩ := hit; exact Heap.lt_size q
    have hta : a ≠ it := by
      rintro rfl
      obtain ⟨o1, e1, c1, _⟩ := hit
      obtain ⟨o2, e2, c2, _⟩ := show s.heap.IsTuple a its.toArray from p
      rw [e1] at e2
      cases e2
      rw [c1] at c2
      exact absurd c2 (by decide)
    have hea : e ≠ a := by
      rintro rfl
      obtain ⟨o2, e2, c2, _⟩ := show s.heap.IsTuple e its.toArray from p
      rw [show s.heap.get? e = some _ from he] at e2
      cases e2
      exact absurd (show (Value.type "enumerate" : Value) = .type "tuple" from c2) (by decide)
    have hil2 : i < its.toArray.size := by
      have := (List.getElem?_eq_some_iff.mp hu).1
      simpa using this
    refine wpAny_pyNext_enum_itemC (Draws.tuple (by simpa using I.ok.hd hc) it a hta its.toArray) he ⟨hit, p⟩ hil2 hne (by simp [hne, hea]) fun x0 h' tk hx0 ho hst' hT hsz hk => ?_
    have ex0 : x0 = u := by
      have h2 : its.toArray[i]? = some u := by simpa using hu
      have h3 : its.toArray[i]? = some x0 := hx0
      rw [h2] at h3
      exact (Option.some.inj h3).symm
    subst ex0
    refine ⟨_, rfl, wpAny_letOwnedTupleGo_enum (s := { s with heap := h', toks := tk + 1 }) ho fun h'' he' sb => ?_⟩
    have hT2 : h''.get? s.heap.objs.size = some { cls := .type "tuple", data := .seq #[.int i tk, x0] } := (sb.2 _ (Nat.ne_of_gt hel)).trans hT
    have new : ObjOk X.prog X.w (upd H s.heap.objs.size (.tup [.int (i : Nat), x])) h'' s.heap.objs.size (.tup [.int (i : Nat), x]) :=
      ⟨by show 2 ≤ sizeLine; decide, [.int i tk, x0], .cons ⟨_, rfl⟩ (.cons ru .nil), ⟨_, hT2, rfl, _, rfl⟩⟩
    have I1 : Inv X pins σ (upd H s.heap.objs.size (.tup [.int (i : Nat), x])) { s with heap := h'', toks := tk + 1 } :=
      I.turnedNew (ch := [e, it]) (fun b ob hb q => (sb.2 b (fun z => hb (by simp [z]))).trans (hk b ob (fun z => hb (by simp [z])) (fun z => hb (by simp [z])) q)) hf (Nat.le_refl _) new
    refine ⟨.ref s.heap.objs.size, _, I1, rfl, ⟨_, x, rfl, I.hok.fresh (Nat.le_refl _), rfl, fun ys hy => by rw [I.tuple_inj hy hq]; exact hx⟩, ⟨⟨x0, ?_⟩, hst'.1.at fun o q => (sb.2 it (Ne.symm hne)).trans q, hne⟩, fun b hb => ?_⟩
    · have e1 : ((i + 1 : Nat) : Int) = (i : Int) + 1 := by omega
      rw [e1]; exact he'
    · have hb' : b < s.heap.objs.size := by
        have e' : b = e ∨ b = it := by simpa using hb
        rcases e' with z | z
        · rw [z]; exact hel
        · rw [z]; exact hil
      rw [upd_ne (Nat.ne_of_lt hb')]
      exact (hf b hb).1
  done := by
    intro X hP hw hK hc i pins s σ H E I hf st hg
    subst hP hw hK
    obtain ⟨⟨old, he⟩, hit, hne⟩ := st
    obtain ⟨xs, hq, hx⟩ := hg
    obtain ⟨its, rv, p, hz⟩ := I.tuple hq
    obtain ⟨f0, f1, f2, f3, f4, f5⟩ := hf it (by simp)
    have hl := rv.length
    exact pyNext_enumT_end (by simpa using I.ok.hd hc) he hit p (by simp; omega) fun h' eb => ⟨rfl, I.turned (t' := s.toks) (fun b o hb q => eb b o hb q) f0 f1 f3 f4 f5⟩
  self := fun A i s Q E st h => let ⟨⟨_, he⟩, _⟩ := st; wpAny_pyIter_enum he h
section
variable {T : List Addr} {X : Cx} {E : XK} {e : Expr} {mr : MA0} {p pos tpos : Pos} {elts : List Expr} {kk : Nat}
def iEnumA (K : PySem.W.Frag) (ta : TA) : TI := fun σ H R => ta σ H fun vs H1 => ∃ a, vs = [.ref a] ∧ ((∃ xs, SqL K H1 a xs ∧ R (Ite K a) H1) ∨ (∃ xs, SqT K H1 a xs ∧ R (IteT K a) H1))
theorem pi_enumA {ta : TA} (hg : Gl X "enumerate") (hm : X.mg "enumerate" = none) (ha : PA X [e] ta) (hs : starEach [e] X.env = [(false, eval e X.env)] := by rfl) :
    PI X (.Tuple elts kk tpos) (.Call (.Name "enumerate" p) [e] [] pos) (iEnumA X.K ta) := by
  refine ⟨fun pins s σ H R I h => ?_⟩
  refine Call_ (ld_blt I hg hm boot_enumerate (PyProof.Rows.callWith_type1 (thn (ha.run pos pins s σ H _ I h) fun us s1 ⟨vs, H1, I1, r1, q1⟩ => ?_) hs rfl))
  obtain ⟨a, ex, hq⟩ := q1
  subst ex
  cases r1 with
  | cons r rr =>
    cases rr
    cases r
    have fin : ∀ b, b ∈ [s1.heap.objs.size + 1, s1.heap.objs.size] → s1.heap.objs.size ≤ b := fun b hb => by
      have e' : b = s1.heap.objs.size + 1 ∨ b = s1.heap.objs.size := by simpa using hb
      rcases e' with z | z
      · rw [z]; exact Nat.le_add_right _ _
      · rw [z]; exact Nat.le_refl _
    rcases hq with ⟨xs, hq, q⟩ | ⟨xs, hq, q⟩
    · obtain ⟨its, rv, p', hz⟩ := I1.list hq
      refine call_enumerate_list p'.isList fun h' he hit hsz hk => wpAny_pyIter_enum he ?_
      have I2 : Inv X pins σ H1 { s1 with heap := h' } := I1.kept (t' := s1.toks) hk
      exact ⟨s1.heap.objs.size + 1, [s1.heap.objs.size + 1, s1.heap.objs.size], _, _, H1, rfl, I2, turn_enum a (s1.heap.objs.size + 1) s1.heap.objs.size, ⟨⟨.none, he⟩, hit, Nat.succ_ne_self _⟩, fun b hb => I1.fpOk (fin b hb) (I1.hok.fresh (fin b hb)), q⟩
    · obtain ⟨its, rv, p', hz⟩ := I1.tuple hq
      refine call_enumerate_B (begins_tuple a its.toArray) p' fun h' he hit hsz hk => wpAny_pyIter_enum he ?_
      have I2 : Inv X pins σ H1 { s1 with heap := h' } := I1.kept (t' := s1.toks) hk
      exact ⟨s1.heap.objs.size + 1, [s1.heap.objs.size + 1, s1.heap.objs.size], _, _, H1, rfl, I2, turn_enumT a (s1.heap.objs.size + 1) s1.heap.objs.size, ⟨⟨.none, he⟩, ⟨_, hit, rfl, rfl⟩, Nat.succ_ne_self _⟩, fun b hb => I1.fpOk (fin b hb) (I1.hok.fresh (fin b hb)), q⟩
/-- enumerate of a list or tuple by value -/
def miE (mr : MA0) : MI0 := fun ρ S => (mr ρ S).bind fun ds S1 => match ds with
  | [.tup xs] => .ok (itE xs) S1
  | [.lst xs] => .ok (itE xs) S1
  | _ => .bad
theorem relI_pair {G : Gd} {R φ : List Addr} {H : Hp} {ds : List D} {vs : List V} (r : RvL G R φ H ds vs) {J : It} (hs : ∀ i φ' H', Le φ H φ' H' → vs.length ≤ i → J.stop i H') (hg : ∀ i φ' H' x, Le φ H φ' H' → vs[i]? = some x → J.go i H' ∧ ∀ v H2, J.yld i H' v H2 → ∃ T, v = .ref T ∧ H' T = none ∧ H2 = upd H' T (.tup [.int (i : Nat), x])) : RelI G R φ H (itE ds) J := by
  intro R' hR i φ1 S1 H1 l rs
  refine ⟨fun e => hs i φ1 H1 l ?_, fun d e => ?_⟩
  · have e' : ds[i]?.map (fun d => D.tup [.int i, d]) = none := Option.some.inj e
    rw [← RvL.length r]
    exact List.getElem?_eq_none_iff.mp (Option.map_eq_none_iff.mp e')
  · have e' : ds[i]?.map (fun d => D.tup [.int i, d]) = some d := Option.some.inj e
    obtain ⟨d0, e1, rfl⟩ := Option.map_eq_some_iff.mp e'
    obtain ⟨v, e2, e3⟩ := RvL.get r e1
    obtain ⟨g1, g2⟩ := hg i φ1 H1 v l e2
    refine ⟨g1, fun x H' hy => ?_⟩
    obtain ⟨T, rfl, hT, rfl⟩ := g2 x H' hy
    have ln := Le.new rs (o := .tup [.int (i : Nat), v]) hT
    exact ⟨ln, rs.new hT, Rv.tup upd_same (RvL.cons Rv.int (RvL.cons (Rv.le ln (Rv.le l (Rv.reR hR e3))) RvL.nil))⟩
theorem mi_enum (hg : Gl X "enumerate") (hm : X.mg "enumerate" = none) (ha : MAn T X E [e] mr) (hs : starEach [e] X.env = [(false, eval e X.env)] := by rfl) :
    MI T X E (.Tuple elts kk tpos) (.Call (.Name "enumerate" p) [e] [] pos) (miE mr) := by
  obtain ⟨⟨t, pt, s⟩, _⟩ := ha
  refine ⟨_, pi_enumA hg hm pt hs, fun σ H ρ φ R S rs rn => Run.bnd (c' := fun (vs : List V) H1 Q => ∃ a, vs = [V.ref a] ∧ ((∃ xs, SqL X.K H1 a xs ∧ Q (Ite X.K a) H1) ∨ (∃ xs, SqT X.K H1 a xs ∧ Q (IteT X.K a) H1))) (s σ H ρ φ R S rs rn) (fun ds S1 φ1 vs H1 e0 l1 rs1 r1 => ?_) fun Q q => q⟩
  split
  · rename_i xs
    obtain ⟨v, rfl, h1⟩ := RvL.one_of r1
    obtain ⟨a, vs, rfl, h2, h3⟩ := Rv.tup_of h1
    have rel : RelI (X.gd T) R φ1 H1 (itE xs) (IteT X.K a) := relI_pair h3 (fun i φ' H' l hl => ⟨vs, SqT.le (G := X.gd T) l h2, hl⟩) fun i φ' H' x l hx => ⟨⟨vs, x, SqT.le (G := X.gd T) l h2, hx⟩, fun v H2 hy => by
      obtain ⟨Ta, y, e1, e2, e3, e4⟩ := hy
      have e5 := e4 vs (SqT.le (G := X.gd T) l h2)
      rw [hx] at e5
      cases e5
      exact ⟨Ta, e1, e2, e3⟩⟩
    exact Run.ret (v := IteT X.K a) rs1 rel fun Q q => ⟨a, rfl, .inr ⟨vs, h2, q⟩⟩
  · rename_i xs
    obtain ⟨v, rfl, h1⟩ := RvL.one_of r1
    obtain ⟨a, vs, rfl, n1, n2, h2, h3⟩ := Rv.lst_of h1
    have hq : ∀ φ' H', Le φ1 H1 φ' H' → SqL X.K H' a vs := fun φ' H' l => .inl (.inl (l.keep a _ h2 n1 (fun _ z => nomatch z)).1)
    have rel : RelI (X.gd T) R φ1 H1 (itE xs) (Ite X.K a) := relI_pair h3 (fun i φ' H' l hl => ⟨vs, hq φ' H' l, hl⟩) fun i φ' H' x l hx => ⟨⟨vs, x, hq φ' H' l, hx⟩, fun v H2 hy => by
      obtain ⟨Ta, y, e1, e2, e3, e4⟩ := hy
      have e5 := e4 vs (hq φ' H' l)
      rw [hx] at e5
      cases e5
      exact ⟨Ta, e1, e2, e3⟩⟩
    exact Run.ret (v := Ite X.K a) rs1 rel fun Q q => ⟨a, rfl, .inl ⟨vs, .inl (.inl h2), q⟩⟩
  · exact Run.bad
end
/-! ### calls by keywords -/
section
variable {T : List Addr} {X : Cx} {E : XK} {k n : Nat} {f : Addr} {fd : FuncData} {ps ks : List Str} {x : Str} {m : List D → Store → Res D} {p pos kpos : Pos} {e : Expr} {es : List Expr} {kws : List Keyword} {me : ME0} {mr mk : MA0} {nm : Option Str}
/-- n1 by place, then n2 by name, in the order ix -/
def perm {α : Type} (n1 n2 : Nat) (ix : List Nat) (us ws : List α) : List α := if us.length = n1 ∧ ws.length = n2 then ix.filterMap fun i => (us ++ ws)[i]? else []
def MKn (T : List Addr) (X : Cx) (E : XK) (kws : List Keyword) (m : MA0) : Prop := (∃ t, PK X kws t ∧ SndA (X.gd T) E t m) ∧ ∀ ρ S ds S', m ρ S = .ok ds S' → ds.length = kws.length
theorem mk_nil : MKn T X E [] mNil := ⟨⟨_, pk_nil, fun σ H ρ φ R S rs rn => Run.ret rs RvL.nil fun Q q => q⟩, fun ρ S ds S' h => by cases h; rfl⟩
theorem mk_cons (ha : ME T X E e me) (hr : MKn T X E kws mr) : MKn T X E (⟨nm, e, kpos⟩ :: kws) (mCons me mr) := by
  obtain ⟨ta, pa, sa⟩ := ha
  obtain ⟨⟨tr, pr, sr⟩, hl⟩ := hr
  refine ⟨⟨_, pk_cons pa pr, fun σ H ρ φ R S rs rn => Run.bnd (sa σ H ρ φ R S rs rn) fun d S1 φ1 x H1 _ l1 rs1 r1 => Run.bnd (sr σ H1 ρ φ1 R S1 rs1 (rn.le l1)) fun ds S2 φ2 xs H2 _ l2 rs2 r2 => Run.ret rs2 (RvL.cons (Rv.le l2 r1) r2) fun Q q => q⟩, fun ρ S ds S' h => ?_⟩
  unfold mCons at h
  cases h1 : me ρ S with
  | ok x S1 =>
    rw [h1] at h
    cases h2 : mr ρ S1 with
    | ok xs S2 =>
      rw [Res.bind_ok, h2] at h
      cases h
      rw [List.length_cons, List.length_cons, hl _ _ _ _ h2]
    | exc e S2 => rw [Res.bind_ok, h2] at h; cases h
    | bad => rw [Res.bind_ok, h2] at h; cases h
  | exc e S2 => rw [h1] at h; cases h
  | bad => rw [h1] at h; cases h
def mCallK (f : List D → Store → Res D) (n1 n2 : Nat) (ix : List Nat) (ma mk : MA0) : ME0 := fun ρ S => (ma ρ S).bind fun us S1 => (mk ρ S1).bind fun ws S2 => f (perm n1 n2 ix us ws) S2
theorem Vals.pick {vs : List V} {us : List Value} (r : Vals vs us) : ∀ ix : List Nat, Vals (ix.filterMap fun i => vs[i]?) (ix.filterMap fun i => us[i]?)
  | [] => .nil
  | i :: ix => by
    rw [List.filterMap_cons, List.filterMap_cons]
    cases h : vs[i]? with
    | none =>
      rw [Vals.none_of r h]
      exact Vals.pick r ix
    | some v =>
      obtain ⟨u, e1, e2⟩ := Vals.get r h
      rw [e1]
      exact .cons e2 (Vals.pick r ix)
theorem RvL.pick {G : Gd} {R φ : List Addr} {H : Hp} {ds : List D} {vs : List V} (r : RvL G R φ H ds vs) : ∀ ix : List Nat, RvL G R φ H (ix.filterMap fun i => ds[i]?) (ix.filterMap fun i => vs[i]?)
  | [] => RvL.nil
  | i :: ix => by
    rw [List.filterMap_cons, List.filterMap_cons]
    cases h : ds[i]? with
    | none =>
      have h2 : vs[i]? = none := by
        rw [List.getElem?_eq_none_iff] at h ⊢
        rw [← RvL.length r]
        exact h
      rw [h2]
      exact RvL.pick r ix
    | some d =>
      obtain ⟨v, e1, e2⟩ := RvL.get r h
      rw [e1]
      exact RvL.cons e2 (RvL.pick r ix)
/-- how a call with keywords binds -/
def KTo (K : PySem.W.Frag) (fd : FuncData) (ps ks : List Str) (n1 n2 : Nat) (ix : List Nat) : Prop := ∀ (s : Shared) (us ws : List Value), K.In s.heap → us.length = n1 → ws.length = n2 → BindsTo s fd ⟨us, ks.zip ws⟩ (ps.zip (perm n1 n2 ix us ws))
theorem KTo.kb {K : PySem.W.Frag} {n1 n2 : Nat} {ix : List Nat} (h : KTo K fd ps ks n1 n2 ix) (hp : 0 < ps.length) : KBinds K fd ps ks (perm n1 n2 ix) (perm n1 n2 ix) where
  to := fun s us ws hk hl => by
    by_cases hc : us.length = n1 ∧ ws.length = n2
    · exact h s us ws hk hc.1 hc.2
    · unfold perm at hl
      rw [if_neg hc] at hl
      rw [List.length_nil] at hl
      omega
  rel := fun {vs us zs ws} r rz => by
    unfold perm
    rw [Vals.length r, Vals.length rz]
    split
    · exact Vals.pick (Vals.append r rz) ix
    · exact .nil
theorem SndE.callK {G : Gd} {n1 n2 : Nat} {ix : List Nat} {ta tk : TA} (ha : SndA G E ta mr) (hk : SndA G E tk mk) (hn : ∀ ρ S ds S', mr ρ S = .ok ds S' → ds.length = n1) (hn2 : ∀ ρ S ds S', mk ρ S = .ok ds S' → ds.length = n2) (hix : ∀ us ws : List D, us.length = n1 → ws.length = n2 → (perm n1 n2 ix us ws).length = n) :
    SndE G E (tCallK (spM G n m) (perm n1 n2 ix) E ta tk) (mCallK m n1 n2 ix mr mk) := fun σ H ρ φ R S rs rn =>
  Run.bnd (c' := fun us H1 Q => tk σ H1 fun ws H2 => spM G n m (perm n1 n2 ix us ws) H2 Q E) (ha σ H ρ φ R S rs rn) fun ds S1 φ1 xs H1 e l1 rs1 r1 =>
    Run.bnd (c' := fun ws H2 Q => spM G n m (perm n1 n2 ix xs ws) H2 Q E) (hk σ H1 ρ φ1 R S1 rs1 (rn.le l1)) fun es S2 φ2 ys H2 e2 l2 rs2 r2 => fun Q hq he hb => by
      refine ⟨φ2, R, S2, perm n1 n2 ix ds es, rs2, ?_, hix _ _ (hn _ _ _ _ e) (hn2 _ _ _ _ e2), hb, hq, he⟩
      unfold perm
      rw [RvL.length r1, RvL.length r2]
      split
      · exact RvL.pick (RvL.append (RvL.le l2 r1) r2) ix
      · exact RvL.nil
theorem me_callK {n1 n2 : Nat} {ix : List Nat} (F : FnOk X.prog X.w X.K X.mg X.base (L2.CX X.prog X.w) k f fd ps (spM (X.gd T) n m)) (hr : Room k X.A) (hg : Gl X x) (hm : X.mg x = some (.ref f)) (hk : PySem.W.keepIn X.K (.ref f) = true) (hb : KTo X.K fd ps ks n1 n2 ix) (hp : 0 < ps.length)
    (hx : Passes (L2.CX X.prog X.w) X E) (ha : MAn T X E (e :: es) mr) (hkw : MKn T X E kws mk) (hix : ∀ us ws : List D, us.length = n1 → ws.length = n2 → (perm n1 n2 ix us ws).length = n) (hn : (e :: es).length = n1 := by rfl) (hn2 : kws.length = n2 := by rfl)
    (hall : (backToKw pos (keywordEach kws X.env)).all (·.1.isSome) = true := by rfl) (hks : (backToKw pos (keywordEach kws X.env)).filterMap (·.1) = ks := by rfl)
    (hdb : (x == ("__debug__" : Str)) = false := by decide) (he : starEach (e :: es) X.env = (false, eval e X.env) :: starEach es X.env := by rfl)
    (hpl : ((backTo pos (starEach (e :: es) X.env)).any (·.1) || (backToKw pos (keywordEach kws X.env)).any (·.1.isNone)) = false := by rfl) : ME T X E (.Call (.Name x p) (e :: es) kws pos) (mCallK m n1 n2 ix mr mk) := by
  obtain ⟨⟨tr, pr, sr⟩, hl⟩ := ha
  obtain ⟨⟨tk, pk, sk⟩, hl2⟩ := hkw
  exact ⟨_, pe_callK F hr hg hm hk (hb.kb hp) hx pr pk hall hks hdb he hpl, SndE.callK sr sk (fun ρ S ds S' h => (hl ρ S ds S' h).trans hn) (fun ρ S ds S' h => (hl2 ρ S ds S' h).trans hn2) hix⟩
/-- by keywords alone -/
theorem pe_callK0 {CX : CXT} {sp : Sp} {tk : TA} {g : List Value → List Value → List Value} {gV : List V → List V → List V} (F : FnOk X.prog X.w X.K X.mg X.base CX k f fd ps sp) (hr : Room k X.A) (hg : Gl X x) (hm : X.mg x = some (.ref f)) (hk : PySem.W.keepIn X.K (.ref f) = true) (hb : KBinds X.K fd ps ks g gV) (hx : Passes CX X E)
    (hkw : PK X kws tk) (hall : (backToKw pos (keywordEach kws X.env)).all (·.1.isSome) = true := by rfl) (hks : (backToKw pos (keywordEach kws X.env)).filterMap (·.1) = ks := by rfl)
    (hdb : (x == ("__debug__" : Str)) = false := by decide)
    (hpl : ((backTo pos (starEach [] X.env)).any (·.1) || (backToKw pos (keywordEach kws X.env)).any (·.1.isNone)) = false := by rfl) :
    PE X (.Call (.Name x p) [] kws pos) (tCallK sp gV E tNil tk) := by
  refine ⟨fun pins s σ H Q I h => ?_⟩
  refine wpAny_Call_Name_kw (ld_glob I hg hm ?_ hdb)
  refine PySem.W.callWith_KW0 (h₀ := X.base) I.ok.mod.kin hk hall ?_ hpl
  refine thn (hkw.run pos pins s σ H _ I h) fun ws s2 ⟨zs, H2, I2, rz, q2⟩ => ⟨I2.kIn, ?_⟩
  rw [hks]
  exact run_fnk F hr hb hx I2 .nil rz q2
theorem me_callK0 {n2 : Nat} {ix : List Nat} (F : FnOk X.prog X.w X.K X.mg X.base (L2.CX X.prog X.w) k f fd ps (spM (X.gd T) n m)) (hr : Room k X.A) (hg : Gl X x) (hm : X.mg x = some (.ref f)) (hk : PySem.W.keepIn X.K (.ref f) = true) (hb : KTo X.K fd ps ks 0 n2 ix) (hp : 0 < ps.length)
    (hx : Passes (L2.CX X.prog X.w) X E) (hkw : MKn T X E kws mk) (hix : ∀ us ws : List D, us.length = 0 → ws.length = n2 → (perm 0 n2 ix us ws).length = n) (hn2 : kws.length = n2 := by rfl)
    (hall : (backToKw pos (keywordEach kws X.env)).all (·.1.isSome) = true := by rfl) (hks : (backToKw pos (keywordEach kws X.env)).filterMap (·.1) = ks := by rfl)
    (hdb : (x == ("__debug__" : Str)) = false := by decide)
    (hpl : ((backTo pos (starEach [] X.env)).any (·.1) || (backToKw pos (keywordEach kws X.env)).any (·.1.isNone)) = false := by rfl) : ME T X E (.Call (.Name x p) [] kws pos) (mCallK m 0 n2 ix mNil mk) := by
  obtain ⟨⟨tk, pk, sk⟩, hl2⟩ := hkw
  exact ⟨_, pe_callK0 F hr hg hm hk (hb.kb hp) hx pk hall hks hdb hpl, SndE.callK (ta := tNil) (fun σ H ρ φ R S rs rn => Run.ret rs RvL.nil fun Q q => q) sk (fun ρ S ds S' h => by cases h; rfl) (fun ρ S ds S' h => (hl2 ρ S ds S' h).trans hn2) hix⟩
end
end MM

/-! next(elt for target in iter if test, None): a generator expression that is drawn once. -/
namespace MM
open PySem L2 PyProof.Rows
/-- the block of a generator expression, run from s -/
abbrev Cx.gn (X : Cx) (s : Shared) (H : Hp) (cenv : Env) (fp : List Addr) : Cx :=
  { X with A := X.A.in1.in1.deeper cenv, s_0 := s, H_0 := H, env := cenv, outer := X.stack, stack := cenv :: X.stack, ex := fp, fn := fun _ => false, pn := [], xe := fun _ _ => False }
structure GnOk (N : List Str) (sc scope : Scope) (own : List (Str × Nat)) : Prop where
  kind : scope.kind = .function
  co : scope.isCoroutine = false
  cell : ∀ y ∈ scope.names, y.2 ≠ .cell
  dot : scope.names.lookup (".0" : Str) = some NameKind.local
  uniq : ∀ y ∈ scope.names, scope.names.lookup y.1 = some y.2
  ix : ∀ p ∈ own, N[p.2]? = some p.1
  free : ∀ y ∈ scope.names, y.2 = .free → sc.names.lookup y.1 = some .cell ∨ sc.names.lookup y.1 = some .free
  own : ∀ y ∈ scope.names, y.2 = .local → y.1 ∈ own.map (·.1) ∨ y.1 ∉ N
def gnC (N : List Str) (sc scope : Scope) (own : List (Str × Nat)) : Bool :=
  (match scope.kind with | .function => true | _ => false) && !scope.isCoroutine && (scope.names.all fun y => match y.2 with | .cell => false | _ => true) && decide (scope.names.lookup (".0" : Str) = some NameKind.local) &&
    (scope.names.all fun y => decide (scope.names.lookup y.1 = some y.2)) && (own.all fun p => decide (N[p.2]? = some p.1)) &&
    (scope.names.all fun y => match y.2 with
      | .free => (match sc.names.lookup y.1 with | some .cell => true | some .free => true | _ => false)
      | .local => decide (y.1 ∈ own.map (·.1)) || decide (y.1 ∉ N)
      | _ => true)
theorem gnOk_by {N : List Str} {sc scope : Scope} {own : List (Str × Nat)} (h : gnC N sc scope own = true) : GnOk N sc scope own := by
  unfold gnC at h
  simp only [Bool.and_eq_true, List.all_eq_true, decide_eq_true_eq, Bool.not_eq_true'] at h
  obtain ⟨⟨⟨⟨⟨⟨h1, h2⟩, h3⟩, h4⟩, h5⟩, h6⟩, h7⟩ := h
  refine ⟨?_, h2, fun y hy e => ?_, h4, h5, h6, fun y hy e => ?_, fun y hy e => ?_⟩
  · cases hk : scope.kind with
    | function => rfl
    | _ => rw [hk] at h1; cases h1
  · have := h3 y hy
    rw [e] at this
    cases this
  · have := h7 y hy
    rw [e] at this
    cases hl : sc.names.lookup y.1 with
    | none => rw [hl] at this; cases this
    | some k =>
      rw [hl] at this
      cases k with
      | cell => exact .inl rfl
      | free => exact .inr rfl
      | _ => cases this
  · have := h7 y hy
    rw [e] at this
    simpa using this
section
variable {X : Cx} {pins : List (Addr × Obj)} {σ : L2.St} {H : Hp} {s : Shared}
theorem gen_start {scope : Scope} {own : List (Str × Nat)} {fp : List Addr} {code : Value} {h' : Heap} {m0 : Str → Option Value} {g' : Array GenState} {tk : Nat} (I : Inv X pins σ H s) (ok : GnOk X.N X.env.scope scope own) (hN : X.N.Nodup) (hA : X.A.handled = none) (hfp : ∀ b ∈ fp, FpOk X pins H b ∧ b < s.heap.objs.size)
    (kp : ∀ b o, s.heap.get? b = some o → h'.get? b = some o) (hn : h'.Ns s.heap.objs.size m0) (hg : AllBare g') :
    Inv (Cx.gn X s H (genEnv scope (cloFrom X.env.cells scope.names []) s.heap.objs.size code builtinsNs X.env) fp) [] (wipe σ (own.map (·.2))) H { s with heap := h', gens := g', toks := tk } := by
  have hfree : ∀ y ∈ scope.names, y.2 = .free → ∃ c, X.env.cells.lookup y.1 = some c := fun y hy e => by
    rcases ok.free y hy e with k | k
    · exact I.ok.has _ (.inl k)
    · exact I.ok.has _ (.inr k)
  generalize hcenv : genEnv scope (cloFrom X.env.cells scope.names []) s.heap.objs.size code builtinsNs X.env = cenv
  have hL : cenv.locals = s.heap.objs.size := by rw [← hcenv]; rfl
  have hcl : cenv.cells = cloFrom X.env.cells scope.names [] := by rw [← hcenv]; rfl
  have hsc : cenv.scope = scope := by rw [← hcenv]; rfl
  have cm : ∀ {y c}, cenv.cells.lookup y = some c → X.env.cells.lookup y = some c ∧ c < s.heap.objs.size := fun {y c} e => by
    rw [hcl] at e
    rcases cloFrom_mem (PySem.mem_of_lookup e) with hm | ⟨h1, rfl⟩
    · cases hm
    · obtain ⟨c, hc⟩ := hfree _ h1 rfl
      rw [hc]
      obtain ⟨w, z⟩ := I.cell _ _ hc
      exact ⟨rfl, z.lt⟩
  have look : ∀ {y}, scope.names.lookup y = some .free → ∃ c, cenv.cells.lookup y = some c ∧ X.env.cells.lookup y = some c := fun {y} hl => by
    have hy : (y, NameKind.free) ∈ scope.names := PySem.mem_of_lookup hl
    obtain ⟨c', e'⟩ := mem_lookup (cloFrom_has (cells := X.env.cells) (acc := []) hy)
    rw [← hcl] at e'
    exact ⟨c', e', (cm e').1⟩
  have kinds : ∀ {y k}, cenv.kindOf y = some k → scope.names.lookup y = some k := fun {y k} e => by
    unfold Env.kindOf at e
    rw [hsc] at e
    exact e
  have okB : (Cx.gn X s H cenv fp).Ok := by
    refine ⟨I.ok.mod, by show cenv.scope.kind = _; rw [hsc]; exact ok.kind, by show cenv.globals = _; rw [← hcenv]; exact I.ok.glob, by show cenv.builtins = _; rw [← hcenv]; rfl, by show s.heap.objs.size ≤ cenv.locals; rw [hL]; exact Nat.le_refl _,
      fun y z c e1 e2 => I.ok.inj y z c (cm e1).1 (cm e2).1, fun y hy => ?_, fun y c z e => (nomatch z), fun _ => hA, ?_, .inr ⟨rfl, by show cenv.frame = some cenv.locals; rw [← hcenv]; rfl⟩, fun b hb => ⟨?_, fun y c e z => ?_⟩, I.bs, Nat.le_trans I.ok.bsz I.sz, fun b o e hb => ?_, fun b hb z => ?_, I.stack, I.stkFree⟩
    · show ∃ c, cenv.cells.lookup y = some c
      rcases hy with hy | hy
      · exact absurd rfl (ok.cell _ (PySem.mem_of_lookup (kinds hy)))
      · obtain ⟨c, h1, _⟩ := look (kinds hy)
        exact ⟨c, h1⟩
    · show (X.A.in1.in1.deeper cenv).frames = some (cenv :: X.stack)
      show X.A.frames.map (cenv :: ·) = some (cenv :: X.stack)
      rw [I.ok.frames]
      rfl
    · show b ≠ cenv.locals
      rw [hL]; exact Nat.ne_of_lt (hfp b hb).2
    · exact (hfp b hb).1.2.2.2.2.1 y c (cm e).1 z
    · rcases (hfp b hb).1.2.2.2.1 with z | z
      · exact I.ok.noex b o e z
      · exact absurd (Nat.lt_of_lt_of_le (Heap.lt_size e) (Nat.le_trans I.ok.bsz z)) (Nat.lt_irrefl _)
    · rcases List.mem_cons.mp (I.stkSub b z) with z | z
      · exact (hfp b hb).1.2.1 z
      · exact (hfp b hb).1.2.2.1 z
  refine ⟨okB, rfl, hg, Un.kept kp, ⟨m0, ?_, fun i y av e1 e2 e3 => ?_⟩, fun y c e => ?_, ?_, fun y c e => ?_, fun p hp => ?_, I.hok.kept kp, by rw [wipe_length]; exact I.len⟩
  · show Heap.Ns _ cenv.locals _
    rw [hL]
    exact hn
  · obtain ⟨e2, hne⟩ := wipe_some e2
    have hfr : scope.names.lookup y = some .free := by
      have no : ¬ scope.names.lookup y = some .local := fun e => by
        rcases ok.own _ (PySem.mem_of_lookup e) rfl with e' | e'
        · obtain ⟨p, hp, hpy⟩ := List.mem_map.mp e'
          have e3 := ok.ix p hp
          have : p.1 = y := hpy
          rw [this] at e3
          exact hne (List.mem_map.mpr ⟨p, hp, nodup_ix hN e3 e1⟩)
        · exact e' (List.mem_of_getElem? e1)
      have e3 : Vis cenv.scope y := e3
      unfold Vis at e3
      rw [hsc] at e3
      rcases e3 with e3 | e3 | e3
      · exact absurd e3 no
      · exact absurd rfl (ok.cell _ (PySem.mem_of_lookup e3))
      · exact e3
    obtain ⟨m, hn, hl⟩ := I.loc
    have hvis : Vis X.env.scope y := (ok.free _ (PySem.mem_of_lookup hfr) rfl).elim (fun k => .inr (.inl k)) (fun k => .inr (.inr k))
    obtain ⟨w, r, q⟩ := hl i y av e1 e2 hvis
    refine ⟨w, r, .inr ⟨.inr (by show cenv.kindOf y = _; unfold Env.kindOf; rw [hsc]; exact hfr), ?_⟩⟩
    obtain ⟨c, h1, h2⟩ := look hfr
    rcases q with ⟨k, _⟩ | ⟨_, c', e', z⟩
    · have k : X.env.scope.names.lookup y = some .local := k
      rcases ok.free _ (PySem.mem_of_lookup hfr) rfl with k' | k' <;> rw [show X.env.scope.names.lookup y = _ from k'] at k <;> cases k
    · rw [h2] at e'; cases e'
      exact ⟨c, h1, z.keeps kp⟩
  · obtain ⟨w, z⟩ := I.cell y c (cm e).1
    exact ⟨w, z.keeps kp⟩
  · show H cenv.locals = none
    rw [hL]; exact I.hok.fresh (Nat.le_refl _)
  · exact I.freeC y c (cm e).1
  · exact absurd (show p ∈ ([] : List (Addr × Obj)) ++ [] from hp) (by simp)
theorem over_compLoop {A : Around} {elt : Expr} {gens : List Comprehension} {scope : Scope} {pos : Pos} {it acc : Value} {env : Env} : A.over (.compLoop (.GeneratorExp elt gens scope pos) 0 it acc env) [] = A.deeper env := by
  cases A
  rfl
theorem over_compStart {A : Around} {elt : Expr} {gens : List Comprehension} {scope : Scope} {pos : Pos} {it acc : Value} {env : Env} : A.over (.compStart (.GeneratorExp elt gens scope pos) 0 it acc env) [] = A.deeper env := by
  cases A
  rfl
end
section
variable {X : Cx} {σ : L2.St} {H0 : Hp} {sg : Shared} {cenv : Env} {fp : List Addr} {Q : VK} {elt tg iter : Expr} {ifs : List Expr} {scope : Scope} {pos : Pos} {J : It} {it : Addr} {tn : Nat → Heap → Prop} {vs : List Nat} {g : TG} {tt : TT} {te : TE} {W : Nat → Nat → Hp → Prop}
/-- drawn: a value; at the end -/
def YOk (X : Cx) (Q : VK) (v : Value) (s : Shared) : Prop := ∃ pins σ' H' y, Inv X pins σ' H' s ∧ RelV y v ∧ Q y H'
def NOk (X : Cx) (Q : VK) (s : Shared) : Prop := ∃ pins σ' H', Inv X pins σ' H' s ∧ Q .non H'
theorem seg_draw (hc : X.calm = true) (hco : cenv.scope.isCoroutine = false) (pg : PG (Cx.gn X sg H0 cenv fp) tg g) (pt : PTs (Cx.gn X sg H0 cenv fp) ifs tt) (pe : PE (Cx.gn X sg H0 cenv fp) elt te) (Tn : Turn X.prog X.w X.K tg J fp it tn)
    (turn : ∀ i m H, W i m H → (J.stop i H ∧ Q .non H) ∨ (J.go i H ∧ ∃ Nx : Hp → Prop, (∀ H', Nx H' → ∃ m', m' < m ∧ W (i + 1) m' H') ∧ ∀ x H', J.yld i H x H' → g x (wipe σ vs) H' fun σ2 H2 => wipe σ2 vs = wipe σ vs ∧ tt σ2 H2 fun b H3 =>
      if b = true then te σ2 H3 Q else Nx H3)) :
    ∀ (m i : Nat) (H5 : Hp) (s5 s₀ : Shared), Inv (Cx.gn X sg H0 cenv fp) [] (wipe σ vs) H5 s5 → tn i s5.heap → (∀ b ∈ fp, H5 b = none) → W i m H5 →
      Seg (model X.prog X.w) X.A.in1.in1 (fun n s₀ r s₁ => r = .ok .next ∧ NOk (Cx.gn X sg H0 cenv fp) Q s₁) (fun n s₀ v s kap => YOk (Cx.gn X sg H0 cenv fp) Q v s) 1 s₀
        (.compLoop (.GeneratorExp elt [⟨tg, iter, ifs, 0⟩] scope pos) 0 (.ref it) .none cenv)
        ((model X.prog X.w).den (.compLoop (.GeneratorExp elt [⟨tg, iter, ifs, 0⟩] scope pos) 0 (.ref it) .none cenv)) [] s5 := by
  intro m
  induction m using Nat.strongRecOn with
  | ind m ih =>
  intro i H5 s5 s₀ I5 st5 n5 w5
  have stat : ∀ {σ' : L2.St} {H' : Hp} {s' : Shared}, Inv (Cx.gn X sg H0 cenv fp) [] σ' H' s' → (∀ b ∈ fp, H' b = none) → ∀ b ∈ fp, FpOk (Cx.gn X sg H0 cenv fp) [] H' b := fun {σ' H' s'} I' hn b hb =>
    ⟨hn b hb, (I'.ok.exf b hb).1, I'.ok.exfs b hb, .inl hb, fun x c e => (I'.ok.exf b hb).2 x c e, fun p hp => absurd (show p ∈ ([] : List (Addr × Obj)) ++ [] from hp) (by simp)⟩
  show Seg _ _ _ _ _ s₀ _ ((compTurn (.GeneratorExp elt [⟨tg, iter, ifs, 0⟩] scope pos) 0 (.ref it) .none cenv).onRaise (leaving cenv)) [] s5
  rw [compTurn_gen, Sem.onRaise_eq_wrap]
  refine seg_bind_wrap (wpAny_standAt ?_)
  rcases turn i m H5 w5 with ⟨stop, qq⟩ | ⟨go, Nx, hNx, step⟩
  · have td := Tn.done (Cx.gn X sg H0 cenv fp) rfl rfl rfl hc i [] s5 _ H5 (fun _ _ => False) I5 (stat I5 n5) st5 stop
    refine seg_bind_wrap ?_
    rw [over_compLoop]
    refine thnF td fun r s6 ⟨hr, I6⟩ => ?_
    subst hr
    exact seg_end (.ok .next) ⟨rfl, _, _, _, I6, qq⟩
  · have ti := Tn.item (Cx.gn X sg H0 cenv fp) rfl rfl rfl hc i [] s5 _ H5 (fun _ _ => False) I5 (stat I5 n5) st5 go
    refine seg_bind_wrap ?_
    rw [over_compLoop]
    refine thnF ti fun r s6 ⟨u, hr, h6⟩ => ?_
    subst hr
    refine seg_bind_wrap ?_
    rw [over_compLoop]
    refine thnF h6 fun _ s7 ⟨x, H7, I7, r7, y7, st7, n7⟩ => ?_
    have I7' := I7.pinned (stat I7 n7) (Tn.obj _ _ st7)
    refine seg_bind_wrap ?_
    rw [over_compLoop]
    refine thnF (pg.run _ s7 _ H7 x u _ I7' r7 (step x H7 y7)) fun _ s8 ⟨σ8, H8, I8, hw8, q8⟩ => ?_
    refine seg_bind_wrap ?_
    rw [over_compLoop]
    refine thnF (pt.run _ s8 σ8 H8 _ I8 q8) fun b s9 ⟨H9, I9, q9⟩ => ?_
    cases b with
    | false =>
      simp only [Bool.false_eq_true, if_false] at q9 ⊢
      obtain ⟨m', hm, w'⟩ := hNx H9 q9
      have pin' : ∀ b ∈ fp, ∀ o, s7.heap.get? b = some o → s9.heap.get? b = some o ∧ H9 b = none := fun b hb o e =>
        let z := I9.pin (b, o) (List.mem_append_right _ (List.mem_append_right _ (mem_pinsAt hb e)))
        ⟨z.1, z.2.1⟩
      have hl : (wipe σ vs).length = σ8.length := by rw [← hw8, wipe_length]
      refine seg_again rfl (ih m' hm (i + 1) H9 s9 s₀ ((I9.unpinned (pins := [])).weak hl (fun j v e => ?_)) (Tn.keep _ _ _ st7 fun b hb o e => (pin' b hb o e).1) (fun b hb => ?_) w')
      · rw [← hw8] at e
        exact (wipe_some e).1
      · obtain ⟨o, e, _⟩ := Tn.obj _ _ st7 b hb
        exact (pin' b hb o e).2
    | true =>
      simp only [if_true] at q9 ⊢
      have hy : ∀ v, yieldOut cenv v = yieldValue v := fun v => by simp only [yieldOut, hco, Bool.false_eq_true, if_false]
      simp only [hy]
      rw [Sem.bind_eq_wrap', Sem.bind_eq_wrap', Sem.wrap_wrap, Sem.wrap_wrap]
      refine seg_wrap ?_
      rw [over_compLoop]
      refine thnF (pe.run _ s9 σ8 H9 _ I9 q9) fun z s10 ⟨yv, H10, I10, r10, q10⟩ => ?_
      exact seg_at (seg_yield rfl rfl rfl ⟨_, _, _, _, I10, r10, q10⟩)
theorem seg_begin (hc : X.calm = true) (hco : cenv.scope.isCoroutine = false) (pg : PG (Cx.gn X sg H0 cenv fp) tg g) (pt : PTs (Cx.gn X sg H0 cenv fp) ifs tt) (pe : PE (Cx.gn X sg H0 cenv fp) elt te) (Tn : Turn X.prog X.w X.K tg J fp it tn)
    (turn : ∀ i m H, W i m H → (J.stop i H ∧ Q .non H) ∨ (J.go i H ∧ ∃ Nx : Hp → Prop, (∀ H', Nx H' → ∃ m', m' < m ∧ W (i + 1) m' H') ∧ ∀ x H', J.yld i H x H' → g x (wipe σ vs) H' fun σ2 H2 => wipe σ2 vs = wipe σ vs ∧ tt σ2 H2 fun b H3 =>
      if b = true then te σ2 H3 Q else Nx H3))
    (m : Nat) (H5 : Hp) (s5 s₀ : Shared) (I5 : Inv (Cx.gn X sg H0 cenv fp) [] (wipe σ vs) H5 s5) (st5 : tn 0 s5.heap) (n5 : ∀ b ∈ fp, H5 b = none) (w5 : W 0 m H5) :
      Seg (model X.prog X.w) X.A.in1.in1 (fun n s₀ r s₁ => r = .ok .next ∧ NOk (Cx.gn X sg H0 cenv fp) Q s₁) (fun n s₀ v s kap => YOk (Cx.gn X sg H0 cenv fp) Q v s) 1 s₀
        (.compStart (.GeneratorExp elt [⟨tg, iter, ifs, 0⟩] scope pos) 0 (.ref it) .none cenv)
        ((model X.prog X.w).den (.compStart (.GeneratorExp elt [⟨tg, iter, ifs, 0⟩] scope pos) 0 (.ref it) .none cenv)) [] s5 := by
  have loop := seg_draw (iter := iter) (scope := scope) (pos := pos) hc hco pg pt pe Tn turn m 0 H5 s5 s₀ I5 st5 n5 w5
  show Seg _ _ _ _ _ s₀ _ ((compStart (.GeneratorExp elt [⟨tg, iter, ifs, 0⟩] scope pos) 0 (.ref it) .none cenv).onRaise (leaving cenv)) [] s5
  unfold compStart
  rw [Sem.onRaise_eq_wrap]
  show Seg _ _ _ _ _ s₀ _ ((ask >>= _).wrap _ _ _ _) [] s5
  refine seg_bind_wrap (wpAny_askSetting ?_)
  split
  · exact seg_again rfl loop
  · first
      | exact seg_bind_wrap (wpAny_rule (seg_bind_wrap (wpAny_standAt (seg_bind_wrap (Tn.self _ 0 s5 _ _ st5 (seg_again rfl loop))))))
      | (refine seg_bind_wrap (wpAny_rule ?_); show Seg _ _ _ _ _ s₀ _ ((standAt iter.pos >>= _).wrap _ _ _ _) [] s5; exact seg_bind_wrap (wpAny_standAt (seg_bind_wrap (Tn.self _ 0 s5 _ _ st5 (seg_again rfl loop)))))
end
section
variable {X : Cx} {elt tg iter : Expr} {ifs : List Expr} {scope : Scope} {own : List (Str × Nat)} {pos gpos p cp : Pos} {cj k : Nat} {wi : TI} {g : TG} {tt : TT} {te : TE} {c P : Addr}
/-- next(elt for target in iter if .., None): the table of the def's code may have grown -/
def tNext (P : Addr) (wi : TI) (g : TG) (tt : TT) (te : TE) (vs : List Nat) : TE := fun σ H Q => wi σ H fun J H1 => GxR.TabG H1 P ∧ ∀ H2, GxR.Tabbed P H1 H2 → ∃ W : Nat → Nat → Hp → Prop, (∃ m, W 0 m H2) ∧ ∀ i m H, W i m H →
  (J.stop i H ∧ Q .non H) ∨ (J.go i H ∧ ∃ Nx : Hp → Prop, (∀ H', Nx H' → ∃ m', m' < m ∧ W (i + 1) m' H') ∧ ∀ x H', J.yld i H x H' → g x (wipe σ vs) H' fun σ2 H2 => wipe σ2 vs = wipe σ vs ∧ tt σ2 H2 fun b H3 => if b = true then te σ2 H3 Q else Nx H3)
theorem boot_next' : bootBuiltins ("next" : Str) = some (.builtin "next") := by decide +kernel
theorem pe_nextgen (hc : X.calm = true) (hN : X.N.Nodup) (hr : Room (k + 3) X.A) (hg : Gl X "next") (hm : X.mg "next" = none) (TB : GxR.TabB X.base X.mg c P) (hcode : X.env.code = .ref c) (hi : PI X tg iter wi) (ok : GnOk X.N X.env.scope scope own)
    (pgG : ∀ (s : Shared) (H : Hp) (C : Addr) (cl : List (Str × Addr)) (code : Value) (fp : List Addr), PG (Cx.gn X s H (genEnv scope cl C code builtinsNs X.env) fp) tg g) (ptG : ∀ (s : Shared) (H : Hp) (C : Addr) (cl : List (Str × Addr)) (code : Value) (fp : List Addr), PTs (Cx.gn X s H (genEnv scope cl C code builtinsNs X.env) fp) ifs tt)
    (peG : ∀ (s : Shared) (H : Hp) (C : Addr) (cl : List (Str × Addr)) (code : Value) (fp : List Addr), PE (Cx.gn X s H (genEnv scope cl C code builtinsNs X.env) fp) elt te) (hs : ∀ x, genFold iter X.env x = pure x := by intro _; rfl)
    (he : starEach [.GeneratorExp elt [⟨tg, iter, ifs, 0⟩] scope gpos, .Constant .none cj cp] X.env = (false, eval (.GeneratorExp elt [⟨tg, iter, ifs, 0⟩] scope gpos) X.env) :: starEach [.Constant .none cj cp] X.env := by rfl)
    (he2 : starEach [.Constant .none cj cp] X.env = (false, eval (.Constant .none cj cp) X.env) :: starEach [] X.env := by rfl) (hpl : (backTo pos (starEach [.Constant .none cj cp] X.env)).any (·.1) = false := by rfl) :
    PE X (.Call (.Name "next" p) [.GeneratorExp elt [⟨tg, iter, ifs, 0⟩] scope gpos, .Constant .none cj cp] [] pos) (tNext P wi g tt te (own.map (·.2))) := by
  refine ⟨fun pins s σ H Q I h => ?_⟩
  have hfree : ∀ y ∈ scope.names, y.2 = .free → ∃ c, X.env.cells.lookup y.1 = some c := fun y hy e => by
    rcases ok.free y hy e with k | k
    · exact I.ok.has _ (.inl k)
    · exact I.ok.has _ (.inr k)
  refine wpAny_Call_Name_kw (ld_blt I hg hm boot_next' ?_)
  refine PyProof.Rows.callWith_builtin1 ?_ he hpl
  rw [he]
  show wpAny _ _ (spliced ((false, eval (.GeneratorExp elt [⟨tg, iter, ifs, 0⟩] scope gpos) X.env) :: backTo pos (starEach [.Constant .none cj cp] X.env))) _ _ s
  refine Calls.spliced_cons (wpAny_GeneratorExp_make ok.co (closure_ok hfree) ok.cell ok.dot ok.kind hr.depth ?_ hs)
  refine thn (hi.run pins s σ H _ I h) fun xv s1 hx => thn hx fun itv s2 h2 => ?_
  obtain ⟨it, fp, tn, J, H2, e, I2, Tn, st2, f2, ⟨ps, hP, ht⟩, q⟩ := h2
  subst e
  refine ⟨I2.nolimit, ?_⟩
  have hPs : s2.heap.get? P = some { cls := .none, data := .fields ps } := I2.hok P _ hP
  have cd : PySem.W.CodeHd s2.heap c P := TB.code.keeps fun b u e => I2.bk b u e
  have fpP : ∀ b ∈ fp, b ≠ P := fun b hb z => by
    have := (f2 b hb).1
    rw [z, hP] at this
    cases this
  -- behind the code's making
  have cont : ∀ (code : Value) (h3 : Heap) (tk : Nat) (more : Array Value), (∀ b o, b ≠ P → s2.heap.get? b = some o → h3.get? b = some o) → h3.get? P = some { cls := .none, data := .fields (ps ++ more) } → TriplesOk (ps ++ more).toList →
      wpAny (model X.prog X.w) X.A (builtinsFor X.env.globals X.env.builtins) (fun bi s₄ =>
        ∀ h', h'.Ns s₄.heap.objs.size (fun y => if y = ".0" then some (.ref it) else none) → Heap.SameBut s₄.heap.objs.size (s₄.heap.push { cls := .type "frame", data := .dict #[] }) h' →
          wpAny (model X.prog X.w) X.A (spliced (backTo pos (starEach [.Constant .none cj cp] X.env))) (fun vs s₂ => wpAny (model X.prog X.w) X.A (call (.builtin "next") (.ref h'.objs.size :: vs)) (EP X pins σ Q) X.xe s₂) X.xe { s₄ with
            gens := s₄.gens.push (.fresh (.compStart (.GeneratorExp elt [⟨tg, iter, ifs, 0⟩] scope gpos) 0 (.ref it) .none (genEnv scope (cloFrom X.env.cells scope.names []) s₄.heap.objs.size code bi X.env))),
            toks := s₄.toks + 1 + 1 + 1,
            heap := h'.push { cls := .type "generator", data := .fields #[.int s₄.gens.size 0, .str "<genexpr>" (s₄.toks + 1), .str (X.env.qual ++ "<genexpr>") (s₄.toks + 1 + 1)] } }) X.xe { s2 with heap := h3, toks := tk } := by
    intro code h3 tk more hx hP3 ht3
    obtain ⟨bm, ob, e1, e2, e3, e4, e5, e6, e7, e8⟩ := TB.bm
    have I3 : Inv X pins σ (upd H2 P (.tbl (ps ++ more))) { s2 with heap := h3, toks := tk } := GxR.inv_tab (g' := s2.gens) (d' := s2.drawn) I2 hP hx hP3 I2.bare
    have hgP : mainGlobals ≠ P := TB.gP
    refine wpAny_builtinsFor (m := X.mg) (by rw [I3.ok.glob]; exact I3.mod.glob.keeps I3.bk) e1 e2 (I3.bk _ _ e5) e6 e7 e8 ?_
    intro h' hns hsb
    have H3T : GxR.Tabbed P H2 (upd H2 P (.tbl (ps ++ more))) := ⟨⟨_, upd_same, ht3⟩, fun b hb => upd_ne hb⟩
    obtain ⟨W, ⟨m0, w0⟩, turn⟩ := q _ H3T
    generalize hH3 : upd H2 P (.tbl (ps ++ more)) = H3 at I3 w0 H3T
    have n3 : ∀ b ∈ fp, H3 b = none := fun b hb => by
      rw [H3T.2 b (fpP b hb)]
      exact (f2 b hb).1
    have sz2 : ∀ b ∈ fp, b < s2.heap.objs.size := fun b hb => by
      obtain ⟨o, e, _⟩ := Tn.obj _ _ st2 b hb
      exact Heap.lt_size e
    have sz3 : ∀ b ∈ fp, b < h3.objs.size := fun b hb => by
      obtain ⟨o, e, _⟩ := Tn.obj _ _ st2 b hb
      exact Heap.lt_size (hx b o (fpP b hb) e)
    have st3 : tn 0 h3 := Tn.keep _ _ _ st2 fun b hb o e => hx b o (fpP b hb) e
    have f3 : ∀ b ∈ fp, FpOk X pins H3 b ∧ b < ({ s2 with heap := h3, toks := tk } : Shared).heap.objs.size := fun b hb => ⟨⟨n3 b hb, (f2 b hb).2⟩, sz3 b hb⟩
    -- all that stood stands
    have kp' : ∀ b o, h3.get? b = some o → h'.get? b = some o := fun b o e => (hsb.2 b (Nat.ne_of_lt (Heap.lt_size e))).trans (Heap.get?_push_of_some _ e)
    generalize ha : h'.objs.size = a
    generalize hgo : ({ cls := .type "generator", data := .fields #[.int s2.gens.size 0, .str "<genexpr>" (tk + 1), .str (X.env.qual ++ "<genexpr>") (tk + 1 + 1)] } : Obj) = go
    have kp5 : ∀ b o, h3.get? b = some o → (h'.push go).get? b = some o := fun b o e => Heap.get?_push_of_some _ (kp' b o e)
    have hns5 : (h'.push go).Ns h3.objs.size (fun y => if y = ".0" then some (.ref it) else none) := hns.keeps fun b o e => Heap.get?_push_of_some _ e
    have hgen : (h'.push go).IsGen a s2.gens.size := by
      refine ⟨_, _, _, by rw [← ha]; exact Heap.get?_push_size _ (by rw [← hgo]; rfl), by rw [← hgo], by rw [← hgo], by rw [← hgo]⟩
    -- the second argument
    rw [he2]
    show wpAny _ _ (spliced ((false, eval (.Constant .none cj cp) X.env) :: backTo pos (starEach [] X.env))) _ _ _
    refine Calls.spliced_cons (Constant_none ?_)
    refine Calls.spliced_nil ?_
    -- the call
    refine PySem.Calls.call_function_entry (by decide +kernel) (by decide +kernel) PySem.W.kdk_entry_next (PySem.W.kdk_args_next2 _ _) ?_
    unfold Builtin.«next»
    refine wpAny_bind (m := someArgs "next" 1 2 _) (wpAny_of_eq (a := [Value.ref a, Value.none]) (by first | rfl | kernel_rfl!) ?_)
    dsimp only
    refine wpAny_bind (wpAny_specialOf (name := Str.ofString "__next__") hgen.typeIs slot_gen_next.lookup ?_)
    refine wpAny_ite_split (fun hab => absurd hab (by decide)) (fun _ => ?_)
    have hh : X.A.handled = none := I3.ok.hd hc
    have lim : (h'.push go).NoLimit := I3.nolimit.keeps kp5
    have gs0 : (s2.gens.push (.fresh (.compStart (.GeneratorExp elt [⟨tg, iter, ifs, 0⟩] scope gpos) 0 (.ref it) .none (genEnv scope (cloFrom X.env.cells scope.names []) h3.objs.size code builtinsNs X.env))))[s2.gens.size]? = some (.fresh (.compStart (.GeneratorExp elt [⟨tg, iter, ifs, 0⟩] scope gpos) 0 (.ref it) .none (genEnv scope (cloFrom X.env.cells scope.names []) h3.objs.size code builtinsNs X.env))) := by simp
    -- back in the def's context
    have back : ∀ {pins' : List (Addr × Obj)} {σ' : L2.St} {H' : Hp} {s' s'' : Shared}, Inv (Cx.gn X { s2 with heap := h3, toks := tk } H3 (genEnv scope (cloFrom X.env.cells scope.names []) h3.objs.size code builtinsNs X.env) fp) pins' σ' H' s' → s''.os = s'.os → (∀ b o, s'.heap.get? b = some o → s''.heap.get? b = some o) → AllBare s''.gens → Inv X pins σ H' s'' := fun {pins' σ' H' s' s''} I6 ho hk hb =>
      I3.call' (ch := fp) (ho.trans I6.os) (I6.base.trans (Un.kept hk)) (I6.hok.kept hk) hb fun b hb' => ⟨(f2 b hb').2.2.2.1, (f2 b hb').2.1, (f2 b hb').2.2.2.2.1, (f2 b hb').2.2.2.2.2⟩
    refine wpAny_bind (wpAny_pyNext_genexpQ (n := 1) (P := fun _ _ s₁ => NOk (Cx.gn X { s2 with heap := h3, toks := tk } H3 (genEnv scope (cloFrom X.env.cells scope.names []) h3.objs.size code builtinsNs X.env) fp) Q s₁)
      (Y := fun n s₀ v s kap => YOk (Cx.gn X { s2 with heap := h3, toks := tk } H3 (genEnv scope (cloFrom X.env.cells scope.names []) h3.objs.size code builtinsNs X.env) fp) Q v s) hh lim hr.depth hgen gs0 ⟨rfl, ?_⟩ (fun v s₁ gs' hgb hy => ?_) fun s₁ hn h6 hk6 => ?_)
    · refine seg_begin hc ok.co (pgG _ _ _ _ _ _) (ptG _ _ _ _ _ _) (peG _ _ _ _ _ _) Tn turn m0 H3 _ _ ?_ (Tn.keep _ _ _ st3 fun b _ o e => kp5 b o e) n3 w0
      exact gen_start (s := { s2 with heap := h3, toks := tk }) I3 ok hN hh f3 kp5 hns5 (allBare_setGen (s := { s2 with gens := s2.gens.push _ }) (I2.bare.push rfl) rfl)
    · obtain ⟨pins', σ', H', y, I6, ry, qy⟩ := hy
      exact wpAny_pure ⟨_, rfl, y, H', back I6 rfl (fun _ _ e => e) (allBare_setGen I6.bare hgb), ry, qy⟩
    · obtain ⟨pins', σ', H', I6, qy⟩ := hn
      exact wpAny_pure ⟨_, rfl, .non, H', back I6 rfl hk6 (allBare_setGen I6.bare rfl), rfl, qy⟩
  cases hf : codeAmong gpos ps.toList with
  | none =>
    refine wpAny_genexprCodeX hcode (cd.code hPs ht) (cd.tab hPs) hf fun c' h' tk hx hge hlt hco' _ htab' _ => ?_
    obtain ⟨o1, vs, f1, tf, fl, tg, inF, tx, tt', op, _, _, _, _, _, _, _, _, _, htr, _⟩ := hco'
    exact cont _ h' tk _ (fun b o hb e => hx b o hb e) htab'.2 htr
  | some cv =>
    refine wpAny_genexprCode_hit hcode (cd.code hPs ht) hf ?_
    exact cont cv s2.heap s2.toks #[] (fun b o _ e => e) (by simpa using hPs) (by simpa using ht)
end
end MM

/-! The mirror of next(.., None). -/
namespace MM
open PySem L2 PyProof.Rows
def nxL (g : MG0) (tt : MT0) (te : ME0) : Nat → Nat → ItD → Rho → Store → Res D
  | 0, _, _, _, _ => .bad
  | f + 1, i, it, ρ, S => match it.get i S with
    | none => .bad
    | some none => .ok .non S
    | some (some d) => (g d ρ S).calm.bind fun ρ1 S1 => (tt ρ1 S1).calm.bind fun b S2 => if b = true then (te ρ1 S2).calm else nxL g tt te f (i + 1) it ρ S2
def mNext (mi : MI0) (g : MG0) (tt : MT0) (te : ME0) (vs : List Nat) : ME0 := fun ρ S => (mi ρ S).bind fun it S1 => nxL g tt te BIG 0 it (wipeD ρ vs) S1
section
variable {G : Gd} {E : XK} {R φ : List Addr} {S : Store} {H : Hp}
theorem Le.tabbed {P : Addr} {H' : Hp} (rs : Rs G R φ S H) (hP : GxR.TabG H P) (h : GxR.Tabbed P H H') : Le φ H φ H' ∧ Rs G R φ S H' := by
  obtain ⟨ps, eP, tP⟩ := hP
  obtain ⟨qs, eQ, tQ⟩ := h.1
  have l : Le φ H φ H' := by
    refine ⟨⟨[], (List.append_nil _).symm⟩, fun a o e n q => ⟨?_, n⟩, fun a vs e => ?_, fun a e => ?_, fun a ⟨rs, e, t⟩ => ?_⟩
    · rw [h.2 a (fun z => by rw [z, eP] at e; exact q ps (Option.some.inj e).symm)]
      exact e
    · rcases e with e | ⟨ob, e⟩
      · exact .inl (by rw [h.2 a (fun z => by rw [z, eP] at e; cases e)]; exact e)
      · exact .inr ⟨ob, by rw [h.2 a (fun z => by rw [z, eP] at e; cases e)]; exact e⟩
    · by_cases z : a = P
      · rw [z, eQ]
        exact fun q => nomatch q
      · rw [h.2 a z]
        exact e
    · by_cases z : a = P
      · rw [z]
        exact ⟨qs, eQ, tQ⟩
      · exact ⟨rs, by rw [h.2 a z]; exact e, t⟩
  refine ⟨l, rs.nd, rs.len, rs.apart, fun i o a e1 e2 => ?_, fun a ha => l.ne a (rs.res a ha), fun a ha => l.tab a (rs.tabs a ha)⟩
  refine Ro.le l (rs.obj i o a e1 e2) (h.2 a ?_)
  rintro rfl
  obtain ⟨u, hu⟩ := Ro.there (rs.obj i o a e1 e2)
  have ro := rs.obj i o a e1 e2
  cases o with
  | lst ds =>
    obtain ⟨vs, e, _⟩ := ro
    rw [eP] at e
    cases e
theorem nx_run {t : TG} {tt : TT} {te : TE} {g : MG0} {mt : MT0} {me : ME0} {it : ItD} {J : It} {ρ : Rho} {σ : L2.St} {vs : List Nat} (rel : RelI G R φ H it J) (sg : SndG G E0 t g) (wg : WipesG t vs) (st : SndT G E0 tt mt) (se : SndE G E0 te me) (rs : Rs G R φ S H) (rn : Rn G R φ H ρ σ) (Q : VK)
    (hq : ∀ d S' φ' v H', nxL g mt me BIG 0 it (wipeD ρ vs) S = .ok d S' → Le φ H φ' H' → Rs G R φ' S' H' → Rv G R φ' H' d v → Q v H') (hb : nxL g mt me BIG 0 it (wipeD ρ vs) S ≠ .bad) :
    ∃ W : Nat → Nat → Hp → Prop, (∃ m, W 0 m H) ∧ ∀ i m H, W i m H →
      (J.stop i H ∧ Q .non H) ∨ (J.go i H ∧ ∃ Nx : Hp → Prop, (∀ H', Nx H' → ∃ m', m' < m ∧ W (i + 1) m' H') ∧ ∀ x H', J.yld i H x H' → t x (wipe σ vs) H' fun σ2 H2 => wipe σ2 vs = wipe σ vs ∧ tt σ2 H2 fun b H3 => if b = true then te σ2 H3 Q else Nx H3) := by
  have rn0 : Rn G R φ H (wipeD ρ vs) (wipe σ vs) := rn.wipe vs
  refine ⟨fun i m H' => ∃ φ' S', Le φ H φ' H' ∧ Rs G R φ' S' H' ∧ nxL g mt me m i it (wipeD ρ vs) S' = nxL g mt me BIG 0 it (wipeD ρ vs) S, ⟨BIG, φ, S, Le.refl, rs, rfl⟩, fun i m H1 hW => ?_⟩
  obtain ⟨φ1, S1, l1, rs1, e⟩ := hW
  cases m with
  | zero => exact (hb e.symm).elim
  | succ f =>
    obtain ⟨r0, r1⟩ := rel R (fun _ h => .inl h) i φ1 S1 H1 l1 rs1
    cases hg : it.get i S1 with
    | none =>
      have : nxL g mt me (f + 1) i it (wipeD ρ vs) S1 = .bad := by unfold nxL; rw [hg]
      exact (hb (e.symm.trans this)).elim
    | some o =>
      cases o with
      | none =>
        have z : nxL g mt me (f + 1) i it (wipeD ρ vs) S1 = .ok .non S1 := by unfold nxL; rw [hg]
        exact .inl ⟨r0 hg, hq .non S1 φ1 .non H1 (e.symm.trans z) l1 rs1 Rv.non⟩
      | some d =>
        have z : nxL g mt me (f + 1) i it (wipeD ρ vs) S1 = ((g d (wipeD ρ vs) S1).calm.bind fun ρ1 S2 => (mt ρ1 S2).calm.bind fun b S3 => if b = true then (me ρ1 S3).calm else nxL g mt me f (i + 1) it (wipeD ρ vs) S3) := by
          conv => lhs; unfold nxL
          rw [hg]
        rw [e] at z
        obtain ⟨r2, r3⟩ := r1 d hg
        refine .inr ⟨r2, fun H' => ∃ φ' S', Le φ H φ' H' ∧ Rs G R φ' S' H' ∧ nxL g mt me f (i + 1) it (wipeD ρ vs) S' = nxL g mt me BIG 0 it (wipeD ρ vs) S, fun H' hN => ⟨f, Nat.lt_succ_self f, hN⟩, fun x H2 hy => ?_⟩
        obtain ⟨l2, rs2, rv⟩ := r3 x H2 hy
        have l12 := l1.trans l2
        have g1 := Run.calm (E := fun _ _ _ => True) (sg d x (wipe σ vs) H2 (wipeD ρ vs) φ1 R S1 rs2 (rn0.le l12) rv)
        refine wg x (wipe σ vs) H2 (fun σ2 H3 => ∃ ρ2 S2 φ2, (g d (wipeD ρ vs) S1).calm = .ok ρ2 S2 ∧ Le φ1 H2 φ2 H3 ∧ Rs G R φ2 S2 H3 ∧ Rn G R φ2 H3 ρ2 σ2) _ (fun σ2 H3 ew hw => ⟨ew.trans wipe_idem, ?_⟩)
          (g1 _ (fun ρ2 S2 φ2 σ2 H3 e2 l3 rs3 rn3 => ⟨ρ2, S2, φ2, e2, l3, rs3, rn3⟩) (fun _ _ _ _ _ _ _ _ _ _ => trivial) (fun e2 => hb (by rw [z, e2]; rfl)))
        obtain ⟨ρ2, S2, φ2, e2, l3, rs3, rn3⟩ := hw
        have z2 := z
        rw [e2, Res.bind_ok] at z2
        refine Run.calm (E := fun _ _ _ => True) (st σ2 H3 ρ2 φ2 R S2 rs3 rn3) _ (fun b S3 φ3 b' H4 e3 l4 rs4 eb => ?_) (fun _ _ _ _ _ _ _ _ _ _ => trivial) (fun e3 => hb (by rw [z2, e3]; rfl))
        have eb' : b = b' := eb
        subst eb'
        have z3 := z2
        rw [e3, Res.bind_ok] at z3
        have l14 : Le φ1 H1 φ3 H4 := l2.trans (l3.trans l4)
        cases b with
        | false =>
          rw [if_neg Bool.false_ne_true] at z3 ⊢
          exact ⟨φ3, S3, l1.trans l14, rs4, z3.symm⟩
        | true =>
          rw [if_pos rfl] at z3 ⊢
          refine Run.calm (E := fun _ _ _ => True) (se σ2 H4 ρ2 φ3 R S3 rs4 (rn3.le l4)) _ (fun y S4 φ4 w H5 e4 l5 rs5 ry => ?_) (fun _ _ _ _ _ _ _ _ _ _ => trivial) (fun e4 => hb (by rw [z3, e4]))
          exact hq y S4 φ4 w H5 (z3.trans e4) (l1.trans (l14.trans l5)) rs5 ry
theorem nx_snd {wi : TI} {t : TG} {tt : TT} {te : TE} {mi : MI0} {g : MG0} {mt : MT0} {me : ME0} {vs : List Nat} {P : Addr} (hP : P ∈ G.tabs) (si : SndI G E wi mi) (sg : SndG G E0 t g) (wg : WipesG t vs) (st : SndT G E0 tt mt) (se : SndE G E0 te me) : SndE G E (tNext P wi t tt te vs) (mNext mi g mt me vs) := by
  intro σ H ρ φ R S rs rn Q hq hx hb
  have e0 : mNext mi g mt me vs ρ S = (mi ρ S).bind fun it S1 => nxL g mt me BIG 0 it (wipeD ρ vs) S1 := rfl
  rw [e0] at hq hx hb
  refine si σ H ρ φ R S rs rn _ (fun it S1 φ1 J H1 e1 l1 rs1 r1 => ?_) (fun er S' φ' H' cl d er' => hx er S' φ' H' cl d (by rw [er']; rfl)) (fun e1 => hb (by rw [e1]; rfl))
  rw [e1, Res.bind_ok] at hq hx hb
  have tb := rs1.tabs P hP
  refine ⟨tb, fun H2 hT => ?_⟩
  obtain ⟨l2, rs2⟩ := Le.tabbed rs1 tb hT
  have rel2 : RelI G R φ1 H2 it J := fun R' hR i φ' S' H' l rs' => r1 R' (fun a ha => (hR a ha).imp id fun z => by
    cases h : H1 a with
    | none => rfl
    | some u => exact (l2.ne a (by rw [h]; exact fun q => nomatch q) z).elim) i φ' S' H' (l2.trans l) rs'
  exact nx_run rel2 sg wg st se rs2 (rn.le (l1.trans l2)) Q (fun d S' φ' v H' e l rs' rv => hq d S' φ' v H' e (l1.trans (l2.trans l)) rs' rv) hb
end
section
variable {T : List Addr} {X : Cx} {E : XK} {elt tg iter : Expr} {ifs : List Expr} {scope : Scope} {own : List (Str × Nat)} {pos gpos p cp : Pos} {cj k : Nat} {mi : MI0} {g : MG0} {mt : MT0} {me : ME0} {t : TG} {c P : Addr}
structure GxOk (T : List Addr) (X : Cx) (elt tg : Expr) (ifs : List Expr) (scope : Scope) (own : List (Str × Nat)) (t : TG) (g : MG0) (mt : MT0) (me : ME0) : Prop where
  tg : ∀ (s : Shared) (H : Hp) (C : Addr) (cl : List (Str × Addr)) (code : Value) (fp : List Addr), MGc T (Cx.gn X s H (genEnv scope cl C code builtinsNs X.env) fp) E0 tg (own.map (·.2)) t g
  ifs : ∀ (s : Shared) (H : Hp) (C : Addr) (cl : List (Str × Addr)) (code : Value) (fp : List Addr), MTs T (Cx.gn X s H (genEnv scope cl C code builtinsNs X.env) fp) E0 ifs mt
  elt : ∀ (s : Shared) (H : Hp) (C : Addr) (cl : List (Str × Addr)) (code : Value) (fp : List Addr), ME T (Cx.gn X s H (genEnv scope cl C code builtinsNs X.env) fp) E0 elt me
theorem me_next (hc : X.calm = true) (hN : X.N.Nodup) (hr : Room (k + 3) X.A) (hg : Gl X "next") (hm : X.mg "next" = none) (TB : GxR.TabB X.base X.mg c P) (hcode : X.env.code = .ref c) (hP : P ∈ T) (hi : MI T X E tg iter mi) (ok : gnC X.N X.env.scope scope own = true)
    (h : GxOk T X elt tg ifs scope own t g mt me) (hs : ∀ x, genFold iter X.env x = pure x := by intro _; rfl)
    (he : starEach [.GeneratorExp elt [⟨tg, iter, ifs, 0⟩] scope gpos, .Constant .none cj cp] X.env = (false, eval (.GeneratorExp elt [⟨tg, iter, ifs, 0⟩] scope gpos) X.env) :: starEach [.Constant .none cj cp] X.env := by rfl)
    (he2 : starEach [.Constant .none cj cp] X.env = (false, eval (.Constant .none cj cp) X.env) :: starEach [] X.env := by rfl) (hpl : (backTo pos (starEach [.Constant .none cj cp] X.env)).any (·.1) = false := by rfl) :
    ME T X E (.Call (.Name "next" p) [.GeneratorExp elt [⟨tg, iter, ifs, 0⟩] scope gpos, .Constant .none cj cp] [] pos) (mNext mi g mt me (own.map (·.2))) := by
  obtain ⟨wi, pi, si⟩ := hi
  obtain ⟨tt, pt, st⟩ := all_T (ι := Shared × Hp × Addr × List (Str × Addr) × Value × List Addr) (XX := fun i => Cx.gn X i.1 i.2.1 (genEnv scope i.2.2.2.1 i.2.2.1 i.2.2.2.2.1 builtinsNs X.env) i.2.2.2.2.2) (G := X.gd T) (E := E0) (es := ifs) (m := mt) fun i => h.ifs i.1 i.2.1 i.2.2.1 i.2.2.2.1 i.2.2.2.2.1 i.2.2.2.2.2
  obtain ⟨te, pe, se⟩ := all_E (ι := Shared × Hp × Addr × List (Str × Addr) × Value × List Addr) (XX := fun i => Cx.gn X i.1 i.2.1 (genEnv scope i.2.2.2.1 i.2.2.1 i.2.2.2.2.1 builtinsNs X.env) i.2.2.2.2.2) (G := X.gd T) (E := E0) (e := elt) (m := me) fun i => h.elt i.1 i.2.1 i.2.2.1 i.2.2.2.1 i.2.2.2.2.1 i.2.2.2.2.2
  exact ⟨_, pe_nextgen hc hN hr hg hm TB hcode pi (gnOk_by ok) (fun s H C cl code fp => (h.tg s H C cl code fp).pg) (fun s H C cl code fp => pt (s, H, C, cl, code, fp)) (fun s H C cl code fp => pe (s, H, C, cl, code, fp)) hs he he2 hpl,
    nx_snd hP si (h.tg {} (fun _ => none) 0 [] .none []).snd (h.tg {} (fun _ => none) 0 [] .none []).wip st se⟩
end
end MM

/-! The mirror layer: + and * of all kinds, powers; what is known of the top's defs. -/
namespace MM
open PySem L2 PyProof.Rows
section
variable {T : List Addr} {X : Cx} {E : XK} {G : Gd} {a b : Expr} {ma mb : ME0} {pos : Pos}
theorem Op2.or {r r' : R2} {f : D → D → Store → Res D} (h : ∀ R φ S H d e x y, Rs G R φ S H → Rv G R φ H d x → Rv G R φ H e y → Run G E R φ H (RelV' G R) (f d e S) (r x y H) ∨ Run G E R φ H (RelV' G R) (f d e S) (r' x y H)) : Op2 G E (fun x y H Q => r x y H Q ∨ r' x y H Q) f := by
  intro R φ S H d e x y rs rd re
  rcases h R φ S H d e x y rs rd re with h | h
  · exact Run.conv h fun Q q => .inl q
  · exact Run.conv h fun Q q => .inr q
/-- a + b: ints, an int and a truth value, texts, tuples, lists -/
def fAdd : D → D → Store → Res D := fun x y S => match x, y with
  | .int i, .int j => .ok (.int (i + j)) S
  | .str u, .str v => if u.length + v.length ≤ sizeLine then .ok (.str (u ++ v)) S else .bad
  | .tup us, .tup vs => if us.length + vs.length ≤ sizeLine then .ok (.tup (us ++ vs)) S else .bad
  | .lst us, .lst vs => if us.length + vs.length ≤ sizeLine then .ok (.lst (us ++ vs)) S else .bad
  | _, _ => .bad
theorem o_addA : Op2 G E (fun x y H Q => (rI0 fun i j => .int (i + j)) x y H Q ∨ (∃ i j, x = V.str i ∧ y = V.str j ∧ i.length + j.length ≤ sizeLine ∧ Q (.str (i ++ j)) H) ∨ rCatA G.K x y H Q ∨ rCat x y H Q) fAdd := by
  intro R φ S H d e x y rs rd re
  unfold fAdd
  split
  · have e1 := Rv.int_of rd
    have e2 := Rv.int_of re
    subst e1
    subst e2
    exact Run.ret rs Rv.int fun Q q => .inl ⟨_, _, rfl, rfl, q⟩
  · have e1 := Rv.str_of rd
    have e2 := Rv.str_of re
    subst e1
    subst e2
    split
    · rename_i hl
      exact Run.ret rs Rv.str fun Q q => .inr (.inl ⟨_, _, rfl, rfl, hl, q⟩)
    · exact Run.bad
  · rename_i us vs
    obtain ⟨p, xs, rfl, h1, h2⟩ := Rv.tup_of rd
    obtain ⟨q, ys, rfl, h3, h4⟩ := Rv.tup_of re
    split
    · rename_i hl
      rw [RvL.length h2, RvL.length h4] at hl
      by_cases hx : xs = []
      · subst hx
        have : us = [] := List.length_eq_zero_iff.mp (RvL.length h2)
        subst this
        exact Run.ret rs re fun Q q => .inr (.inr (.inl ⟨_, _, _, ys, rfl, rfl, h1, h3, hl, fun _ => q, fun z => (z rfl).elim, fun z => (z rfl).elim⟩))
      · by_cases hy : ys = []
        · subst hy
          have : vs = [] := List.length_eq_zero_iff.mp (RvL.length h4)
          subst this
          rw [List.append_nil]
          exact Run.ret rs rd fun Q q => .inr (.inr (.inl ⟨_, _, xs, _, rfl, rfl, h1, h3, hl, fun z => (hx z).elim, fun _ _ => q, fun _ z => (z rfl).elim⟩))
        · exact Run.new (o := .tup (xs ++ ys)) rs (fun p hp => Rv.tup upd_same (RvL.append (RvL.le (Le.new rs hp) h2) (RvL.le (Le.new rs hp) h4))) fun Q q => .inr (.inr (.inl ⟨_, _, xs, ys, rfl, rfl, h1, h3, hl, fun z => (hx z).elim, fun _ z => (hy z).elim, fun _ _ => q⟩))
    · exact Run.bad
  · rename_i us vs
    obtain ⟨p, xs, rfl, _, _, h1, h2⟩ := Rv.lst_of rd
    obtain ⟨q, ys, rfl, _, _, h3, h4⟩ := Rv.lst_of re
    split
    · rename_i hl
      rw [RvL.length h2, RvL.length h4] at hl
      exact Run.new (o := .lst (xs ++ ys)) rs (fun p hp => Rv.lst (rs.fresh hp).1 (rs.fresh hp).2 upd_same (RvL.append (RvL.le (Le.new rs hp) h2) (RvL.le (Le.new rs hp) h4))) fun Q q => .inr (.inr (.inr ⟨_, _, xs, ys, rfl, rfl, h1, h3, hl, q⟩))
    · exact Run.bad
  · exact Run.bad
theorem me_add (ha : ME T X E a ma) (hb : ME T X E b mb) : ME T X E (.BinOp a .Add b pos) (mOp fAdd ma mb) := me_bin (OpR.or op_add (OpR.or op_add_str (OpR.or op_catA op_cat))) o_addA ha hb
/-- a * b: ints, a tuple or a list so many times -/
def fMul : D → D → Store → Res D := fun x y S => match x, y with
  | .int i, .int j => if i.natAbs.log2 + j.natAbs.log2 < 1000000 then .ok (.int (i * j)) S else .bad
  | .tup us, .int k => if us ≠ [] ∧ 2 ≤ k ∧ k ≤ 1000 ∧ us.length ≤ 1000 then .ok (.tup (List.replicate k.toNat us).flatten) S else .bad
  | .lst us, .int k => if -(2 ^ 63) ≤ k ∧ k < 2 ^ 63 ∧ us.length * k.toNat ≤ sizeLine then .ok (.lst (List.replicate k.toNat us).flatten) S else .bad
  | _, _ => .bad
theorem RvL.rep {R φ : List Addr} {H : Hp} {ds : List D} {vs : List V} (h : RvL G R φ H ds vs) : ∀ n : Nat, RvL G R φ H (List.replicate n ds).flatten (List.replicate n vs).flatten
  | 0 => RvL.nil
  | n + 1 => by
    rw [List.replicate_succ, List.replicate_succ, List.flatten_cons, List.flatten_cons]
    exact RvL.append h (RvL.rep h n)
theorem o_mulA : Op2 G E (fun x y H Q => (rI CMulW fun i j => .int (i * j)) x y H Q ∨ rRepT G.K x y H Q ∨ rRep x y H Q) fMul := by
  intro R φ S H d e x y rs rd re
  unfold fMul
  split
  · have e1 := Rv.int_of rd
    have e2 := Rv.int_of re
    subst e1
    subst e2
    split
    · rename_i hc
      exact Run.ret rs Rv.int fun Q q => .inl ⟨_, _, rfl, rfl, hc, q⟩
    · exact Run.bad
  · rename_i us k
    obtain ⟨p, xs, rfl, h1, h2⟩ := Rv.tup_of rd
    have e2 := Rv.int_of re
    subst e2
    split
    · rename_i hl
      exact Run.new (o := .tup (List.replicate k.toNat xs).flatten) rs (fun p hp => Rv.tup upd_same (RvL.rep (RvL.le (Le.new rs hp) h2) _)) fun Q q => .inr (.inl ⟨_, k, xs, rfl, rfl, h1, fun z => hl.1 (List.length_eq_zero_iff.mp (by rw [RvL.length h2, z]; rfl)), hl.2.1, hl.2.2.1, by rw [← RvL.length h2]; exact hl.2.2.2, q⟩)
    · exact Run.bad
  · rename_i us k
    obtain ⟨p, xs, rfl, _, _, h1, h2⟩ := Rv.lst_of rd
    have e2 := Rv.int_of re
    subst e2
    split
    · rename_i hl
      exact Run.new (o := .lst (List.replicate k.toNat xs).flatten) rs (fun p hp => Rv.lst (rs.fresh hp).1 (rs.fresh hp).2 upd_same (RvL.rep (RvL.le (Le.new rs hp) h2) _)) fun Q q => .inr (.inr ⟨_, k, xs, rfl, rfl, h1, hl.1, hl.2.1, by rw [← RvL.length h2]; exact hl.2.2, q⟩)
    · exact Run.bad
  · exact Run.bad
theorem me_mulA (ha : ME T X E a ma) (hb : ME T X E b mb) : ME T X E (.BinOp a .Mult b pos) (mOp fMul ma mb) := me_bin (OpR.or op_mulW (OpR.or op_repT op_rep)) o_mulA ha hb
def CPowW (i j : Int) : Prop := 0 ≤ j ∧ (Builtin.Int.intBits i : Int) * j ≤ 2 ^ 27
theorem op_powW : OpR X (binaryOp .Pow) (rI CPowW fun i j => .int (i ^ j.toNat)) := opI fun _ _ _ _ _ _ _ hc q => pow_int hc.1 hc.2 q
abbrev fPowW := f2Ic (fun i j => decide (0 ≤ j ∧ (Builtin.Int.intBits i : Int) * j ≤ 2 ^ 27)) fun i j => .int (i ^ j.toNat)
theorem o_powW : Op2 G E (rI CPowW fun i j => .int (i ^ j.toNat)) fPowW := op2Ic (fun i j h => show 0 ≤ j ∧ (Builtin.Int.intBits i : Int) * j ≤ 2 ^ 27 from of_decide_eq_true h) fun _ _ _ _ _ => Rv.int
theorem me_powW (ha : ME T X E a ma) (hb : ME T X E b mb) : ME T X E (.BinOp a .Pow b pos) (mOp fPowW ma mb) := me_bin op_powW o_powW ha hb
end
/-! ### the top's defs -/
section
variable (T : List Addr) (P : Program) (w : World) (K : PySem.W.Frag) (mg : Str → Option Value) (base : Heap)
/-- the def st stands at f under its name -/
structure DefAt (x : Str) (st : Stmt) (f : Addr) (fd : FuncData) : Prop where
  F : Fun K x x st f fd
  m : mg x = some (.ref f)
/-- a def that keeps the promise of its mirror -/
structure Cl (k : Nat) (x : Str) (ps : List Str) (f : Addr) (fd : FuncData) (n : Nat) (m : List D → Store → Res D) : Prop where
  ok : FnOk P w K mg base (L2.CX P w) k f fd ps (spM ⟨K, mg, T⟩ n m)
  m : mg x = some (.ref f)
  kp : PySem.W.keepIn K (.ref f) = true
  b : Binds K fd ps []
end
end MM

/-! Defs that make generators; calls by name of the top's defs. -/
namespace MM
open PySem L2 PyProof.Rows
section
variable {T : List Addr} {P : Program} {w : World} {K : PySem.W.Frag} {mg : Str → Option Value} {base : Heap}
theorem fn_okC {x qual : Str} {st : Stmt} {f : Addr} {fd : FuncData} {N ps : List Str} {k n : Nat} {m : MS0} {c : Addr} (F : Fun K x qual st f fd) (hc : fd.code = .ref c) (S : FnScope N ps (defScope st)) (hn : ps.length = n)
    (hbody : ∀ (A : Around) (outer : List Env) (s : Shared) (H : Hp) (E : XK), Room k (A.deeper (envOfC qual (defScope st) s.heap.objs.size f (.ref c))) →
      MSs T (cxOf (L2.CX P w) P w K mg base N qual (defScope st) f (.ref c) A outer s H E) E (defBody st) m) : FnOk P w K mg base (L2.CX P w) (k + 1) f fd ps (spM ⟨K, mg, T⟩ n (mDef N.length m)) := by
  obtain ⟨oc, od, kV, doc, pm, an, cdv, ct, osl, rfl, lk, hcd⟩ := F.ex
  have hc' : cdv = .ref c := hc
  subst hc'
  refine fn_of lk hcd S (fun vs H Q E h => ?_) fun A outer s H vs Q E hr h => ?_
  · obtain ⟨φ, R, S, ds, _, h1, h2, _⟩ := h
    rw [← RvL.length h1, h2, hn]
  · obtain ⟨φ, R, S, ds, rs, rv, hl, hb, hq, hx⟩ := h
    obtain ⟨t, pt, st⟩ := hbody A outer s H E hr
    refine ⟨t, pt, ?_⟩
    have e0 : mDef N.length m ds S = (m (ds.map some ++ List.replicate (N.length - ds.length) none) S).bind fun x S1 => match x.1 with
      | .nx => .ok .non S1
      | .rt d => .ok d S1
      | _ => .bad := rfl
    rw [e0] at hb hq hx
    refine st (L2.start N vs) H _ φ R S rs (start_rn rv) (fun o H' => match o with
      | .nx _ => Q .non H'
      | .rt v => Q v H'
      | _ => False) (fun y S' φ' o H' e1 l1 rs1 ro => ?_) (fun er S' φ' H' cl d e1 l1 rs1 xq => hx er S' φ' H' cl d (by rw [e1]; rfl) l1 rs1 xq) (fun e1 => hb (by rw [e1]; rfl))
    obtain ⟨fl, ρ'⟩ := y
    rw [e1, Res.bind_ok] at hb hq
    cases fl with
    | nx =>
      cases o with
      | nx σ => exact hq .non S' φ' .non H' rfl l1 rs1 Rv.non
      | _ => exact False.elim ro
    | rt d =>
      cases o with
      | rt v => exact hq d S' φ' v H' rfl l1 rs1 ro
      | _ => exact False.elim ro
    | bk => exact (hb rfl).elim
    | ct => exact (hb rfl).elim
theorem kto_of {x qual : Str} {st : Stmt} {f : Addr} {fd : FuncData} {ps ks : List Str} {n1 n2 : Nat} {ix : List Nat} (F : Fun K x qual st f fd)
    (h : ∀ (kV doc pm : Value) (an : Option Addr) (cdv ct : Value) (us ws : List Value), us.length = n1 → ws.length = n2 → bindArgs (PySem.W.fnOf x qual (defArgs st) (defBody st) (defScope st) .none kV doc pm an cdv ct) ⟨us, ks.zip ws⟩ = pure (ps.zip (perm n1 n2 ix us ws))) : KTo K fd ps ks n1 n2 ix := by
  obtain ⟨oc, od, kV, doc, pm, an, cdv, ct, osl, rfl, lk, hcd⟩ := F.ex
  exact fun s us ws _ h1 h2 => .of_eq (h kV doc pm an cdv ct us ws h1 h2)
end
end MM

/-! The end of a law row. -/
namespace MM
open PySem PySem.Spec L2 PyProof.Rows
def Names (q : Program) (K : PySem.W.Frag) (mg : Str → Option Value) (h : Heap) : Prop := ∀ (x : Str) (f : Addr), ((recsOf q).any fun e => e.name == x) = true → mg x = some (.ref f) → LamX.OwnTab K f h
/-- what the law's own def must come to -/
def LawM (l : PySem.W.OpenLaw) (w : World) (K : PySem.W.Frag) (k : Nat) (x : Str) (mg : Str → Option Value) (fa : Addr) (h : Heap) (m : List D → Store → Res D) : Prop :=
  ∃ (fd : FuncData) (cs : List (Addr × Addr)), (∀ p ∈ cs, h.get? p.2 = some { cls := .none, data := .fields #[] } ∧ K.lookup p.2 = none ∧ PySem.W.CodeHd h p.1 p.2) ∧ (∀ (s : Shared) (u : Value), BindsTo s fd ⟨[u], []⟩ [(x, u)]) ∧
    ∀ base : Heap, K.In base → base.Ns mainGlobals mg → (∀ p ∈ cs, GxR.TabB base mg p.1 p.2) → FnOk l.prog w K mg base (L2.CX l.prog w) k fa fd [x] (spM ⟨K, mg, cs.map (·.2)⟩ 1 m)
theorem Fz.of_sq {K : PySem.W.Frag} {H : Hp} {a : Addr} {vs : List V} (h : SqL K H a vs) : Fz K [] [] H a vs := by
  rcases h with h | h
  · exact .inl ⟨List.not_mem_nil, List.not_mem_nil, h⟩
  · exact .inr h
theorem RvL.ints {G : Gd} {R φ : List Addr} {H : Hp} : ∀ ns : List Int, RvL G R φ H (ns.map D.int) (ns.map V.int)
  | [] => RvL.nil
  | n :: ns => RvL.cons Rv.int (RvL.ints ns)
theorem walk_mm {l : PySem.W.OpenLaw} {n k : Nat} {q : Program} {loose : List Str} {XP : (Str → Option Value) → Heap → Prop} {YP : World → Heap → Prop} {d : DefRec} {K : Params → PySem.W.Frag} {x : Str} {m : List D → Store → Res D}
    (hn : l.most = some n) (hn2 : n ≤ sizeLine) (hdf : d.params.defaults = []) (hr : Room k callerA) (hY : ∀ (w : World) (h : Heap), YP w h → (K w.params).In h)
    (F : ∀ (w : World) (mg : Str → Option Value) (fa : Addr) (h : Heap), YP w h → (K w.params).In h → h.Ns mainGlobals mg → mg d.name = some (.ref fa) → Names q (K w.params) mg h → LawM l w (K w.params) k x mg fa h m)
    (hm : ∀ ns : List Int, ns.length ≤ n → (∀ z ∈ ns, Builtin.Int.intBits z ≤ 1048576) → ∃ S, m [.frz (ns.map .int)] [] = .ok (.bl true) S) :
    PySem.W.WalkO q loose XP YP l.row.toRowW d [] (fun f vs => PySem.call f vs) := by
  refine Att.attach_callB hn hdf fun w s₀ s₁ mg mb fa o pm cd doc a vs ns G Y ho hd hcd hmg hobj hints hlen hbits hg => ?_
  have KX := hY w _ Y
  have own : Names q (K w.params) mg s₁.heap := fun x f hx hf c P o1 fd1 e dd vs1 sl k1 k2 k3 k4 k5 => by
    obtain ⟨dL, hm, hn1⟩ := List.any_eq_true.mp hx
    have hn2 : dL.name = x := beq_iff_eq.mp hn1
    obtain ⟨a', o', fd', c', P', h1, h2, h3, h4, h5, h6⟩ := G.T.tab dL hm
    rw [hn2, hf] at h1
    cases h1
    have g1 := KX _ _ k1
    rw [g1] at h2
    cases h2
    rw [k2] at h3
    cases h3
    rw [k3] at h4
    cases h4
    obtain ⟨⟨oc, vc, e1, _, e3, e4⟩, hP⟩ := h6
    have g2 := KX _ _ k4
    rw [g2] at e1
    cases e1
    cases e3
    rw [k5] at e4
    cases e4
    exact hP
  obtain ⟨fd, cs, hcs, hb, hF⟩ := F w mg fa _ Y KX G.T.g hmg own
  refine LamX.law_callTs (K := K w.params) (CX := L2.CX l.prog w) (k := k) (x := x) (sp := spM ⟨K w.params, mg, cs.map (·.2)⟩ 1 m) KX G.T.g G.T.b G.T.builtins G.T.nolimit hg (fun p hp => (hcs p hp).1) (fun p hp => (hcs p hp).2.1) (fun p hp => (hcs p hp).2.2) G.T.bmain hobj hints (Nat.le_trans hlen hn2) hr (fun base h1 h2 h3 => hF base h1 h2 fun p hp => ⟨(h3 p hp).code, (h3 p hp).bm, (h3 p hp).gP⟩) hb (fun H hH hS => ?_) fun H e s' h => ?_
  · obtain ⟨S', e⟩ := hm ns hlen hbits
    refine ⟨[], [], [], [.frz (ns.map .int)], ⟨List.nodup_nil, rfl, fun _ h => (List.not_mem_nil h).elim, fun _ _ _ h => by simp at h, fun _ h => (List.not_mem_nil h).elim, fun p hp => ?_⟩, ?_, rfl, ?_, ?_, ?_⟩
    · obtain ⟨q, hq, rfl⟩ := List.mem_map.mp hp
      exact ⟨#[], hH q hq, trivial⟩
    · refine RvL.cons ?_ RvL.nil
      unfold Rv
      exact ⟨a, _, rfl, Fz.of_sq hS, RvL.ints ns⟩
    · rw [e]
      exact fun z => nomatch z
    · intro d S1 φ' v H' e1 _ _ r
      rw [e] at e1
      cases e1
      exact Rv.bl_of r
    · intro er S1 φ' H' cl d e1
      rw [e] at e1
      cases e1
  · obtain ⟨_, _, _, _, _, _, _, _, _, _, _, _, z⟩ := h
    exact z.elim
end MM

/-! Working with mirrors: what a computation comes to, step by step (no program in sight). -/
namespace MM
open PySem L2
/-- it ends in Q, or raises an error of E -/
def W {α : Type} (r : Res α) (Q : α → Store → Prop) (E : Er → Store → Prop) : Prop := match r with
  | .ok a S => Q a S
  | .exc e S => E e S
  | .bad => False
abbrev Er0 : Er → Store → Prop := fun _ _ => False
section
variable {α β : Type} {Q : α → Store → Prop} {E : Er → Store → Prop}
theorem W_ok (a : α) (S : Store) : W (.ok a S) Q E = Q a S := rfl
theorem W_exc (e : Er) (S : Store) : W (.exc e S : Res α) Q E = E e S := rfl
theorem W_bad : W (.bad : Res α) Q E = False := rfl
theorem W_bind {r : Res β} {k : β → Store → Res α} : W (r.bind k) Q E = W r (fun a S => W (k a S) Q E) E := by cases r <;> rfl
theorem W.mono {r : Res α} {Q' : α → Store → Prop} (h : W r Q E) (hq : ∀ a S, Q a S → Q' a S) : W r Q' E := by
  cases r with
  | ok a S => exact hq a S h
  | exc e S => exact h
  | bad => exact h
theorem W.mono2 {r : Res α} {Q' : α → Store → Prop} {E' : Er → Store → Prop} (h : W r Q E) (hq : ∀ a S, Q a S → Q' a S) (he : ∀ e S, E e S → E' e S) : W r Q' E' := by
  cases r with
  | ok a S => exact hq a S h
  | exc e S => exact he e S h
  | bad => exact h
theorem W.ex {r : Res α} (h : W r Q Er0) : ∃ a S, r = .ok a S ∧ Q a S := by
  cases r with
  | ok a S => exact ⟨a, S, rfl, h⟩
  | exc e S => exact h.elim
  | bad => exact h.elim
theorem W_calm {r : Res α} (h : W r Q Er0) : W r.calm Q E := by
  cases r with
  | ok a S => exact h
  | exc e S => exact h.elim
  | bad => exact h
end
/-! ### continuations by names, so that nothing is opened ahead of its turn -/
section
variable (Q : D → Store → Prop) (QA : List D → Store → Prop) (QT : Bool → Store → Prop) (QS : Fl × Rho → Store → Prop) (QR : Rho → Store → Prop) (QI : ItD → Store → Prop) (E : Er → Store → Prop)
def kVar (o : Option (Option D)) (S : Store) : Prop := match o with
  | some (some d) => Q d S
  | _ => False
def kOp1 (f : D → D → Store → Res D) (b : ME0) (ρ : Rho) : D → Store → Prop := fun x S => W (b ρ S) (fun y S2 => W (f x y S2) Q E) E
def kOp2 (f : D → D → Store → Res D) (x : D) : D → Store → Prop := fun y S => W (f x y S) Q E
def kUn (f : D → Store → Res D) : D → Store → Prop := fun x S => W (f x S) Q E
def kCons1 (mr : MA0) (ρ : Rho) : D → Store → Prop := fun x S => W (mr ρ S) (fun xs S2 => QA (x :: xs) S2) E
def kCons2 (x : D) : List D → Store → Prop := fun xs S => QA (x :: xs) S
def kCall (f : List D → Store → Res D) : List D → Store → Prop := fun xs S => W (f xs S) Q E
def kTup : List D → Store → Prop := fun xs S => Q (.tup xs) S
def kLst : List D → Store → Prop := fun xs S => Q (.lst xs) S
def kLstS : List D → Store → Prop := fun xs S => Q (.ref S.length) (S ++ [.lst xs])
def kSeq (b : MS0) : Fl × Rho → Store → Prop := fun x S => match x.1 with
  | .nx => W (b x.2 S) QS E
  | fl => QS (fl, x.2) S
def kExpr (ρ : Rho) : D → Store → Prop := fun _ S => QS (.nx, ρ) S
def kRet (ρ : Rho) : D → Store → Prop := fun d S => QS (.rt d, ρ) S
def kIf (a b : MS0) (ρ : Rho) : Bool → Store → Prop := fun x S => if x = true then W (a ρ S) QS E else W (b ρ S) QS E
def kIfE (a b : ME0) (ρ : Rho) : Bool → Store → Prop := fun x S => if x = true then W (a ρ S) Q E else W (b ρ S) Q E
def kB : D → Store → Prop := fun x S => match x with
  | .bl b => QT b S
  | _ => False
def kAndT (b : MT0) (ρ : Rho) : Bool → Store → Prop := fun x S => if x = true then W (b ρ S) QT E else QT false S
def kOrT (b : MT0) (ρ : Rho) : Bool → Store → Prop := fun x S => if x = true then QT true S else W (b ρ S) QT E
def kNotT : Bool → Store → Prop := fun x S => QT (!x) S
def kAndV (b : ME0) (ρ : Rho) : D → Store → Prop := fun x S => match x with
  | .bl c => if c = true then W (b ρ S) Q E else Q (.bl false) S
  | _ => False
def kOrV (b : ME0) (ρ : Rho) : D → Store → Prop := fun x S => match x with
  | .bl c => if c = true then Q (.bl true) S else W (b ρ S) Q E
  | _ => False
def kNotV : D → Store → Prop := fun x S => match x with
  | .bl b => Q (.bl (!b)) S
  | _ => False
def kCmp1 (f g : D → D → Store → Res D) (mb mc : ME0) (ρ : Rho) : D → Store → Prop := fun x S1 => W (mb ρ S1) (fun y S2 => W (f x y S2) (fun z S3 => match z with
  | .bl c => if c = true then W (mc ρ S3) (fun w S4 => W (g y w S4) Q E) E else Q (.bl false) S3
  | _ => False) E) E
def kCmp2 (f g : D → D → Store → Res D) (mc : ME0) (ρ : Rho) (x : D) : D → Store → Prop := fun y S2 => W (f x y S2) (fun z S3 => match z with
  | .bl c => if c = true then W (mc ρ S3) (fun w S4 => W (g y w S4) Q E) E else Q (.bl false) S3
  | _ => False) E
def kCmp3 (g : D → D → Store → Res D) (mc : ME0) (ρ : Rho) (y : D) : D → Store → Prop := fun z S3 => match z with
  | .bl c => if c = true then W (mc ρ S3) (fun w S4 => W (g y w S4) Q E) E else Q (.bl false) S3
  | _ => False
def kAsg (g : MG0) (ρ : Rho) : D → Store → Prop := fun d S => W (g d ρ S) (fun ρ1 S2 => QS (.nx, ρ1) S2) E
def kAsg2 : Rho → Store → Prop := fun ρ S => QS (.nx, ρ) S
def kGs (gs : MGs0) (r : List D) : Rho → Store → Prop := fun ρ S => W (gs r ρ S) QR E
def kIx1 (d : D) (mi : ME0) (ρ : Rho) : D → Store → Prop := fun o S1 => W (mi ρ S1) (fun i S2 => match o, i with
  | .ref n, .int k => match lstAt S2 n with
    | some ds => match ixN ds.length k with
      | some j => QR ρ (S2.set n (.lst (ds.set j d)))
      | none => False
    | none => False
  | _, _ => False) E
def kIx2 (d : D) (ρ : Rho) (o : D) : D → Store → Prop := fun i S2 => match o, i with
  | .ref n, .int k => match lstAt S2 n with
    | some ds => match ixN ds.length k with
      | some j => QR ρ (S2.set n (.lst (ds.set j d)))
      | none => False
    | none => False
  | _, _ => False
def kFor (g : MG0) (b : MS0) (ρ : Rho) : ItD → Store → Prop := fun it S => W (forL g b BIG 0 it ρ S) QS E
def kLc (g : MG0) (tt : MT0) (te : ME0) (vs : List Nat) (ρ : Rho) : ItD → Store → Prop := fun it S => W (lcL g tt te BIG 0 it (wipeD ρ vs) [] S) QA E
def kNxt (g : MG0) (tt : MT0) (te : ME0) (vs : List Nat) (ρ : Rho) : ItD → Store → Prop := fun it S => W (nxL g tt te BIG 0 it (wipeD ρ vs) S) Q E
def kIt : D → Store → Prop := fun d S => match itOf S d with
  | some it => QI it S
  | none => False
def kDef : Fl × Rho → Store → Prop := fun x S => match x.1 with
  | .nx => Q .non S
  | .rt d => Q d S
  | _ => False
end
section
variable {Q : D → Store → Prop} {QA : List D → Store → Prop} {QT : Bool → Store → Prop} {QS : Fl × Rho → Store → Prop} {QR : Rho → Store → Prop} {QI : ItD → Store → Prop} {E : Er → Store → Prop} {ρ : Rho} {S : Store}
theorem W_var {i : Nat} : W (mVar i ρ S) Q E = kVar Q ρ[i]? S := by
  unfold mVar
  cases ρ[i]? with
  | none => rfl
  | some o => cases o <;> rfl
theorem k_var {d : D} : kVar Q (some (some d)) S = Q d S := rfl
theorem W_c {d : D} : W (mC d ρ S) Q E = Q d S := rfl
theorem W_op {f : D → D → Store → Res D} {a b : ME0} : W (mOp f a b ρ S) Q E = W (a ρ S) (kOp1 Q E f b ρ) E := by
  unfold mOp; rw [W_bind]; unfold kOp1
  simp only [W_bind]
theorem k_op1 {f : D → D → Store → Res D} {b : ME0} {x : D} : kOp1 Q E f b ρ x S = W (b ρ S) (kOp2 Q E f x) E := rfl
theorem k_op2 {f : D → D → Store → Res D} {x y : D} : kOp2 Q E f x y S = W (f x y S) Q E := rfl
theorem W_un {f : D → Store → Res D} {a : ME0} : W (mUn f a ρ S) Q E = W (a ρ S) (kUn Q E f) E := W_bind
theorem k_un {f : D → Store → Res D} {x : D} : kUn Q E f x S = W (f x S) Q E := rfl
theorem W_nil : W (mNil ρ S) QA E = QA [] S := rfl
theorem W_cons {a : ME0} {r : MA0} : W (mCons a r ρ S) QA E = W (a ρ S) (kCons1 QA E r ρ) E := by
  unfold mCons; rw [W_bind]; unfold kCons1
  simp only [W_bind, W_ok]
theorem k_cons1 {r : MA0} {x : D} : kCons1 QA E r ρ x S = W (r ρ S) (kCons2 QA x) E := rfl
theorem k_cons2 {x : D} {xs : List D} : kCons2 QA x xs S = QA (x :: xs) S := rfl
theorem W_call {f : List D → Store → Res D} {ma : MA0} : W (mCall f ma ρ S) Q E = W (ma ρ S) (kCall Q E f) E := W_bind
theorem k_call {f : List D → Store → Res D} {xs : List D} : kCall Q E f xs S = W (f xs S) Q E := rfl
theorem W_tup {ma : MA0} : W (mTup ma ρ S) Q E = W (ma ρ S) (kTup Q) E := W_bind
theorem k_tup {xs : List D} : kTup Q xs S = Q (.tup xs) S := rfl
theorem W_lst {ma : MA0} : W (mLst ma ρ S) Q E = W (ma ρ S) (kLst Q) E := W_bind
theorem k_lst {xs : List D} : kLst Q xs S = Q (.lst xs) S := rfl
theorem W_lstS {ma : MA0} : W (mLstS ma ρ S) Q E = W (ma ρ S) (kLstS Q) E := W_bind
theorem k_lstS {xs : List D} : kLstS Q xs S = Q (.ref S.length) (S ++ [.lst xs]) := rfl
theorem W_seq {a b : MS0} : W (sSeq a b ρ S) QS E = W (a ρ S) (kSeq QS E b) E := by
  unfold sSeq; rw [W_bind]
  congr 1
  funext x S1
  obtain ⟨fl, ρ1⟩ := x
  cases fl <;> rfl
theorem k_seq_nx {b : MS0} : kSeq QS E b (.nx, ρ) S = W (b ρ S) QS E := rfl
theorem k_seq_rt {b : MS0} {d : D} : kSeq QS E b (.rt d, ρ) S = QS (.rt d, ρ) S := rfl
theorem k_seq_bk {b : MS0} : kSeq QS E b (.bk, ρ) S = QS (.bk, ρ) S := rfl
theorem k_seq_ct {b : MS0} : kSeq QS E b (.ct, ρ) S = QS (.ct, ρ) S := rfl
theorem W_expr {a : ME0} : W (sExpr a ρ S) QS E = W (a ρ S) (kExpr QS ρ) E := W_bind
theorem k_expr {d : D} : kExpr QS ρ d S = QS (.nx, ρ) S := rfl
theorem W_ret {a : ME0} : W (sRet a ρ S) QS E = W (a ρ S) (kRet QS ρ) E := W_bind
theorem k_ret {d : D} : kRet QS ρ d S = QS (.rt d, ρ) S := rfl
theorem W_retN : W (sRetN ρ S) QS E = QS (.rt .non, ρ) S := rfl
theorem W_nx : W (sNx ρ S) QS E = QS (.nx, ρ) S := rfl
theorem W_bk : W (sBk ρ S) QS E = QS (.bk, ρ) S := rfl
theorem W_ct : W (sCt ρ S) QS E = QS (.ct, ρ) S := rfl
theorem W_if {c : MT0} {a b : MS0} : W (sIf c a b ρ S) QS E = W (c ρ S) (kIf QS E a b ρ) E := by
  unfold sIf; rw [W_bind]
  congr 1
  funext x S1
  cases x <;> rfl
theorem k_if_t {a b : MS0} : kIf QS E a b ρ true S = W (a ρ S) QS E := rfl
theorem k_if_f {a b : MS0} : kIf QS E a b ρ false S = W (b ρ S) QS E := rfl
theorem k_if_d {a b : MS0} {p : Prop} [h : Decidable p] : kIf QS E a b ρ (decide p) S = if p then W (a ρ S) QS E else W (b ρ S) QS E := by
  cases h <;> rfl
theorem W_ifE {c : MT0} {a b : ME0} : W (mIfE c a b ρ S) Q E = W (c ρ S) (kIfE Q E a b ρ) E := by
  unfold mIfE; rw [W_bind]
  congr 1
  funext x S1
  cases x <;> rfl
theorem k_ifE_t {a b : ME0} : kIfE Q E a b ρ true S = W (a ρ S) Q E := rfl
theorem k_ifE_f {a b : ME0} : kIfE Q E a b ρ false S = W (b ρ S) Q E := rfl
theorem W_b {a : ME0} : W (mB a ρ S) QT E = W (a ρ S) (kB QT) E := by
  unfold mB; rw [W_bind]
  congr 1
  funext x S1
  cases x <;> rfl
theorem k_b {b : Bool} : kB QT (.bl b) S = QT b S := rfl
theorem W_andT {a b : MT0} : W (mAndT a b ρ S) QT E = W (a ρ S) (kAndT QT E b ρ) E := by
  unfold mAndT; rw [W_bind]
  congr 1
  funext x S1
  cases x <;> rfl
theorem k_andT_t {b : MT0} : kAndT QT E b ρ true S = W (b ρ S) QT E := rfl
theorem k_andT_f {b : MT0} : kAndT QT E b ρ false S = QT false S := rfl
theorem W_orT {a b : MT0} : W (mOrT a b ρ S) QT E = W (a ρ S) (kOrT QT E b ρ) E := by
  unfold mOrT; rw [W_bind]
  congr 1
  funext x S1
  cases x <;> rfl
theorem k_orT_t {b : MT0} : kOrT QT E b ρ true S = QT true S := rfl
theorem k_orT_f {b : MT0} : kOrT QT E b ρ false S = W (b ρ S) QT E := rfl
theorem W_notT {a : MT0} : W (mNotT a ρ S) QT E = W (a ρ S) (kNotT QT) E := W_bind
theorem k_notT {b : Bool} : kNotT QT b S = QT (!b) S := rfl
theorem W_yes : W (mYes ρ S) QT E = QT true S := rfl
theorem W_andV {a b : ME0} : W (mAndV a b ρ S) Q E = W (a ρ S) (kAndV Q E b ρ) E := by
  unfold mAndV; rw [W_bind]
  congr 1
  funext x S1
  cases x with
  | bl c => cases c <;> rfl
  | _ => rfl
theorem k_andV_t {b : ME0} : kAndV Q E b ρ (.bl true) S = W (b ρ S) Q E := rfl
theorem k_andV_f {b : ME0} : kAndV Q E b ρ (.bl false) S = Q (.bl false) S := rfl
theorem W_orV {a b : ME0} : W (mOrV a b ρ S) Q E = W (a ρ S) (kOrV Q E b ρ) E := by
  unfold mOrV; rw [W_bind]
  congr 1
  funext x S1
  cases x with
  | bl c => cases c <;> rfl
  | _ => rfl
theorem k_orV_t {b : ME0} : kOrV Q E b ρ (.bl true) S = Q (.bl true) S := rfl
theorem k_orV_f {b : ME0} : kOrV Q E b ρ (.bl false) S = W (b ρ S) Q E := rfl
theorem W_notV {a : ME0} : W (mNotV a ρ S) Q E = W (a ρ S) (kNotV Q) E := by
  unfold mNotV; rw [W_bind]
  congr 1
  funext x S1
  cases x <;> rfl
theorem k_notV {b : Bool} : kNotV Q (.bl b) S = Q (.bl (!b)) S := rfl
theorem W_cmpC {f g : D → D → Store → Res D} {a b c : ME0} : W (mCmpC f g a b c ρ S) Q E = W (a ρ S) (kCmp1 Q E f g b c ρ) E := by
  unfold mCmpC; rw [W_bind]
  congr 1
  funext x S1
  unfold kCmp1
  rw [W_bind]
  congr 1
  funext y S2
  rw [W_bind]
  congr 1
  funext z S3
  cases z with
  | bl c =>
    cases c
    · rfl
    · exact W_bind
  | _ => rfl
theorem k_cmp1 {f g : D → D → Store → Res D} {mb mc : ME0} {x : D} : kCmp1 Q E f g mb mc ρ x S = W (mb ρ S) (kCmp2 Q E f g mc ρ x) E := rfl
theorem k_cmp2 {f g : D → D → Store → Res D} {mc : ME0} {x y : D} : kCmp2 Q E f g mc ρ x y S = W (f x y S) (kCmp3 Q E g mc ρ y) E := rfl
theorem k_cmp3_t {g : D → D → Store → Res D} {mc : ME0} {y : D} : kCmp3 Q E g mc ρ y (.bl true) S = W (mc ρ S) (kOp2 Q E g y) E := rfl
theorem k_cmp3_f {g : D → D → Store → Res D} {mc : ME0} {y : D} : kCmp3 Q E g mc ρ y (.bl false) S = Q (.bl false) S := rfl
theorem W_asg {a : ME0} {g : MG0} : W (sAsg a g ρ S) QS E = W (a ρ S) (kAsg QS E g ρ) E := by
  unfold sAsg; rw [W_bind]
  congr 1
  funext x S1
  exact W_bind
theorem k_asg {g : MG0} {d : D} : kAsg QS E g ρ d S = W (g d ρ S) (kAsg2 QS) E := rfl
theorem k_asg2 : kAsg2 QS ρ S = QS (.nx, ρ) S := rfl
theorem W_gN {i : Nat} {d : D} : W (gN i d ρ S) QR E = QR (ρ.set i (some d)) S := rfl
theorem W_gsNil : W (gsNil [] ρ S) QR E = QR ρ S := rfl
theorem W_gsCons {g : MG0} {gs : MGs0} {d : D} {r : List D} : W (gsCons g gs (d :: r) ρ S) QR E = W (g d ρ S) (kGs QR E gs r) E := W_bind
theorem k_gs {gs : MGs0} {r : List D} : kGs QR E gs r ρ S = W (gs r ρ S) QR E := rfl
theorem W_gTp {n : Nat} {gs : MGs0} {ds : List D} (h : ds.length = n) : W (gTp n gs (.tup ds) ρ S) QR E = W (gs ds ρ S) QR E := by
  show W (if ds.length = n then gs ds ρ S else .bad) QR E = _
  rw [if_pos h]
theorem W_gIx {mo mi : ME0} {d : D} : W (gIx mo mi d ρ S) QR E = W (mo ρ S) (kIx1 QR E d mi ρ) E := by
  unfold gIx; rw [W_bind]
  congr 1
  funext o S1
  rw [W_bind]
  unfold kIx1
  congr 1
  funext i S2
  cases o with
  | ref n =>
    cases i with
    | int k =>
      dsimp only
      cases h1 : lstAt S2 n with
      | none => rfl
      | some ds =>
        dsimp only
        cases h2 : ixN ds.length k <;> rfl
    | _ => rfl
  | _ => cases i <;> rfl
theorem k_ix1 {mi : ME0} {d o : D} : kIx1 QR E d mi ρ o S = W (mi ρ S) (kIx2 QR d ρ o) E := rfl
theorem W_for {mi : MI0} {g : MG0} {b : MS0} : W (sFor mi g b ρ S) QS E = W (mi ρ S) (kFor QS E g b ρ) E := W_bind
theorem W_lcL {mi : MI0} {g : MG0} {tt : MT0} {te : ME0} {vs : List Nat} : W (mLcL mi g tt te vs ρ S) QA E = W (mi ρ S) (kLc QA E g tt te vs ρ) E := W_bind
theorem W_lc {mi : MI0} {g : MG0} {tt : MT0} {te : ME0} {vs : List Nat} : W (mLc mi g tt te vs ρ S) Q E = W (mi ρ S) (kLc (kLst Q) E g tt te vs ρ) E := by
  unfold mLc
  rw [W_bind, W_lcL]
  rfl
theorem W_lcS {mi : MI0} {g : MG0} {tt : MT0} {te : ME0} {vs : List Nat} : W (mLcS mi g tt te vs ρ S) Q E = W (mi ρ S) (kLc (kLstS Q) E g tt te vs ρ) E := by
  unfold mLcS
  rw [W_bind, W_lcL]
  rfl
theorem W_next {mi : MI0} {g : MG0} {tt : MT0} {te : ME0} {vs : List Nat} : W (mNext mi g tt te vs ρ S) Q E = W (mi ρ S) (kNxt Q E g tt te vs ρ) E := W_bind
theorem W_miA {me : ME0} : W (miA me ρ S) QI E = W (me ρ S) (kIt QI) E := by
  unfold miA; rw [W_bind]
  congr 1
  funext d S1
  unfold kIt
  cases itOf S1 d <;> rfl
theorem k_it_tup {xs : List D} : kIt QI (.tup xs) S = QI (itL xs) S := rfl
theorem k_it_lst {xs : List D} : kIt QI (.lst xs) S = QI (itL xs) S := rfl
theorem k_it_frz {xs : List D} : kIt QI (.frz xs) S = QI (itL xs) S := rfl
theorem W_def {N : Nat} {b : MS0} {ds : List D} : W (mDef N b ds S) Q E = W (b (ds.map some ++ List.replicate (N - ds.length) none) S) (kDef Q) E := by
  unfold mDef
  rw [W_bind]
  congr 1
  funext x S1
  obtain ⟨fl, ρ1⟩ := x
  cases fl <;> rfl
theorem k_def_rt {d : D} : kDef Q (.rt d, ρ) S = Q d S := rfl
theorem k_def_nx : kDef Q (.nx, ρ) S = Q .non S := rfl
def kCK1 (Q : D → Store → Prop) (E : Er → Store → Prop) (f : List D → Store → Res D) (n1 n2 : Nat) (ix : List Nat) (mk : MA0) (ρ : Rho) : List D → Store → Prop := fun us S1 => W (mk ρ S1) (fun ws S2 => W (f (perm n1 n2 ix us ws) S2) Q E) E
def kCK2 (Q : D → Store → Prop) (E : Er → Store → Prop) (f : List D → Store → Res D) (n1 n2 : Nat) (ix : List Nat) (us : List D) : List D → Store → Prop := fun ws S2 => W (f (perm n1 n2 ix us ws) S2) Q E
theorem k_CK1 {f : List D → Store → Res D} {n1 n2 : Nat} {ix : List Nat} {mk : MA0} {us : List D} : kCK1 Q E f n1 n2 ix mk ρ us S = W (mk ρ S) (kCK2 Q E f n1 n2 ix us) E := rfl
theorem k_CK2 {f : List D → Store → Res D} {n1 n2 : Nat} {ix : List Nat} {us ws : List D} : kCK2 Q E f n1 n2 ix us ws S = W (f (perm n1 n2 ix us ws) S) Q E := rfl
theorem W_callK {f : List D → Store → Res D} {n1 n2 : Nat} {ix : List Nat} {ma mk : MA0} : W (mCallK f n1 n2 ix ma mk ρ S) Q E = W (ma ρ S) (kCK1 Q E f n1 n2 ix mk ρ) E := by
  unfold mCallK kCK1
  rw [W_bind]
  simp only [W_bind]
/-! operators -/
theorem W_f2I {g : Int → Int → D} {i j : Int} : W (f2I g (.int i) (.int j) S) Q E = Q (g i j) S := rfl
theorem W_f2Ic {C : Int → Int → Bool} {g : Int → Int → D} {i j : Int} (h : C i j = true) : W (f2Ic C g (.int i) (.int j) S) Q E = Q (g i j) S := by
  show W (if C i j = true then .ok (g i j) S else .bad) Q E = _
  rw [if_pos h]
  rfl
theorem W_addI {i j : Int} : W (fAdd (.int i) (.int j) S) Q E = Q (.int (i + j)) S := rfl
theorem W_mulI {i j : Int} (h : i.natAbs.log2 + j.natAbs.log2 < 1000000) : W (fMul (.int i) (.int j) S) Q E = Q (.int (i * j)) S := by
  show W (if i.natAbs.log2 + j.natAbs.log2 < 1000000 then .ok (.int (i * j)) S else .bad) Q E = _
  rw [if_pos h]
  rfl
theorem W_int {i : Int} : W (fInt [.int i] S) Q E = Q (.int i) S := rfl
theorem W_2L {g : Int → Int → Int} {i j : Int} : W (f2L g [.int i, .int j] S) Q E = Q (.int (g i j)) S := rfl
theorem W_is {neg : Bool} {d : D} : W (fIs neg d .non S) Q E = Q (.bl (if neg then !isNon d else isNon d)) S := rfl
theorem W_lenT {xs : List D} : W (fLen [.tup xs] S) Q E = Q (.int xs.length) S := rfl
theorem W_lenL {xs : List D} : W (fLen [.lst xs] S) Q E = Q (.int xs.length) S := rfl
theorem W_lenF {xs : List D} : W (fLen [.frz xs] S) Q E = Q (.int xs.length) S := rfl
theorem W_tupleT {xs : List D} : W (fTuple [.tup xs] S) Q E = Q (.tup xs) S := rfl
theorem W_tupleL {xs : List D} : W (fTuple [.lst xs] S) Q E = Q (.tup xs) S := rfl
theorem W_tupleF {xs : List D} : W (fTuple [.frz xs] S) Q E = Q (.tup xs) S := rfl
theorem W_ix {d : D} {ds : List D} {i : Int} {y : D} (h : seqOf S d = some ds) (h2 : atI ds i = some y) : W (fIx d (.int i) S) Q E = Q y S := by
  unfold fIx
  rw [h]
  dsimp only
  rw [h2]
  rfl
theorem W_ixT {ds : List D} {i : Int} {y : D} (h2 : atI ds i = some y) : W (fIx (.tup ds) (.int i) S) Q E = Q y S := W_ix rfl h2
end
/-! ### loops -/
/-- what an iterator gives, whatever the store holds -/
def ItD.Lst (it : ItD) (xs : List D) : Prop := ∀ i S, it.get i S = some xs[i]?
theorem lst_L (xs : List D) : (itL xs).Lst xs := fun _ _ => rfl
def rangeD (lo : Int) (n : Nat) : List D := (List.range n).map fun i : Nat => .int (lo + i)
theorem lst_R (lo : Int) (n : Nat) : (itR lo n).Lst (rangeD lo n) := fun i S => by
  show some (if i < n then some (D.int (lo + i)) else none) = some ((List.range n).map fun i : Nat => D.int (lo + i))[i]?
  congr 1
  rw [List.getElem?_map]
  by_cases h : i < n
  · rw [if_pos h, List.getElem?_range h]
    rfl
  · rw [if_neg h, List.getElem?_eq_none (by rw [List.length_range]; omega)]
    rfl
def enumD (xs : List D) : List D := xs.zipIdx.map fun p => .tup [.int p.2, p.1]
theorem lst_E (xs : List D) : (itE xs).Lst (enumD xs) := fun i S => by
  show some (xs[i]?.map fun d => D.tup [.int i, d]) = some (xs.zipIdx.map fun p : D × Nat => D.tup [.int p.2, p.1])[i]?
  congr 1
  rw [List.getElem?_map, List.getElem?_zipIdx]
  cases xs[i]? with
  | none => rfl
  | some d => simp
section
variable {QS : Fl × Rho → Store → Prop} {QA : List D → Store → Prop} {Q : D → Store → Prop} {E : Er → Store → Prop} {g : MG0} {b : MS0} {it : ItD} {xs : List D} {tt : MT0} {te : ME0}
def kLoop (QS : Fl × Rho → Store → Prop) (I : Rho → Store → Prop) : Fl × Rho → Store → Prop := fun x S => match x.1 with
  | .nx => I x.2 S
  | .ct => I x.2 S
  | .bk => QS (.nx, x.2) S
  | .rt d => QS (.rt d, x.2) S
def kBody (QS : Fl × Rho → Store → Prop) (E : Er → Store → Prop) (I : Rho → Store → Prop) (b : MS0) : Rho → Store → Prop := fun ρ S => W (b ρ S) (kLoop QS I) E
theorem k_body {I : Rho → Store → Prop} {ρ : Rho} {S : Store} : kBody QS E I b ρ S = W (b ρ S) (kLoop QS I) E := rfl
theorem k_loop_nx {I : Rho → Store → Prop} {ρ : Rho} {S : Store} : kLoop QS I (.nx, ρ) S = I ρ S := rfl
theorem k_loop_ct {I : Rho → Store → Prop} {ρ : Rho} {S : Store} : kLoop QS I (.ct, ρ) S = I ρ S := rfl
theorem k_loop_bk {I : Rho → Store → Prop} {ρ : Rho} {S : Store} : kLoop QS I (.bk, ρ) S = QS (.nx, ρ) S := rfl
theorem k_loop_rt {I : Rho → Store → Prop} {ρ : Rho} {S : Store} {d : D} : kLoop QS I (.rt d, ρ) S = QS (.rt d, ρ) S := rfl
theorem W_forL (hx : it.Lst xs) (I : Nat → Rho → Store → Prop) (hs : ∀ i d ρ S, xs[i]? = some d → I i ρ S → W (g d ρ S) (kBody QS E (I (i + 1)) b) E) (he : ∀ ρ S, I xs.length ρ S → QS (.nx, ρ) S) : ∀ (n i : Nat) (ρ : Rho) (S : Store), xs.length < i + n → i ≤ xs.length → I i ρ S → W (forL g b n i it ρ S) QS E
  | 0, i, ρ, S, h1, h2, _ => by omega
  | n + 1, i, ρ, S, h1, h2, hI => by
    unfold forL
    rw [hx i S]
    cases hi : xs[i]? with
    | none =>
      have : i = xs.length := by have := List.getElem?_eq_none_iff.mp hi; omega
      subst this
      exact he ρ S hI
    | some d =>
      dsimp only
      rw [W_bind]
      refine (hs i d ρ S hi hI).mono fun ρ1 S1 h => ?_
      rw [W_bind]
      refine W.mono h fun x S2 h => ?_
      obtain ⟨hl, _⟩ := List.getElem?_eq_some_iff.mp hi
      obtain ⟨fl, ρ2⟩ := x
      cases fl with
      | nx => exact W_forL hx I hs he n (i + 1) ρ2 S2 (by omega) (by omega) h
      | ct => exact W_forL hx I hs he n (i + 1) ρ2 S2 (by omega) (by omega) h
      | bk => exact h
      | rt d => exact h
theorem k_for {ρ : Rho} {S : Store} (hx : it.Lst xs) (hl : xs.length < BIG) (I : Nat → Rho → Store → Prop) (h0 : I 0 ρ S) (hs : ∀ i d ρ S, xs[i]? = some d → I i ρ S → W (g d ρ S) (kBody QS E (I (i + 1)) b) E) (he : ∀ ρ S, I xs.length ρ S → QS (.nx, ρ) S) : kFor QS E g b ρ it S :=
  W_forL hx I hs he BIG 0 ρ S (by omega) (by omega) h0
/-- a comprehension: what one turn leads to -/
def kLc1 (tt : MT0) (te : ME0) (Y : D → Store → Prop) (N : Store → Prop) : Rho → Store → Prop := fun ρ S => W (tt ρ S) (fun b S2 => if b = true then W (te ρ S2) Y Er0 else N S2) Er0
def kLc2 (te : ME0) (ρ : Rho) (Y : D → Store → Prop) (N : Store → Prop) : Bool → Store → Prop := fun b S2 => if b = true then W (te ρ S2) Y Er0 else N S2
theorem k_lc1 {Y : D → Store → Prop} {N : Store → Prop} {ρ : Rho} {S : Store} : kLc1 tt te Y N ρ S = W (tt ρ S) (kLc2 te ρ Y N) Er0 := rfl
theorem k_lc2_t {Y : D → Store → Prop} {N : Store → Prop} {ρ : Rho} {S : Store} : kLc2 te ρ Y N true S = W (te ρ S) Y Er0 := rfl
theorem k_lc2_f {Y : D → Store → Prop} {N : Store → Prop} {ρ : Rho} {S : Store} : kLc2 te ρ Y N false S = N S := rfl
theorem W_lcLoop {ρ : Rho} (hx : it.Lst xs) (I : Nat → List D → Store → Prop) (hs : ∀ i d acc S, xs[i]? = some d → I i acc S → W (g d ρ S) (kLc1 tt te (fun y S' => acc.length < sizeLine ∧ I (i + 1) (acc ++ [y]) S') (fun S' => I (i + 1) acc S')) Er0) (he : ∀ acc S, I xs.length acc S → QA acc S) :
    ∀ (n i : Nat) (acc : List D) (S : Store), xs.length < i + n → i ≤ xs.length → I i acc S → W (lcL g tt te n i it ρ acc S) QA E
  | 0, i, acc, S, h1, h2, _ => by omega
  | n + 1, i, acc, S, h1, h2, hI => by
    unfold lcL
    rw [hx i S]
    cases hi : xs[i]? with
    | none =>
      have : i = xs.length := by have := List.getElem?_eq_none_iff.mp hi; omega
      subst this
      exact he acc S hI
    | some d =>
      dsimp only
      rw [W_bind]
      obtain ⟨hl, _⟩ := List.getElem?_eq_some_iff.mp hi
      refine W_calm ((hs i d acc S hi hI).mono fun ρ1 S1 h => ?_)
      rw [W_bind]
      refine W_calm (W.mono h fun bb S2 h => ?_)
      cases bb with
      | true =>
        rw [if_pos rfl] at h ⊢
        rw [W_bind]
        refine W_calm (W.mono h fun y S3 h => ?_)
        rw [if_pos h.1]
        exact W_lcLoop hx I hs he n (i + 1) _ S3 (by omega) (by omega) h.2
      | false =>
        rw [if_neg Bool.false_ne_true] at h ⊢
        exact W_lcLoop hx I hs he n (i + 1) _ S2 (by omega) (by omega) h
theorem k_lc {ρ : Rho} {S : Store} {vs : List Nat} (hx : it.Lst xs) (hl : xs.length < BIG) (I : Nat → List D → Store → Prop) (h0 : I 0 [] S) (hs : ∀ i d acc S, xs[i]? = some d → I i acc S → W (g d (wipeD ρ vs) S) (kLc1 tt te (fun y S' => acc.length < sizeLine ∧ I (i + 1) (acc ++ [y]) S') (fun S' => I (i + 1) acc S')) Er0) (he : ∀ acc S, I xs.length acc S → QA acc S) : kLc QA E g tt te vs ρ it S :=
  W_lcLoop hx I hs he BIG 0 [] S (by omega) (by omega) h0
theorem W_nxLoop {ρ : Rho} (hx : it.Lst xs) (I : Nat → Store → Prop) (hs : ∀ i d S, xs[i]? = some d → I i S → W (g d ρ S) (kLc1 tt te Q (fun S' => I (i + 1) S')) Er0) (he : ∀ S, I xs.length S → Q .non S) : ∀ (n i : Nat) (S : Store), xs.length < i + n → i ≤ xs.length → I i S → W (nxL g tt te n i it ρ S) Q E
  | 0, i, S, h1, h2, _ => by omega
  | n + 1, i, S, h1, h2, hI => by
    unfold nxL
    rw [hx i S]
    cases hi : xs[i]? with
    | none =>
      have : i = xs.length := by have := List.getElem?_eq_none_iff.mp hi; omega
      subst this
      exact he S hI
    | some d =>
      dsimp only
      rw [W_bind]
      obtain ⟨hl, _⟩ := List.getElem?_eq_some_iff.mp hi
      refine W_calm ((hs i d S hi hI).mono fun ρ1 S1 h => ?_)
      rw [W_bind]
      refine W_calm (W.mono h fun bb S2 h => ?_)
      cases bb with
      | true =>
        rw [if_pos rfl] at h ⊢
        exact W_calm h
      | false =>
        rw [if_neg Bool.false_ne_true] at h ⊢
        exact W_nxLoop hx I hs he n (i + 1) S2 (by omega) (by omega) h
theorem k_nxt {ρ : Rho} {S : Store} {vs : List Nat} (hx : it.Lst xs) (hl : xs.length < BIG) (I : Nat → Store → Prop) (h0 : I 0 S) (hs : ∀ i d S, xs[i]? = some d → I i S → W (g d (wipeD ρ vs) S) (kLc1 tt te Q (fun S' => I (i + 1) S')) Er0) (he : ∀ S, I xs.length S → Q .non S) : kNxt Q E g tt te vs ρ it S :=
  W_nxLoop hx I hs he BIG 0 S (by omega) (by omega) h0
end
/-! ### the step -/
local macro_rules | `(tactic| simp_arith [$ts,*]) => `(tactic| simp only [W_ok, W_var, k_var, W_c, W_op, k_op1, k_op2, W_un, k_un, W_nil, W_cons, k_cons1, k_cons2, W_call, k_call, W_tup, k_tup, W_lst, k_lst, W_lstS, k_lstS, W_seq, k_seq_nx, k_seq_rt, k_seq_bk, k_seq_ct,
  W_expr, k_expr, W_ret, k_ret, W_retN, W_nx, W_bk, W_ct, W_if, k_if_t, k_if_f, W_ifE, k_ifE_t, k_ifE_f, W_b, k_b, W_andT, k_andT_t, k_andT_f, W_orT, k_orT_t, k_orT_f, W_notT, k_notT, W_yes, W_andV, k_andV_t, k_andV_f, W_orV, k_orV_t, k_orV_f, W_notV, k_notV,
  W_cmpC, k_cmp1, k_cmp2, k_cmp3_t, k_cmp3_f, W_asg, k_asg, k_asg2, W_gN, W_gsNil, W_gsCons, k_gs, W_gTp, W_gIx, k_ix1, W_for, W_lc, W_lcS, W_next, W_miA, k_it_tup, k_it_lst, k_it_frz, W_def, k_def_rt, k_def_nx, W_callK,
  W_f2I, W_addI, W_int, W_2L, W_is, W_lenT, W_lenL, W_lenF, W_tupleT, W_tupleL, W_tupleF, k_body, k_loop_nx, k_loop_ct, k_loop_bk, k_loop_rt, k_lc1, k_lc2_t, k_lc2_f,
  List.map_cons, List.map_nil, List.length_cons, List.length_nil, List.reduceReplicate, Nat.reduceSub, Nat.reduceAdd, Int.reduceAdd, Int.reduceSub, Int.reduceMul, Int.reduceNeg, Int.reduceLT, Int.reduceLE, Int.reduceEq, Int.cast_ofNat_Int, Int.natCast_zero, Int.natCast_one, eq_self, decide_true, decide_false, Bool.and_true, Bool.true_and, Bool.false_and, Bool.and_false, Nat.zero_add, List.replicate_zero, List.replicate_succ, List.cons_append, List.nil_append, List.append_nil, List.getElem?_cons_zero, List.getElem?_cons_succ, List.set_cons_zero, List.set_cons_succ, wipeD, Bool.not_true, Bool.not_false, if_true, if_false, reduceIte, isNon, Bool.false_eq_true, $ts,*])
local macro_rules | `(tactic| simp_arith) => `(tactic| simp_arith [])
example : W (mOp fSub (mVar 0) (mC (.int 1)) [some (.int 4)] []) (fun d S => d = .int 3) Er0 := by
  simp_arith []
end MM

/-! Plain data: equality, instances, ranges. -/
namespace MM
open PySem L2
mutual
def pyOf : D → PyData
  | .non => .none
  | .bl b => .bool b
  | .int i => .int i
  | .str s => .str s
  | .tup ds => .tuple (pyOfL ds)
  | .lst ds => .list (pyOfL ds)
  | .frz ds => .list (pyOfL ds)
  | .ref _ => .none
def pyOfL : List D → List PyData
  | [] => []
  | d :: ds => pyOf d :: pyOfL ds
end
mutual
/-- no object of the store in it, texts of signs, at most so deep -/
def flat : Nat → D → Bool
  | _, .non => true
  | _, .bl _ => true
  | _, .int _ => true
  | _, .str s => PyData.strOk s
  | n + 1, .tup ds => flatL n ds
  | n + 1, .lst ds => flatL n ds
  | _, _ => false
def flatL : Nat → List D → Bool
  | _, [] => true
  | n, d :: ds => flat n d && flatL n ds
end
mutual
theorem flat_py (S : Store) : ∀ {n : Nat} {d : D}, flat n d = true → toPy S d = some (pyOf d) ∧ (pyOf d).canLay0 = true ∧ (pyOf d).depth ≤ n
  | n, .non, h => ⟨by unfold toPy pyOf; rfl, by unfold pyOf PyData.canLay0; rfl, by unfold pyOf PyData.depth; exact Nat.zero_le _⟩
  | n, .bl b, h => ⟨by unfold toPy pyOf; rfl, by unfold pyOf PyData.canLay0; rfl, by unfold pyOf PyData.depth; exact Nat.zero_le _⟩
  | n, .int b, h => ⟨by unfold toPy pyOf; rfl, by unfold pyOf PyData.canLay0; rfl, by unfold pyOf PyData.depth; exact Nat.zero_le _⟩
  | n, .str s, h => ⟨by unfold toPy pyOf; rfl, by unfold flat at h; unfold pyOf PyData.canLay0; exact h, by unfold pyOf PyData.depth; exact Nat.zero_le _⟩
  | n + 1, .tup ds, h => by
    unfold flat at h
    obtain ⟨h1, h2, h3⟩ := flatL_py S h
    refine ⟨by unfold toPy pyOf; rw [h1]; rfl, by unfold pyOf PyData.canLay0; exact h2, by unfold pyOf PyData.depth; omega⟩
  | n + 1, .lst ds, h => by
    unfold flat at h
    obtain ⟨h1, h2, h3⟩ := flatL_py S h
    refine ⟨by unfold toPy pyOf; rw [h1]; rfl, by unfold pyOf PyData.canLay0; exact h2, by unfold pyOf PyData.depth; omega⟩
  | 0, .tup ds, h => by unfold flat at h; cases h
  | 0, .lst ds, h => by unfold flat at h; cases h
  | n, .frz ds, h => by unfold flat at h; cases h
  | n, .ref ds, h => by unfold flat at h; cases h
theorem flatL_py (S : Store) : ∀ {n : Nat} {ds : List D}, flatL n ds = true → toPyL S ds = some (pyOfL ds) ∧ PyData.canLayAll0 (pyOfL ds) = true ∧ PyData.depthAll (pyOfL ds) ≤ n
  | n, [], h => ⟨by unfold toPyL pyOfL; rfl, by unfold pyOfL PyData.canLayAll0; rfl, by unfold pyOfL PyData.depthAll; exact Nat.zero_le _⟩
  | n, d :: ds, h => by
    unfold flatL at h
    obtain ⟨h1, h2⟩ := Bool.and_eq_true_iff.mp h
    obtain ⟨a1, a2, a3⟩ := flat_py S h1
    obtain ⟨b1, b2, b3⟩ := flatL_py S h2
    refine ⟨by unfold toPyL pyOfL; rw [a1, b1], by unfold pyOfL PyData.canLayAll0; rw [a2, b2]; rfl, by unfold pyOfL PyData.depthAll; omega⟩
end
def eqD (x y : D) : Bool := PyData.eqv (pyOf x) (pyOf y)
theorem eqRes_flat {S : Store} {neg : Bool} {x y : D} (hx : flat 64 x = true) (hy : flat 64 y = true) : eqRes S neg x y = some (if neg then !eqD x y else eqD x y) := by
  obtain ⟨a1, a2, a3⟩ := flat_py S hx
  obtain ⟨b1, b2, b3⟩ := flat_py S hy
  unfold eqRes
  rw [a1, b1]
  dsimp only
  rw [if_pos]
  · rfl
  · unfold SeqAt.shaped
    rw [a2, b2, decide_eq_true a3, decide_eq_true b3]
    exact ⟨rfl, rfl⟩
mutual
/-- no True or False in it -/
def noB : D → Bool
  | .bl _ => false
  | .tup ds => noBL ds
  | .lst ds => noBL ds
  | .frz _ => false
  | .ref _ => false
  | _ => true
def noBL : List D → Bool
  | [] => true
  | d :: ds => noB d && noBL ds
end
mutual
theorem eqD_iff : ∀ {x y : D}, noB x = true → noB y = true → (eqD x y = true ↔ x = y)
  | .non, y, hx, hy => by
    cases y <;> simp_all [eqD, pyOf, PyData.eqv, noB]
  | .int i, y, hx, hy => by
    cases y <;> simp_all [eqD, pyOf, PyData.eqv, noB]
  | .str s, y, hx, hy => by
    cases y <;> simp_all [eqD, pyOf, PyData.eqv, noB]
  | .tup ds, y, hx, hy => by
    cases y with
    | tup es =>
      have := eqDL_iff (by unfold noB at hx; exact hx) (by unfold noB at hy; exact hy) (xs := ds) (ys := es)
      simp only [eqD, pyOf, PyData.eqv, this, D.tup.injEq]
    | _ => simp_all [eqD, pyOf, PyData.eqv, noB]
  | .lst ds, y, hx, hy => by
    cases y with
    | lst es =>
      have := eqDL_iff (by unfold noB at hx; exact hx) (by unfold noB at hy; exact hy) (xs := ds) (ys := es)
      simp only [eqD, pyOf, PyData.eqv, this, D.lst.injEq]
    | _ => simp_all [eqD, pyOf, PyData.eqv, noB]
  | .bl _, y, hx, hy => by unfold noB at hx; cases hx
  | .frz _, y, hx, hy => by unfold noB at hx; cases hx
  | .ref _, y, hx, hy => by unfold noB at hx; cases hx
theorem eqDL_iff : ∀ {xs ys : List D}, noBL xs = true → noBL ys = true → (PyData.eqvAll (pyOfL xs) (pyOfL ys) = true ↔ xs = ys)
  | [], [], _, _ => by simp [pyOfL, PyData.eqvAll]
  | [], y :: ys, _, _ => by simp [pyOfL, PyData.eqvAll]
  | x :: xs, [], _, _ => by simp [pyOfL, PyData.eqvAll]
  | x :: xs, y :: ys, hx, hy => by
    unfold noBL at hx hy
    obtain ⟨h1, h2⟩ := Bool.and_eq_true_iff.mp hx
    obtain ⟨h3, h4⟩ := Bool.and_eq_true_iff.mp hy
    have a := eqD_iff h1 h3
    have b := eqDL_iff h2 h4
    unfold eqD at a
    simp only [pyOfL, PyData.eqvAll, Bool.and_eq_true, a, b, List.cons.injEq]
end
section
variable {Q : D → Store → Prop} {QA : List D → Store → Prop} {QI : ItD → Store → Prop} {E : Er → Store → Prop} {ρ : Rho} {S : Store}
theorem W_eqF {neg : Bool} {x y : D} (hx : flat 64 x = true) (hy : flat 64 y = true) : W (fEq neg x y S) Q E = Q (.bl (if neg then !eqD x y else eqD x y)) S := by
  unfold fEq
  rw [eqRes_flat hx hy]
  rfl
theorem W_eqI {neg : Bool} {i j : Int} : W (fEq neg (.int i) (.int j) S) Q E = Q (.bl (if neg then !decide (i = j) else decide (i = j))) S := by
  rw [W_eqF (by unfold flat; rfl) (by unfold flat; rfl)]
  have : eqD (.int i) (.int j) = decide (i = j) := by
    simp only [eqD, pyOf, PyData.eqv]
    rfl
  rw [this]
/-- equal without True and False -/
theorem W_eqN {neg : Bool} {x y : D} [h : Decidable (x = y)] (hx : flat 64 x = true) (hy : flat 64 y = true) (nx : noB x = true) (ny : noB y = true) : W (fEq neg x y S) Q E = Q (.bl (if neg then !decide (x = y) else decide (x = y))) S := by
  rw [W_eqF hx hy]
  have : eqD x y = decide (x = y) := by
    rw [Bool.eq_iff_iff, eqD_iff nx ny, decide_eq_true_iff]
  rw [this]
/-! instances of built-in classes -/
theorem W_isi {T t : String} {d : D} {b : Bool} (h : tyD S d = some t) (hk : kitB t T = some b) : W (fIsi T d S) Q E = Q (.bl b) S := by
  unfold fIsi
  rw [h]
  dsimp only
  rw [hk]
  rfl
def kIsi (T : String) (t : String) (S : Store) : Prop := match kitB t T with
  | some b => Q (.bl b) S
  | none => False
theorem isi_int_i {i : Int} : W (fIsi "int" (.int i) S) Q E = Q (.bl true) S := W_isi rfl (by decide +kernel)
theorem isi_int_b {i : Bool} : W (fIsi "int" (.bl i) S) Q E = Q (.bl true) S := W_isi rfl (by decide +kernel)
theorem isi_int_n : W (fIsi "int" .non S) Q E = Q (.bl false) S := W_isi rfl (by decide +kernel)
theorem isi_int_s {s : Str} : W (fIsi "int" (.str s) S) Q E = Q (.bl false) S := W_isi rfl (by decide +kernel)
theorem isi_int_t {s : List D} : W (fIsi "int" (.tup s) S) Q E = Q (.bl false) S := W_isi rfl (by decide +kernel)
theorem isi_int_l {s : List D} : W (fIsi "int" (.lst s) S) Q E = Q (.bl false) S := W_isi rfl (by decide +kernel)
theorem isi_bool_i {i : Int} : W (fIsi "bool" (.int i) S) Q E = Q (.bl false) S := W_isi rfl (by decide +kernel)
theorem isi_bool_b {i : Bool} : W (fIsi "bool" (.bl i) S) Q E = Q (.bl true) S := W_isi rfl (by decide +kernel)
theorem isi_bool_n : W (fIsi "bool" .non S) Q E = Q (.bl false) S := W_isi rfl (by decide +kernel)
theorem isi_bool_s {s : Str} : W (fIsi "bool" (.str s) S) Q E = Q (.bl false) S := W_isi rfl (by decide +kernel)
theorem isi_bool_t {s : List D} : W (fIsi "bool" (.tup s) S) Q E = Q (.bl false) S := W_isi rfl (by decide +kernel)
theorem isi_bool_l {s : List D} : W (fIsi "bool" (.lst s) S) Q E = Q (.bl false) S := W_isi rfl (by decide +kernel)
theorem isi_tuple_i {i : Int} : W (fIsi "tuple" (.int i) S) Q E = Q (.bl false) S := W_isi rfl (by decide +kernel)
theorem isi_tuple_b {i : Bool} : W (fIsi "tuple" (.bl i) S) Q E = Q (.bl false) S := W_isi rfl (by decide +kernel)
theorem isi_tuple_n : W (fIsi "tuple" .non S) Q E = Q (.bl false) S := W_isi rfl (by decide +kernel)
theorem isi_tuple_s {s : Str} : W (fIsi "tuple" (.str s) S) Q E = Q (.bl false) S := W_isi rfl (by decide +kernel)
theorem isi_tuple_t {s : List D} : W (fIsi "tuple" (.tup s) S) Q E = Q (.bl true) S := W_isi rfl (by decide +kernel)
theorem isi_tuple_l {s : List D} : W (fIsi "tuple" (.lst s) S) Q E = Q (.bl false) S := W_isi rfl (by decide +kernel)
theorem isi_list_i {i : Int} : W (fIsi "list" (.int i) S) Q E = Q (.bl false) S := W_isi rfl (by decide +kernel)
theorem isi_list_b {i : Bool} : W (fIsi "list" (.bl i) S) Q E = Q (.bl false) S := W_isi rfl (by decide +kernel)
theorem isi_list_n : W (fIsi "list" .non S) Q E = Q (.bl false) S := W_isi rfl (by decide +kernel)
theorem isi_list_s {s : Str} : W (fIsi "list" (.str s) S) Q E = Q (.bl false) S := W_isi rfl (by decide +kernel)
theorem isi_list_t {s : List D} : W (fIsi "list" (.tup s) S) Q E = Q (.bl false) S := W_isi rfl (by decide +kernel)
theorem isi_list_l {s : List D} : W (fIsi "list" (.lst s) S) Q E = Q (.bl true) S := W_isi rfl (by decide +kernel)
theorem isi_str_i {i : Int} : W (fIsi "str" (.int i) S) Q E = Q (.bl false) S := W_isi rfl (by decide +kernel)
theorem isi_str_b {i : Bool} : W (fIsi "str" (.bl i) S) Q E = Q (.bl false) S := W_isi rfl (by decide +kernel)
theorem isi_str_n : W (fIsi "str" .non S) Q E = Q (.bl false) S := W_isi rfl (by decide +kernel)
theorem isi_str_s {s : Str} : W (fIsi "str" (.str s) S) Q E = Q (.bl true) S := W_isi rfl (by decide +kernel)
theorem isi_str_t {s : List D} : W (fIsi "str" (.tup s) S) Q E = Q (.bl false) S := W_isi rfl (by decide +kernel)
theorem isi_str_l {s : List D} : W (fIsi "str" (.lst s) S) Q E = Q (.bl false) S := W_isi rfl (by decide +kernel)
/-! ranges, enumerate -/
def kR1 (QI : ItD → Store → Prop) : List D → Store → Prop := fun ds S => match ds with
  | [.int j] => -(2 ^ 62) ≤ j ∧ j < 2 ^ 62 ∧ QI (itR 0 j.toNat) S
  | _ => False
theorem W_R1 {ma : MA0} (h : W (ma ρ S) (kR1 QI) E) : W (miR1 ma ρ S) QI E := by
  unfold miR1
  rw [W_bind]
  refine h.mono fun ds S1 h => ?_
  unfold kR1 at h
  split at h
  · obtain ⟨h1, h2, h3⟩ := h
    try dsimp only
    rw [if_pos ⟨h1, h2⟩]
    exact h3
  · exact h.elim
theorem k_R1 {j : Int} (h1 : -(2 ^ 62) ≤ j) (h2 : j < 2 ^ 62) (h : QI (itR 0 j.toNat) S) : kR1 QI [.int j] S := ⟨h1, h2, h⟩
def kR2 (QI : ItD → Store → Prop) : List D → Store → Prop := fun ds S => match ds with
  | [.int i, .int j] => -(2 ^ 62) ≤ i ∧ i < 2 ^ 62 ∧ -(2 ^ 62) ≤ j ∧ j < 2 ^ 62 ∧ QI (itR i (j - i).toNat) S
  | _ => False
theorem W_R2 {ma : MA0} (h : W (ma ρ S) (kR2 QI) E) : W (miR2 ma ρ S) QI E := by
  unfold miR2
  rw [W_bind]
  refine h.mono fun ds S1 h => ?_
  unfold kR2 at h
  split at h
  · obtain ⟨h1, h2, h3, h4, h5⟩ := h
    try dsimp only
    rw [if_pos ⟨h1, h2, h3, h4⟩]
    exact h5
  · exact h.elim
def kEn (QI : ItD → Store → Prop) : List D → Store → Prop := fun ds S => match ds with
  | [.tup xs] => QI (itE xs) S
  | [.lst xs] => QI (itE xs) S
  | _ => False
theorem W_E {ma : MA0} : W (miE ma ρ S) QI E = W (ma ρ S) (kEn QI) E := by
  unfold miE
  rw [W_bind]
  congr 1
  funext ds S1
  cases ds with
  | nil => rfl
  | cons d r => cases d <;> cases r <;> rfl
theorem k_en_tup {xs : List D} : kEn QI [.tup xs] S = QI (itE xs) S := rfl
theorem k_en_lst {xs : List D} : kEn QI [.lst xs] S = QI (itE xs) S := rfl
theorem k_R1_eq {j : Int} : kR1 QI [.int j] S = (-(2 ^ 62) ≤ j ∧ j < 2 ^ 62 ∧ QI (itR 0 j.toNat) S) := rfl
theorem k_R2_eq {i j : Int} : kR2 QI [.int i, .int j] S = (-(2 ^ 62) ≤ i ∧ i < 2 ^ 62 ∧ -(2 ^ 62) ≤ j ∧ j < 2 ^ 62 ∧ QI (itR i (j - i).toNat) S) := rfl
theorem W_allL {xs : List Bool} : W (fAll [.lst (xs.map .bl)] S) Q E = Q (.bl (xs.all id)) S := by
  unfold fAll
  dsimp only [lstOf]
  have : blsOf (xs.map D.bl) = some xs := by
    induction xs with
    | nil => rfl
    | cons x xs ih =>
      rw [List.map_cons]
      show (blsOf (xs.map D.bl)).map (x :: ·) = _
      rw [ih]
      rfl
  rw [this]
  rfl
end
section
variable {QA : List D → Store → Prop} {Q : D → Store → Prop} {E : Er → Store → Prop} {g : MG0} {it : ItD} {xs : List D} {tt : MT0} {te : ME0} {S : Store} {vs : List Nat} {ρ : Rho}
theorem length_rangeD (lo : Int) (n : Nat) : (rangeD lo n).length = n := by unfold rangeD; rw [List.length_map, List.length_range]
theorem rangeD_get {lo : Int} {n i : Nat} {d : D} (h : (rangeD lo n)[i]? = some d) : i < n ∧ d = .int (lo + i) := by
  have hl := (List.getElem?_eq_some_iff.mp h).1
  rw [length_rangeD] at hl
  unfold rangeD at h
  rw [List.getElem?_map, List.getElem?_range hl] at h
  exact ⟨hl, (Option.some.inj h).symm⟩
/-- a comprehension that changes nothing -/
def kEl (te : ME0) (Y : D → Store → Prop) : Rho → Store → Prop := fun ρ S => W (te ρ S) Y Er0
theorem k_el {Y : D → Store → Prop} : kEl te Y ρ S = W (te ρ S) Y Er0 := rfl
theorem k_lc_map {f : D → D} (hx : it.Lst xs) (hl : xs.length < sizeLine) (h : ∀ d ∈ xs, ∀ Y : D → Store → Prop, Y (f d) S → W (g d (wipeD ρ vs) S) (kEl te Y) Er0) (hq : QA (xs.map f) S) : kLc QA E g mYes te vs ρ it S := by
  refine k_lc hx (Nat.lt_trans hl (by decide)) (fun i acc S' => S' = S ∧ acc = (xs.take i).map f) ⟨rfl, rfl⟩ (fun i d acc S' hi hI => ?_) fun acc S' hI => ?_
  · obtain ⟨rfl, rfl⟩ := hI
    refine W.mono (h d (List.mem_of_getElem? hi) (fun y S2 => y = f d ∧ S2 = S') ⟨rfl, rfl⟩) fun ρ1 S1 h1 => ?_
    rw [k_el] at h1
    rw [k_lc1, W_yes, k_lc2_t]
    refine h1.mono fun y S2 h2 => ?_
    obtain ⟨rfl, rfl⟩ := h2
    refine ⟨?_, rfl, ?_⟩
    · rw [List.length_map, List.length_take]
      omega
    · rw [List.take_add_one, hi, List.map_append]
      rfl
  · obtain ⟨rfl, rfl⟩ := hI
    rw [List.take_length]
    exact hq
end
end MM

namespace MM
open PySem PySem.Spec L2 PyProof.Rows
/-! ### the text by places, what is asked of the top -/
def topS (i : Nat) : Stmt := PySem.Challenge.pw_lazytags_k01_answers_of_machines.main.body.getD i (.Pass ⟨0, 0, 0, 0⟩)
abbrev s__law_purse : Stmt := topS 20
abbrev s__law_mixed : Stmt := topS 19
abbrev s__law_draw : Stmt := topS 21
abbrev s__law_machine : Stmt := topS 22
abbrev s_is_integer : Stmt := topS 8
abbrev s_require_size : Stmt := topS 10
abbrev s_is_row : Stmt := topS 9
abbrev s_fault_of : Stmt := topS 11
abbrev s_check_machine : Stmt := topS 12
abbrev s__law_row : Stmt := topS 25
abbrev s__law_read : Stmt := topS 23
abbrev s__law_answer : Stmt := topS 24
abbrev s_size_of : Stmt := topS 13
abbrev s_require_machine : Stmt := topS 14
abbrev s_state_after : Stmt := topS 15
abbrev s_answer_on : Stmt := topS 16
abbrev s_answer : Stmt := topS 17
abbrev s_law : Stmt := topS 26
structure Bi (mg : Str → Option Value) : Prop where
  b_all : mg "all" = none
  b_bool : mg "bool" = none
  b_enumerate : mg "enumerate" = none
  b_int : mg "int" = none
  b_isinstance : mg "isinstance" = none
  b_len : mg "len" = none
  b_max : mg "max" = none
  b_min : mg "min" = none
  b_next : mg "next" = none
  b_range : mg "range" = none
  b_tuple : mg "tuple" = none
  c_MOST_ANSWER : ∃ t, mg "MOST_ANSWER" = some (.int 99 t)
  c_MOST_VALUES : ∃ t, mg "MOST_VALUES" = some (.int 4 t)
section
variable {T : List Addr} {P : Program} {w : World} {K : PySem.W.Frag} {mg : Str → Option Value} {base : Heap}
/-! ### _law_purse -/
theorem sc__law_purse : FnScope ["_law_script", "_law_at", "_law_cell"] ["_law_script", "_law_at"] (defScope s__law_purse) := ⟨rfl, rfl, rfl, by decide +kernel, rfl, by decide +kernel, by decide +kernel⟩
def m__law_purse : List D → Store → Res D := mDef 3 ((sSeq (sAsg (mC (.int 0)) (gN 2))
  (sSeq (sIf (mB (mOp fLtI (mVar 1) (mCall fLen (mCons (mVar 0) mNil)))) (sAsg (mOp fIx (mVar 0) (mVar 1)) (gN 2)) sNx)
  (sRet (mLstS (mCons (mOp fMod (mCall fInt (mCons (mCall fMax2 (mCons (mOp fSub (mVar 2) (mOp fPowW (mC (.int 10)) (mC (.int 18)))) (mCons (mC (.int 0)) mNil))) mNil)) (mOp fPowW (mOp fPowW (mC (.int 10)) (mC (.int 60))) (mC (.int 8)))) (mCons (mOp fMod (mCall fInt (mCons (mVar 2) mNil)) (mC (.int 2147483647))) (mCons (mOp fMul (mC (.int 1000)) (mVar 1)) mNil))))))))
theorem ok__law_purse {f : Addr} {fd : FuncData} (D : DefAt K mg "_law_purse" s__law_purse f fd) (B : Bi mg) : Cl T P w K mg base 1 "_law_purse" ["_law_script", "_law_at"] f fd 2 m__law_purse := by
  refine ⟨fn_ok D.F sc__law_purse rfl (fun cdv A outer s H E hr => ?_), D.m, D.F.kp, D.F.binds fun _ _ _ _ _ _ us hl => match us, hl with | [_, _], _ => rfl⟩
  let X := cxOf (L2.CX P w) P w K mg base ["_law_script", "_law_at", "_law_cell"] "_law_purse" (defScope s__law_purse) f cdv A outer s H E
  have tk : Takes X (fun cls d _ H => E cls d H) := takes_of rfl rfl rfl rfl
  have hx : Passes (L2.CX P w) X E := passes_call tk fun _ _ _ _ z => z
  have po : PassesOwn (model P w) X.A X.env X.xe := passes_of rfl
  exact (mss_cons (ms_set (i := 2) sc__law_purse.nd rfl me_int)
      (mss_cons (ms_if (mt_cmp op_lt o_lt (me_var 1) (me_len (by rfl) B.b_len (ma_cons (me_var 0) ma_nil))) (mss_one (ms_set (i := 2) sc__law_purse.nd rfl (me_ix (me_var 0) (me_var 1)))) mss_nil)
      (mss_one (ms_ret (me_lstS (ma_cons (me_mod (me_int1 (by rfl) B.b_int (ma_cons (me_max2 rfl (by rfl) B.b_max (ma_cons (me_sub (me_var 2) (me_powW me_int me_int)) (ma_cons me_int ma_nil))) ma_nil)) (me_powW (me_powW me_int me_int) me_int)) (ma_cons (me_mod (me_int1 (by rfl) B.b_int (ma_cons (me_var 2) ma_nil)) me_int) (ma_cons (me_mulA me_int (me_var 1)) ma_nil))))))))
/-! ### _law_mixed -/
theorem sc__law_mixed : FnScope ["_law_cell", "_law_k", "_law_number"] ["_law_cell", "_law_k"] (defScope s__law_mixed) := ⟨rfl, rfl, rfl, by decide +kernel, rfl, by decide +kernel, by decide +kernel⟩
def m__law_mixed : List D → Store → Res D := mDef 3 ((sSeq (sAsg (mOp fMod (mCall fInt (mCons (mOp fAdd (mOp fAdd (mOp fAdd (mOp fMul (mVar 0) (mC (.int 2654435761))) (mOp fMul (mOp fMul (mC (.int 40503)) (mVar 1)) (mVar 1))) (mOp fMul (mC (.int 97)) (mVar 1))) (mC (.int 13))) mNil)) (mC (.int 2147483647))) (gN 2))
  (sRet (mOp fFloor (mOp fMod (mCall fInt (mCons (mOp fAdd (mOp fAdd (mOp fMul (mVar 2) (mVar 2)) (mOp fMul (mC (.int 7)) (mVar 2))) (mC (.int 11))) mNil)) (mC (.int 2147483629))) (mC (.int 3))))))
theorem ok__law_mixed {f : Addr} {fd : FuncData} (D : DefAt K mg "_law_mixed" s__law_mixed f fd) (B : Bi mg) : Cl T P w K mg base 1 "_law_mixed" ["_law_cell", "_law_k"] f fd 2 m__law_mixed := by
  refine ⟨fn_ok D.F sc__law_mixed rfl (fun cdv A outer s H E hr => ?_), D.m, D.F.kp, D.F.binds fun _ _ _ _ _ _ us hl => match us, hl with | [_, _], _ => rfl⟩
  let X := cxOf (L2.CX P w) P w K mg base ["_law_cell", "_law_k", "_law_number"] "_law_mixed" (defScope s__law_mixed) f cdv A outer s H E
  have tk : Takes X (fun cls d _ H => E cls d H) := takes_of rfl rfl rfl rfl
  have hx : Passes (L2.CX P w) X E := passes_call tk fun _ _ _ _ z => z
  have po : PassesOwn (model P w) X.A X.env X.xe := passes_of rfl
  exact (mss_cons (ms_set (i := 2) sc__law_mixed.nd rfl (me_mod (me_int1 (by rfl) B.b_int (ma_cons (me_add (me_add (me_add (me_mulA (me_var 0) me_int) (me_mulA (me_mulA me_int (me_var 1)) (me_var 1))) (me_mulA me_int (me_var 1))) me_int) ma_nil)) me_int))
      (mss_one (ms_ret (me_floor (me_mod (me_int1 (by rfl) B.b_int (ma_cons (me_add (me_add (me_mulA (me_var 2) (me_var 2)) (me_mulA me_int (me_var 2))) me_int) ma_nil)) me_int) me_int))))
/-! ### _law_draw -/
theorem sc__law_draw : FnScope ["_law_purse_here", "_law_out_of", "_law_drawn"] ["_law_purse_here", "_law_out_of"] (defScope s__law_draw) := ⟨rfl, rfl, rfl, by decide +kernel, rfl, by decide +kernel, by decide +kernel⟩
def m__law_draw : List D → Store → Res D := mDef 3 ((sSeq (sIf (mB (mOp fGtI (mOp fIx (mVar 0) (mC (.int 0))) (mC (.int 0)))) (sSeq (sAsg (mOp fMod (mCall fInt (mCons (mOp fIx (mVar 0) (mC (.int 0))) mNil)) (mVar 1)) (gN 2))
  (sSeq (sAsg (mOp fFloor (mOp fIx (mVar 0) (mC (.int 0))) (mVar 1)) (gIx (mVar 0) (mC (.int 0))))
  (sRet (mVar 2)))) sNx)
  (sSeq (sAsg (mOp fAdd (mOp fIx (mVar 0) (mC (.int 2))) (mC (.int 1))) (gIx (mVar 0) (mC (.int 2))))
  (sRet (mOp fMod (mCall fInt (mCons (mCall m__law_mixed (mCons (mOp fIx (mVar 0) (mC (.int 1))) (mCons (mOp fIx (mVar 0) (mC (.int 2))) mNil))) mNil)) (mVar 1))))))
theorem ok__law_draw {f : Addr} {fd : FuncData} (D : DefAt K mg "_law_draw" s__law_draw f fd) (B : Bi mg) {f__law_mixed : Addr} {fd__law_mixed : FuncData} (C__law_mixed : Cl T P w K mg base 1 "_law_mixed" ["_law_cell", "_law_k"] f__law_mixed fd__law_mixed 2 m__law_mixed) : Cl T P w K mg base 2 "_law_draw" ["_law_purse_here", "_law_out_of"] f fd 2 m__law_draw := by
  refine ⟨fn_ok D.F sc__law_draw rfl (fun cdv A outer s H E hr => ?_), D.m, D.F.kp, D.F.binds fun _ _ _ _ _ _ us hl => match us, hl with | [_, _], _ => rfl⟩
  let X := cxOf (L2.CX P w) P w K mg base ["_law_purse_here", "_law_out_of", "_law_drawn"] "_law_draw" (defScope s__law_draw) f cdv A outer s H E
  have tk : Takes X (fun cls d _ H => E cls d H) := takes_of rfl rfl rfl rfl
  have hx : Passes (L2.CX P w) X E := passes_call tk fun _ _ _ _ z => z
  have po : PassesOwn (model P w) X.A X.env X.xe := passes_of rfl
  exact (mss_cons (ms_if (mt_cmp op_gt o_gt (me_ix (me_var 0) me_int) me_int) (mss_cons (ms_set (i := 2) sc__law_draw.nd rfl (me_mod (me_int1 (by rfl) B.b_int (ma_cons (me_ix (me_var 0) me_int) ma_nil)) (me_var 1)))
      (mss_cons (ms_asg (me_floor (me_ix (me_var 0) me_int) (me_var 1)) (mg_ix (me_var 0) me_int))
      (mss_one (ms_ret (me_var 2))))) mss_nil)
      (mss_cons (ms_asg (me_add (me_ix (me_var 0) me_int) me_int) (mg_ix (me_var 0) me_int))
      (mss_one (ms_ret (me_mod (me_int1 (by rfl) B.b_int (ma_cons (me_call C__law_mixed.ok (hr.mono (by decide)) (by rfl) C__law_mixed.m C__law_mixed.kp C__law_mixed.b hx (ma_cons (me_ix (me_var 0) me_int) (ma_cons (me_ix (me_var 0) me_int) ma_nil))) ma_nil)) (me_var 1))))))
/-! ### _law_machine -/
theorem sc__law_machine : FnScope ["_law_purse_here", "_law_wide", "_law_most", "_law_many", "_law_steps", "_law_few", "_law_state", "_law_value"] ["_law_purse_here", "_law_wide", "_law_most"] (defScope s__law_machine) := ⟨rfl, rfl, rfl, by decide +kernel, rfl, by decide +kernel, by decide +kernel⟩
def m__law_machine : List D → Store → Res D := mDef 8 ((sSeq (sAsg (mOp fAdd (mC (.int 1)) (mCall m__law_draw (mCons (mVar 0) (mCons (mVar 2) mNil)))) (gN 3))
  (sSeq (sAsg (mCall fTuple (mCons (mLc (miR1 (mCons (mVar 3) mNil)) (gN 6) mYes (mCall fTuple (mCons (mLc (miR1 (mCons (mVar 1) mNil)) (gN 7) mYes (mCall m__law_draw (mCons (mVar 0) (mCons (mVar 3) mNil))) [7]) mNil)) [6]) mNil)) (gN 4))
  (sSeq (sAsg (mOp fIx (mLst (mCons (mC (.int 2)) (mCons (mC (.int 3)) (mCons (mC (.int 1)) (mCons (mC (.int 100)) mNil))))) (mCall m__law_draw (mCons (mVar 0) (mCons (mC (.int 4)) mNil)))) (gN 5))
  (sRet (mTup (mCons (mCall m__law_draw (mCons (mVar 0) (mCons (mVar 3) mNil))) (mCons (mVar 4) (mCons (mCall fTuple (mCons (mLc (miR1 (mCons (mVar 3) mNil)) (gN 6) mYes (mCall m__law_draw (mCons (mVar 0) (mCons (mVar 5) mNil))) [6]) mNil)) mNil)))))))))
theorem ok__law_machine {f : Addr} {fd : FuncData} (D : DefAt K mg "_law_machine" s__law_machine f fd) (B : Bi mg) {f__law_draw : Addr} {fd__law_draw : FuncData} (C__law_draw : Cl T P w K mg base 2 "_law_draw" ["_law_purse_here", "_law_out_of"] f__law_draw fd__law_draw 2 m__law_draw) : Cl T P w K mg base 3 "_law_machine" ["_law_purse_here", "_law_wide", "_law_most"] f fd 3 m__law_machine := by
  refine ⟨fn_ok D.F sc__law_machine rfl (fun cdv A outer s H E hr => ?_), D.m, D.F.kp, D.F.binds fun _ _ _ _ _ _ us hl => match us, hl with | [_, _, _], _ => rfl⟩
  let X := cxOf (L2.CX P w) P w K mg base ["_law_purse_here", "_law_wide", "_law_most", "_law_many", "_law_steps", "_law_few", "_law_state", "_law_value"] "_law_machine" (defScope s__law_machine) f cdv A outer s H E
  have tk : Takes X (fun cls d _ H => E cls d H) := takes_of rfl rfl rfl rfl
  have hx : Passes (L2.CX P w) X E := passes_call tk fun _ _ _ _ z => z
  have po : PassesOwn (model P w) X.A X.env X.xe := passes_of rfl
  exact (mss_cons (ms_set (i := 3) sc__law_machine.nd rfl (me_add me_int (me_call C__law_draw.ok (hr.mono (by decide)) (by rfl) C__law_draw.m C__law_draw.kp C__law_draw.b hx (ma_cons (me_var 0) (ma_cons (me_var 2) ma_nil)))))
      (mss_cons (ms_set (i := 4) sc__law_machine.nd rfl (me_tuple (by rfl) B.b_tuple (ma_cons (me_lc (own := [("_law_state", 6)]) rfl sc__law_machine.nd (mi_range1 (by rfl) B.b_range (ma_cons (me_var 3) ma_nil)) (by kernel_rfl) ⟨fun _ _ _ _ _ => (mgc_name (i := 6) sc__law_machine.nd rfl (by decide)), fun _ _ _ _ _ => mts_nil, fun _ _ _ _ _ => (me_tuple (by rfl) B.b_tuple (ma_cons (me_lc (own := [("_law_value", 7)]) rfl sc__law_machine.nd (mi_range1 (by rfl) B.b_range (ma_cons (me_var 1) ma_nil)) (by kernel_rfl) ⟨fun _ _ _ _ _ => (mgc_name (i := 7) sc__law_machine.nd rfl (by decide)), fun _ _ _ _ _ => mts_nil, fun _ _ _ _ _ => (me_call C__law_draw.ok (hr.mono (by decide)) (by rfl) C__law_draw.m C__law_draw.kp C__law_draw.b passL (ma_cons (me_var 0) (ma_cons (me_var 3) ma_nil)))⟩) ma_nil))⟩) ma_nil)))
      (mss_cons (ms_set (i := 5) sc__law_machine.nd rfl (me_ix (me_lst (ma_cons me_int (ma_cons me_int (ma_cons me_int (ma_cons me_int ma_nil))))) (me_call C__law_draw.ok (hr.mono (by decide)) (by rfl) C__law_draw.m C__law_draw.kp C__law_draw.b hx (ma_cons (me_var 0) (ma_cons me_int ma_nil)))))
      (mss_one (ms_ret (me_tup (ma_cons (me_call C__law_draw.ok (hr.mono (by decide)) (by rfl) C__law_draw.m C__law_draw.kp C__law_draw.b hx (ma_cons (me_var 0) (ma_cons (me_var 3) ma_nil))) (ma_cons (me_var 4) (ma_cons (me_tuple (by rfl) B.b_tuple (ma_cons (me_lc (own := [("_law_state", 6)]) rfl sc__law_machine.nd (mi_range1 (by rfl) B.b_range (ma_cons (me_var 3) ma_nil)) (by kernel_rfl) ⟨fun _ _ _ _ _ => (mgc_name (i := 6) sc__law_machine.nd rfl (by decide)), fun _ _ _ _ _ => mts_nil, fun _ _ _ _ _ => (me_call C__law_draw.ok (hr.mono (by decide)) (by rfl) C__law_draw.m C__law_draw.kp C__law_draw.b passL (ma_cons (me_var 0) (ma_cons (me_var 5) ma_nil)))⟩) ma_nil)) ma_nil)))))))))
/-! ### is_integer -/
theorem sc_is_integer : FnScope ["thing", "low", "high"] ["thing", "low", "high"] (defScope s_is_integer) := ⟨rfl, rfl, rfl, by decide +kernel, rfl, by decide +kernel, by decide +kernel⟩
def m_is_integer : List D → Store → Res D := mDef 3 ((sRet (mAndV (mUn (fIsi "int") (mVar 0)) (mAndV (mNotV (mUn (fIsi "bool") (mVar 0))) (mCmpC fLeI fLeI (mVar 1) (mVar 0) (mVar 2))))))
theorem ok_is_integer {f : Addr} {fd : FuncData} (D : DefAt K mg "is_integer" s_is_integer f fd) (B : Bi mg) : Cl T P w K mg base 1 "is_integer" ["thing", "low", "high"] f fd 3 m_is_integer := by
  refine ⟨fn_ok D.F sc_is_integer rfl (fun cdv A outer s H E hr => ?_), D.m, D.F.kp, D.F.binds fun _ _ _ _ _ _ us hl => match us, hl with | [_, _, _], _ => rfl⟩
  let X := cxOf (L2.CX P w) P w K mg base ["thing", "low", "high"] "is_integer" (defScope s_is_integer) f cdv A outer s H E
  have tk : Takes X (fun cls d _ H => E cls d H) := takes_of rfl rfl rfl rfl
  have hx : Passes (L2.CX P w) X E := passes_call tk fun _ _ _ _ z => z
  have po : PassesOwn (model P w) X.A X.env X.xe := passes_of rfl
  exact (mss_one (ms_ret (me_and (me_isi (by rfl) B.b_isinstance (by rfl) B.b_int (by decide +kernel) (me_var 0)) (me_and (me_not (me_isi (by rfl) B.b_isinstance (by rfl) B.b_bool (by decide +kernel) (me_var 0))) (me_one (me_chain op_le o_le op_le o_le (me_var 1) (me_var 0) (me_var 2)))))))
/-! ### require_size -/
theorem sc_require_size : FnScope ["size"] ["size"] (defScope s_require_size) := ⟨rfl, rfl, rfl, by decide +kernel, rfl, by decide +kernel, by decide +kernel⟩
def m_require_size : List D → Store → Res D := mDef 1 ((sIf (mNotT (mB (mCall m_is_integer (mCons (mVar 0) (mCons (mC (.int 1)) (mCons (mC (.int 4)) mNil)))))) sNever sNx))
theorem ok_require_size {f : Addr} {fd : FuncData} (D : DefAt K mg "require_size" s_require_size f fd) (B : Bi mg) {f_is_integer : Addr} {fd_is_integer : FuncData} (C_is_integer : Cl T P w K mg base 1 "is_integer" ["thing", "low", "high"] f_is_integer fd_is_integer 3 m_is_integer) : Cl T P w K mg base 2 "require_size" ["size"] f fd 1 m_require_size := by
  refine ⟨fn_ok D.F sc_require_size rfl (fun cdv A outer s H E hr => ?_), D.m, D.F.kp, D.F.binds fun _ _ _ _ _ _ us hl => match us, hl with | [_], _ => rfl⟩
  let X := cxOf (L2.CX P w) P w K mg base ["size"] "require_size" (defScope s_require_size) f cdv A outer s H E
  have tk : Takes X (fun cls d _ H => E cls d H) := takes_of rfl rfl rfl rfl
  have hx : Passes (L2.CX P w) X E := passes_call tk fun _ _ _ _ z => z
  have po : PassesOwn (model P w) X.A X.env X.xe := passes_of rfl
  exact (mss_one (ms_if (mt_not (mt_val (me_call C_is_integer.ok (hr.mono (by decide)) (by rfl) C_is_integer.m C_is_integer.kp C_is_integer.b hx (ma_cons (me_var 0) (ma_cons me_int (ma_cons (me_gint (by rfl) B.c_MOST_VALUES.choose_spec) ma_nil)))))) (mss_one ms_never) mss_nil))
/-! ### is_row -/
theorem sc_is_row : FnScope ["thing", "size", "value"] ["thing", "size"] (defScope s_is_row) := ⟨rfl, rfl, rfl, by decide +kernel, rfl, by decide +kernel, by decide +kernel⟩
def m_is_row : List D → Store → Res D := mDef 3 ((sRet (mAndV (mUn (fIsi "tuple") (mVar 0)) (mCall fAll (mCons (mLc (miA (mVar 0)) (gN 2) mYes (mCall m_is_integer (mCons (mVar 2) (mCons (mC (.int 0)) (mCons (mOp fSub (mVar 1) (mC (.int 1))) mNil)))) [2]) mNil)))))
theorem ok_is_row {f : Addr} {fd : FuncData} (D : DefAt K mg "is_row" s_is_row f fd) (B : Bi mg) {f_is_integer : Addr} {fd_is_integer : FuncData} (C_is_integer : Cl T P w K mg base 1 "is_integer" ["thing", "low", "high"] f_is_integer fd_is_integer 3 m_is_integer) : Cl T P w K mg base 2 "is_row" ["thing", "size"] f fd 2 m_is_row := by
  refine ⟨fn_ok D.F sc_is_row rfl (fun cdv A outer s H E hr => ?_), D.m, D.F.kp, D.F.binds fun _ _ _ _ _ _ us hl => match us, hl with | [_, _], _ => rfl⟩
  let X := cxOf (L2.CX P w) P w K mg base ["thing", "size", "value"] "is_row" (defScope s_is_row) f cdv A outer s H E
  have tk : Takes X (fun cls d _ H => E cls d H) := takes_of rfl rfl rfl rfl
  have hx : Passes (L2.CX P w) X E := passes_call tk fun _ _ _ _ z => z
  have po : PassesOwn (model P w) X.A X.env X.xe := passes_of rfl
  exact (mss_one (ms_ret (me_and (me_isi (by rfl) B.b_isinstance (by rfl) B.b_tuple (by decide +kernel) (me_var 0)) (me_one (me_all rfl (by rfl) B.b_all (ma_cons (me_lc (own := [("value", 2)]) rfl sc_is_row.nd (mi_any (me_var 0)) (by kernel_rfl) ⟨fun _ _ _ _ _ => (mgc_name (i := 2) sc_is_row.nd rfl (by decide)), fun _ _ _ _ _ => mts_nil, fun _ _ _ _ _ => (me_call C_is_integer.ok (hr.mono (by decide)) (by rfl) C_is_integer.m C_is_integer.kp C_is_integer.b passL (ma_cons (me_var 2) (ma_cons me_int (ma_cons (me_sub (me_var 1) me_int) ma_nil))))⟩) ma_nil))))))
/-! ### fault_of -/
theorem sc_fault_of : FnScope ["thing", "size", "start", "steps", "answers", "k", "row", "one"] ["thing", "size"] (defScope s_fault_of) := ⟨rfl, rfl, rfl, by decide +kernel, rfl, by decide +kernel, by decide +kernel⟩
def m_fault_of : List D → Store → Res D := mDef 8 ((sSeq (sIf (mOrT (mNotT (mB (mUn (fIsi "tuple") (mVar 0)))) (mB (mOp (fEq true) (mCall fLen (mCons (mVar 0) mNil)) (mC (.int 3))))) (sRet (mTup (mCons (mC (.str "form")) mNil))) sNx)
  (sSeq (sAsg (mVar 0) (gTp 3 (gsCons (gN 2) (gsCons (gN 3) (gsCons (gN 4) gsNil)))))
  (sSeq (sIf (mOrT (mNotT (mB (mUn (fIsi "tuple") (mVar 3)))) (mOrT (mNotT (mB (mUn (fIsi "tuple") (mVar 4)))) (mOrT (mB (mOp (fEq false) (mVar 3) (mTup mNil))) (mB (mOp (fEq false) (mVar 4) (mTup mNil)))))) (sRet (mTup (mCons (mC (.str "form")) mNil))) sNx)
  (sSeq (sFor (miE (mCons (mVar 3) mNil)) (gTp 2 (gsCons (gN 5) (gsCons (gN 6) gsNil)))
  (sIf (mOrT (mNotT (mB (mCall m_is_row (mCons (mVar 6) (mCons (mCall fLen (mCons (mVar 3) mNil)) mNil))))) (mB (mOp (fEq true) (mCall fLen (mCons (mVar 6) mNil)) (mVar 1)))) (sRet (mTup (mCons (mC (.str "steps")) (mCons (mVar 5) mNil)))) sNx))
  (sSeq (sIf (mOrT (mB (mOp (fEq true) (mCall fLen (mCons (mVar 4) mNil)) (mCall fLen (mCons (mVar 3) mNil)))) (mNotT (mB (mCall fAll (mCons (mLc (miA (mVar 4)) (gN 7) mYes (mCall m_is_integer (mCons (mVar 7) (mCons (mC (.int 0)) (mCons (mC (.int 99)) mNil)))) [7]) mNil))))) (sRet (mTup (mCons (mC (.str "answers")) mNil))) sNx)
  (sRet (mIfE (mB (mCall m_is_integer (mCons (mVar 2) (mCons (mC (.int 0)) (mCons (mOp fSub (mCall fLen (mCons (mVar 3) mNil)) (mC (.int 1))) mNil))))) (mC .non) (mTup (mCons (mC (.str "start")) mNil))))))))))
theorem ok_fault_of {f : Addr} {fd : FuncData} (D : DefAt K mg "fault_of" s_fault_of f fd) (B : Bi mg) {f_is_integer : Addr} {fd_is_integer : FuncData} (C_is_integer : Cl T P w K mg base 1 "is_integer" ["thing", "low", "high"] f_is_integer fd_is_integer 3 m_is_integer) {f_is_row : Addr} {fd_is_row : FuncData} (C_is_row : Cl T P w K mg base 2 "is_row" ["thing", "size"] f_is_row fd_is_row 2 m_is_row) : Cl T P w K mg base 3 "fault_of" ["thing", "size"] f fd 2 m_fault_of := by
  refine ⟨fn_ok D.F sc_fault_of rfl (fun cdv A outer s H E hr => ?_), D.m, D.F.kp, D.F.binds fun _ _ _ _ _ _ us hl => match us, hl with | [_, _], _ => rfl⟩
  let X := cxOf (L2.CX P w) P w K mg base ["thing", "size", "start", "steps", "answers", "k", "row", "one"] "fault_of" (defScope s_fault_of) f cdv A outer s H E
  have tk : Takes X (fun cls d _ H => E cls d H) := takes_of rfl rfl rfl rfl
  have hx : Passes (L2.CX P w) X E := passes_call tk fun _ _ _ _ z => z
  have po : PassesOwn (model P w) X.A X.env X.xe := passes_of rfl
  exact (mss_cons (ms_if (mw_pt (mw_or (mt_not (mt_val (me_isi (by rfl) B.b_isinstance (by rfl) B.b_tuple (by decide +kernel) (me_var 0)))) (mw_or1 (mt_cmp (op_neD hr.units) o_ne (me_len (by rfl) B.b_len (ma_cons (me_var 0) ma_nil)) me_int)))) (mss_one (ms_ret (me_tup (ma_cons me_str ma_nil)))) mss_nil)
      (mss_cons (ms_asg (me_var 0) (mg_tup rfl (mgs_cons (mg_name (i := 2) sc_fault_of.nd rfl) (mgs_cons (mg_name (i := 3) sc_fault_of.nd rfl) (mgs_cons (mg_name (i := 4) sc_fault_of.nd rfl) mgs_nil)))))
      (mss_cons (ms_if (mw_pt (mw_or (mt_not (mt_val (me_isi (by rfl) B.b_isinstance (by rfl) B.b_tuple (by decide +kernel) (me_var 3)))) (mw_or (mt_not (mt_val (me_isi (by rfl) B.b_isinstance (by rfl) B.b_tuple (by decide +kernel) (me_var 4)))) (mw_or (mt_cmp (op_eqD hr.units) o_eq (me_var 3) (me_tup ma_nil)) (mw_or1 (mt_cmp (op_eqD hr.units) o_eq (me_var 4) (me_tup ma_nil))))))) (mss_one (ms_ret (me_tup (ma_cons me_str ma_nil)))) mss_nil)
      (mss_cons (ms_for po rfl (mi_enum (by rfl) B.b_enumerate (ma_cons (me_var 3) ma_nil)) (mg_tup rfl (mgs_cons (mg_name (i := 5) sc_fault_of.nd rfl) (mgs_cons (mg_name (i := 6) sc_fault_of.nd rfl) mgs_nil))) (mss_one (ms_if (mw_pt (mw_or (mt_not (mt_val (me_call C_is_row.ok (hr.mono (by decide)) (by rfl) C_is_row.m C_is_row.kp C_is_row.b hx (ma_cons (me_var 6) (ma_cons (me_len (by rfl) B.b_len (ma_cons (me_var 3) ma_nil)) ma_nil))))) (mw_or1 (mt_cmp (op_neD hr.units) o_ne (me_len (by rfl) B.b_len (ma_cons (me_var 6) ma_nil)) (me_var 1))))) (mss_one (ms_ret (me_tup (ma_cons me_str (ma_cons (me_var 5) ma_nil))))) mss_nil)))
      (mss_cons (ms_if (mw_pt (mw_or (mt_cmp (op_neD hr.units) o_ne (me_len (by rfl) B.b_len (ma_cons (me_var 4) ma_nil)) (me_len (by rfl) B.b_len (ma_cons (me_var 3) ma_nil))) (mw_or1 (mt_not (mt_val (me_all rfl (by rfl) B.b_all (ma_cons (me_lc (own := [("one", 7)]) rfl sc_fault_of.nd (mi_any (me_var 4)) (by kernel_rfl) ⟨fun _ _ _ _ _ => (mgc_name (i := 7) sc_fault_of.nd rfl (by decide)), fun _ _ _ _ _ => mts_nil, fun _ _ _ _ _ => (me_call C_is_integer.ok (hr.mono (by decide)) (by rfl) C_is_integer.m C_is_integer.kp C_is_integer.b passL (ma_cons (me_var 7) (ma_cons me_int (ma_cons (me_gint (by rfl) B.c_MOST_ANSWER.choose_spec) ma_nil))))⟩) ma_nil))))))) (mss_one (ms_ret (me_tup (ma_cons me_str ma_nil)))) mss_nil)
      (mss_one (ms_ret (me_if (mt_val (me_call C_is_integer.ok (hr.mono (by decide)) (by rfl) C_is_integer.m C_is_integer.kp C_is_integer.b hx (ma_cons (me_var 2) (ma_cons me_int (ma_cons (me_sub (me_len (by rfl) B.b_len (ma_cons (me_var 3) ma_nil)) me_int) ma_nil))))) me_non (me_tup (ma_cons me_str ma_nil))))))))))
/-! ### check_machine -/
theorem sc_check_machine : FnScope ["thing", "size"] ["thing", "size"] (defScope s_check_machine) := ⟨rfl, rfl, rfl, by decide +kernel, rfl, by decide +kernel, by decide +kernel⟩
def m_check_machine : List D → Store → Res D := mDef 2 ((sSeq (sExpr (mCall m_require_size (mCons (mVar 1) mNil)))
  (sRet (mCall m_fault_of (mCons (mVar 0) (mCons (mVar 1) mNil))))))
theorem ok_check_machine {f : Addr} {fd : FuncData} (D : DefAt K mg "check_machine" s_check_machine f fd) (B : Bi mg) {f_fault_of : Addr} {fd_fault_of : FuncData} (C_fault_of : Cl T P w K mg base 3 "fault_of" ["thing", "size"] f_fault_of fd_fault_of 2 m_fault_of) {f_require_size : Addr} {fd_require_size : FuncData} (C_require_size : Cl T P w K mg base 2 "require_size" ["size"] f_require_size fd_require_size 1 m_require_size) : Cl T P w K mg base 4 "check_machine" ["thing", "size"] f fd 2 m_check_machine := by
  refine ⟨fn_ok D.F sc_check_machine rfl (fun cdv A outer s H E hr => ?_), D.m, D.F.kp, D.F.binds fun _ _ _ _ _ _ us hl => match us, hl with | [_, _], _ => rfl⟩
  let X := cxOf (L2.CX P w) P w K mg base ["thing", "size"] "check_machine" (defScope s_check_machine) f cdv A outer s H E
  have tk : Takes X (fun cls d _ H => E cls d H) := takes_of rfl rfl rfl rfl
  have hx : Passes (L2.CX P w) X E := passes_call tk fun _ _ _ _ z => z
  have po : PassesOwn (model P w) X.A X.env X.xe := passes_of rfl
  exact (mss_cons (ms_expr (me_call C_require_size.ok (hr.mono (by decide)) (by rfl) C_require_size.m C_require_size.kp C_require_size.b hx (ma_cons (me_var 1) ma_nil)))
      (mss_one (ms_ret (me_call C_fault_of.ok (hr.mono (by decide)) (by rfl) C_fault_of.m C_fault_of.kp C_fault_of.b hx (ma_cons (me_var 0) (ma_cons (me_var 1) ma_nil))))))
/-! ### _law_row -/
theorem sc__law_row : FnScope ["_law_purse_here", "_law_wide", "_law_most", "_law_place"] ["_law_purse_here", "_law_wide", "_law_most"] (defScope s__law_row) := ⟨rfl, rfl, rfl, by decide +kernel, rfl, by decide +kernel, by decide +kernel⟩
def m__law_row : List D → Store → Res D := mDef 4 ((sRet (mCall fTuple (mCons (mLc (miR1 (mCons (mCall m__law_draw (mCons (mVar 0) (mCons (mOp fAdd (mVar 2) (mC (.int 1))) mNil))) mNil)) (gN 3) mYes (mCall m__law_draw (mCons (mVar 0) (mCons (mVar 1) mNil))) [3]) mNil))))
theorem ok__law_row {f : Addr} {fd : FuncData} (D : DefAt K mg "_law_row" s__law_row f fd) (B : Bi mg) {f__law_draw : Addr} {fd__law_draw : FuncData} (C__law_draw : Cl T P w K mg base 2 "_law_draw" ["_law_purse_here", "_law_out_of"] f__law_draw fd__law_draw 2 m__law_draw) : Cl T P w K mg base 3 "_law_row" ["_law_purse_here", "_law_wide", "_law_most"] f fd 3 m__law_row := by
  refine ⟨fn_ok D.F sc__law_row rfl (fun cdv A outer s H E hr => ?_), D.m, D.F.kp, D.F.binds fun _ _ _ _ _ _ us hl => match us, hl with | [_, _, _], _ => rfl⟩
  let X := cxOf (L2.CX P w) P w K mg base ["_law_purse_here", "_law_wide", "_law_most", "_law_place"] "_law_row" (defScope s__law_row) f cdv A outer s H E
  have tk : Takes X (fun cls d _ H => E cls d H) := takes_of rfl rfl rfl rfl
  have hx : Passes (L2.CX P w) X E := passes_call tk fun _ _ _ _ z => z
  have po : PassesOwn (model P w) X.A X.env X.xe := passes_of rfl
  exact (mss_one (ms_ret (me_tuple (by rfl) B.b_tuple (ma_cons (me_lc (own := [("_law_place", 3)]) rfl sc__law_row.nd (mi_range1 (by rfl) B.b_range (ma_cons (me_call C__law_draw.ok (hr.mono (by decide)) (by rfl) C__law_draw.m C__law_draw.kp C__law_draw.b hx (ma_cons (me_var 0) (ma_cons (me_add (me_var 2) me_int) ma_nil))) ma_nil)) (by kernel_rfl) ⟨fun _ _ _ _ _ => (mgc_name (i := 3) sc__law_row.nd rfl (by decide)), fun _ _ _ _ _ => mts_nil, fun _ _ _ _ _ => (me_call C__law_draw.ok (hr.mono (by decide)) (by rfl) C__law_draw.m C__law_draw.kp C__law_draw.b passL (ma_cons (me_var 0) (ma_cons (me_var 1) ma_nil)))⟩) ma_nil))))
/-! ### _law_read -/
theorem sc__law_read : FnScope ["_law_asker", "_law_state", "_law_line", "_law_value"] ["_law_asker", "_law_state", "_law_line"] (defScope s__law_read) := ⟨rfl, rfl, rfl, by decide +kernel, rfl, by decide +kernel, by decide +kernel⟩
def m__law_read : List D → Store → Res D := mDef 4 ((sSeq (sFor (miA (mVar 2)) (gN 3)
  (sAsg (mOp fIx (mOp fIx (mOp fIx (mVar 0) (mC (.int 1))) (mVar 1)) (mVar 3)) (gN 1)))
  (sRet (mVar 1))))
theorem ok__law_read {f : Addr} {fd : FuncData} (D : DefAt K mg "_law_read" s__law_read f fd) (B : Bi mg) : Cl T P w K mg base 1 "_law_read" ["_law_asker", "_law_state", "_law_line"] f fd 3 m__law_read := by
  refine ⟨fn_ok D.F sc__law_read rfl (fun cdv A outer s H E hr => ?_), D.m, D.F.kp, D.F.binds fun _ _ _ _ _ _ us hl => match us, hl with | [_, _, _], _ => rfl⟩
  let X := cxOf (L2.CX P w) P w K mg base ["_law_asker", "_law_state", "_law_line", "_law_value"] "_law_read" (defScope s__law_read) f cdv A outer s H E
  have tk : Takes X (fun cls d _ H => E cls d H) := takes_of rfl rfl rfl rfl
  have hx : Passes (L2.CX P w) X E := passes_call tk fun _ _ _ _ z => z
  have po : PassesOwn (model P w) X.A X.env X.xe := passes_of rfl
  exact (mss_cons (ms_for po rfl (mi_any (me_var 2)) (mg_name (i := 3) sc__law_read.nd rfl) (mss_one (ms_set (i := 1) sc__law_read.nd rfl (me_ix (me_ix (me_ix (me_var 0) me_int) (me_var 1)) (me_var 3)))))
      (mss_one (ms_ret (me_var 1))))
/-! ### _law_answer -/
theorem sc__law_answer : FnScope ["_law_asker", "_law_line"] ["_law_asker", "_law_line"] (defScope s__law_answer) := ⟨rfl, rfl, rfl, by decide +kernel, rfl, by decide +kernel, by decide +kernel⟩
def m__law_answer : List D → Store → Res D := mDef 2 ((sRet (mOp fIx (mOp fIx (mVar 0) (mC (.int 2))) (mCall m__law_read (mCons (mVar 0) (mCons (mOp fIx (mVar 0) (mC (.int 0))) (mCons (mVar 1) mNil)))))))
theorem ok__law_answer {f : Addr} {fd : FuncData} (D : DefAt K mg "_law_answer" s__law_answer f fd) (B : Bi mg) {f__law_read : Addr} {fd__law_read : FuncData} (C__law_read : Cl T P w K mg base 1 "_law_read" ["_law_asker", "_law_state", "_law_line"] f__law_read fd__law_read 3 m__law_read) : Cl T P w K mg base 2 "_law_answer" ["_law_asker", "_law_line"] f fd 2 m__law_answer := by
  refine ⟨fn_ok D.F sc__law_answer rfl (fun cdv A outer s H E hr => ?_), D.m, D.F.kp, D.F.binds fun _ _ _ _ _ _ us hl => match us, hl with | [_, _], _ => rfl⟩
  let X := cxOf (L2.CX P w) P w K mg base ["_law_asker", "_law_line"] "_law_answer" (defScope s__law_answer) f cdv A outer s H E
  have tk : Takes X (fun cls d _ H => E cls d H) := takes_of rfl rfl rfl rfl
  have hx : Passes (L2.CX P w) X E := passes_call tk fun _ _ _ _ z => z
  have po : PassesOwn (model P w) X.A X.env X.xe := passes_of rfl
  exact (mss_one (ms_ret (me_ix (me_ix (me_var 0) me_int) (me_call C__law_read.ok (hr.mono (by decide)) (by rfl) C__law_read.m C__law_read.kp C__law_read.b hx (ma_cons (me_var 0) (ma_cons (me_ix (me_var 0) me_int) (ma_cons (me_var 1) ma_nil)))))))
/-! ### size_of -/
theorem sc_size_of : FnScope ["thing", "size"] ["thing"] (defScope s_size_of) := ⟨rfl, rfl, rfl, by decide +kernel, rfl, by decide +kernel, by decide +kernel⟩
def m_size_of : List D → Store → Res D := mDef 2 ((sRet (mNext (miR2 (mCons (mC (.int 1)) (mCons (mOp fAdd (mC (.int 4)) (mC (.int 1))) mNil))) (gN 1) (mB (mOp (fIs false) (mCall m_fault_of (mCons (mVar 0) (mCons (mVar 1) mNil))) (mC .non))) (mVar 1) [1])))
theorem ok_size_of {f : Addr} {fd : FuncData} (D : DefAt K mg "size_of" s_size_of f fd) (B : Bi mg) {f_fault_of : Addr} {fd_fault_of : FuncData} (C_fault_of : Cl T P w K mg base 3 "fault_of" ["thing", "size"] f_fault_of fd_fault_of 2 m_fault_of) {c Pt : Addr} (TB : GxR.TabB base mg c Pt) (hfc : fd.code = .ref c) (hPT : Pt ∈ T) : Cl T P w K mg base 7 "size_of" ["thing"] f fd 1 m_size_of := by
  refine ⟨fn_okC D.F hfc sc_size_of rfl (fun A outer s H E hr => ?_), D.m, D.F.kp, D.F.binds fun _ _ _ _ _ _ us hl => match us, hl with | [_], _ => rfl⟩
  let X := cxOf (L2.CX P w) P w K mg base ["thing", "size"] "size_of" (defScope s_size_of) f (.ref c) A outer s H E
  have tk : Takes X (fun cls d _ H => E cls d H) := takes_of rfl rfl rfl rfl
  have hx : Passes (L2.CX P w) X E := passes_call tk fun _ _ _ _ z => z
  have po : PassesOwn (model P w) X.A X.env X.xe := passes_of rfl
  exact (mss_one (ms_ret (me_next (own := [("size", 1)]) (k := 0) rfl sc_size_of.nd (hr.mono (by decide)) (by rfl) B.b_next TB rfl hPT (mi_range2 (by rfl) B.b_range (ma_cons me_int (ma_cons (me_add (me_gint (by rfl) B.c_MOST_VALUES.choose_spec) me_int) ma_nil))) (by kernel_rfl) ⟨fun _ _ _ _ _ _ => (mgc_name (i := 1) sc_size_of.nd rfl (by decide)), fun _ _ _ _ _ _ => (mts_one (mt_cmp op_isN o_isN (me_call C_fault_of.ok ((hr.mono (by decide : 3 + 3 ≤ _)).in1.in1.deeper _) (by rfl) C_fault_of.m C_fault_of.kp C_fault_of.b passL (ma_cons (me_var 0) (ma_cons (me_var 1) ma_nil))) me_non)), fun _ _ _ _ _ _ => (me_var 1)⟩)))
/-! ### require_machine -/
theorem sc_require_machine : FnScope ["machine"] ["machine"] (defScope s_require_machine) := ⟨rfl, rfl, rfl, by decide +kernel, rfl, by decide +kernel, by decide +kernel⟩
def m_require_machine : List D → Store → Res D := mDef 1 ((sIf (mB (mOp (fIs false) (mCall m_size_of (mCons (mVar 0) mNil)) (mC .non))) sNever sNx))
theorem ok_require_machine {f : Addr} {fd : FuncData} (D : DefAt K mg "require_machine" s_require_machine f fd) (B : Bi mg) {f_size_of : Addr} {fd_size_of : FuncData} (C_size_of : Cl T P w K mg base 7 "size_of" ["thing"] f_size_of fd_size_of 1 m_size_of) : Cl T P w K mg base 8 "require_machine" ["machine"] f fd 1 m_require_machine := by
  refine ⟨fn_ok D.F sc_require_machine rfl (fun cdv A outer s H E hr => ?_), D.m, D.F.kp, D.F.binds fun _ _ _ _ _ _ us hl => match us, hl with | [_], _ => rfl⟩
  let X := cxOf (L2.CX P w) P w K mg base ["machine"] "require_machine" (defScope s_require_machine) f cdv A outer s H E
  have tk : Takes X (fun cls d _ H => E cls d H) := takes_of rfl rfl rfl rfl
  have hx : Passes (L2.CX P w) X E := passes_call tk fun _ _ _ _ z => z
  have po : PassesOwn (model P w) X.A X.env X.xe := passes_of rfl
  exact (mss_one (ms_if (mt_cmp op_isN o_isN (me_call C_size_of.ok (hr.mono (by decide)) (by rfl) C_size_of.m C_size_of.kp C_size_of.b hx (ma_cons (me_var 0) ma_nil)) me_non) (mss_one ms_never) mss_nil))
/-! ### state_after -/
theorem sc_state_after : FnScope ["machine", "state", "row", "value"] ["machine", "state", "row"] (defScope s_state_after) := ⟨rfl, rfl, rfl, by decide +kernel, rfl, by decide +kernel, by decide +kernel⟩
def m_state_after : List D → Store → Res D := mDef 4 ((sSeq (sFor (miA (mVar 2)) (gN 3)
  (sAsg (mOp fIx (mOp fIx (mOp fIx (mVar 0) (mC (.int 1))) (mVar 1)) (mVar 3)) (gN 1)))
  (sRet (mVar 1))))
theorem ok_state_after {f : Addr} {fd : FuncData} (D : DefAt K mg "state_after" s_state_after f fd) (B : Bi mg) : Cl T P w K mg base 1 "state_after" ["machine", "state", "row"] f fd 3 m_state_after := by
  refine ⟨fn_ok D.F sc_state_after rfl (fun cdv A outer s H E hr => ?_), D.m, D.F.kp, D.F.binds fun _ _ _ _ _ _ us hl => match us, hl with | [_, _, _], _ => rfl⟩
  let X := cxOf (L2.CX P w) P w K mg base ["machine", "state", "row", "value"] "state_after" (defScope s_state_after) f cdv A outer s H E
  have tk : Takes X (fun cls d _ H => E cls d H) := takes_of rfl rfl rfl rfl
  have hx : Passes (L2.CX P w) X E := passes_call tk fun _ _ _ _ z => z
  have po : PassesOwn (model P w) X.A X.env X.xe := passes_of rfl
  exact (mss_cons (ms_for po rfl (mi_any (me_var 2)) (mg_name (i := 3) sc_state_after.nd rfl) (mss_one (ms_set (i := 1) sc_state_after.nd rfl (me_ix (me_ix (me_ix (me_var 0) me_int) (me_var 1)) (me_var 3)))))
      (mss_one (ms_ret (me_var 1))))
/-! ### answer_on -/
theorem sc_answer_on : FnScope ["machine", "row"] ["machine", "row"] (defScope s_answer_on) := ⟨rfl, rfl, rfl, by decide +kernel, rfl, by decide +kernel, by decide +kernel⟩
def m_answer_on : List D → Store → Res D := mDef 2 ((sRet (mOp fIx (mOp fIx (mVar 0) (mC (.int 2))) (mCall m_state_after (mCons (mVar 0) (mCons (mOp fIx (mVar 0) (mC (.int 0))) (mCons (mVar 1) mNil)))))))
theorem ok_answer_on {f : Addr} {fd : FuncData} (D : DefAt K mg "answer_on" s_answer_on f fd) (B : Bi mg) {f_state_after : Addr} {fd_state_after : FuncData} (C_state_after : Cl T P w K mg base 1 "state_after" ["machine", "state", "row"] f_state_after fd_state_after 3 m_state_after) : Cl T P w K mg base 2 "answer_on" ["machine", "row"] f fd 2 m_answer_on := by
  refine ⟨fn_ok D.F sc_answer_on rfl (fun cdv A outer s H E hr => ?_), D.m, D.F.kp, D.F.binds fun _ _ _ _ _ _ us hl => match us, hl with | [_, _], _ => rfl⟩
  let X := cxOf (L2.CX P w) P w K mg base ["machine", "row"] "answer_on" (defScope s_answer_on) f cdv A outer s H E
  have tk : Takes X (fun cls d _ H => E cls d H) := takes_of rfl rfl rfl rfl
  have hx : Passes (L2.CX P w) X E := passes_call tk fun _ _ _ _ z => z
  have po : PassesOwn (model P w) X.A X.env X.xe := passes_of rfl
  exact (mss_one (ms_ret (me_ix (me_ix (me_var 0) me_int) (me_call C_state_after.ok (hr.mono (by decide)) (by rfl) C_state_after.m C_state_after.kp C_state_after.b hx (ma_cons (me_var 0) (ma_cons (me_ix (me_var 0) me_int) (ma_cons (me_var 1) ma_nil)))))))
/-! ### answer -/
theorem sc_answer : FnScope ["machine", "row"] ["machine", "row"] (defScope s_answer) := ⟨rfl, rfl, rfl, by decide +kernel, rfl, by decide +kernel, by decide +kernel⟩
def m_answer : List D → Store → Res D := mDef 2 ((sSeq (sExpr (mCall m_require_machine (mCons (mVar 0) mNil)))
  (sSeq (sIf (mNotT (mB (mCall m_is_row (mCons (mVar 1) (mCons (mCall m_size_of (mCons (mVar 0) mNil)) mNil))))) sNever sNx)
  (sRet (mCall m_answer_on (mCons (mVar 0) (mCons (mVar 1) mNil)))))))
theorem ok_answer {f : Addr} {fd : FuncData} (D : DefAt K mg "answer" s_answer f fd) (B : Bi mg) {f_answer_on : Addr} {fd_answer_on : FuncData} (C_answer_on : Cl T P w K mg base 2 "answer_on" ["machine", "row"] f_answer_on fd_answer_on 2 m_answer_on) {f_is_row : Addr} {fd_is_row : FuncData} (C_is_row : Cl T P w K mg base 2 "is_row" ["thing", "size"] f_is_row fd_is_row 2 m_is_row) {f_require_machine : Addr} {fd_require_machine : FuncData} (C_require_machine : Cl T P w K mg base 8 "require_machine" ["machine"] f_require_machine fd_require_machine 1 m_require_machine) {f_size_of : Addr} {fd_size_of : FuncData} (C_size_of : Cl T P w K mg base 7 "size_of" ["thing"] f_size_of fd_size_of 1 m_size_of) : Cl T P w K mg base 9 "answer" ["machine", "row"] f fd 2 m_answer := by
  refine ⟨fn_ok D.F sc_answer rfl (fun cdv A outer s H E hr => ?_), D.m, D.F.kp, D.F.binds fun _ _ _ _ _ _ us hl => match us, hl with | [_, _], _ => rfl⟩
  let X := cxOf (L2.CX P w) P w K mg base ["machine", "row"] "answer" (defScope s_answer) f cdv A outer s H E
  have tk : Takes X (fun cls d _ H => E cls d H) := takes_of rfl rfl rfl rfl
  have hx : Passes (L2.CX P w) X E := passes_call tk fun _ _ _ _ z => z
  have po : PassesOwn (model P w) X.A X.env X.xe := passes_of rfl
  exact (mss_cons (ms_expr (me_call C_require_machine.ok (hr.mono (by decide)) (by rfl) C_require_machine.m C_require_machine.kp C_require_machine.b hx (ma_cons (me_var 0) ma_nil)))
      (mss_cons (ms_if (mt_not (mt_val (me_call C_is_row.ok (hr.mono (by decide)) (by rfl) C_is_row.m C_is_row.kp C_is_row.b hx (ma_cons (me_var 1) (ma_cons (me_call C_size_of.ok (hr.mono (by decide)) (by rfl) C_size_of.m C_size_of.kp C_size_of.b hx (ma_cons (me_var 0) ma_nil)) ma_nil))))) (mss_one ms_never) mss_nil)
      (mss_one (ms_ret (me_call C_answer_on.ok (hr.mono (by decide)) (by rfl) C_answer_on.m C_answer_on.kp C_answer_on.b hx (ma_cons (me_var 0) (ma_cons (me_var 1) ma_nil)))))))
/-! ### law -/
theorem sc_law : FnScope ["_law_script", "_law_at", "_law_purse_here", "_law_turn", "_law_wide", "_law_asker", "_law_line", "_law_due"] ["_law_script"] (defScope s_law) := ⟨rfl, rfl, rfl, by decide +kernel, rfl, by decide +kernel, by decide +kernel⟩
def m_law : List D → Store → Res D := mDef 8 ((sSeq (sFor (miR1 (mCons (mOp fAdd (mC (.int 1)) (mCall fMin2 (mCons (mC (.int 6)) (mCons (mCall fLen (mCons (mVar 0) mNil)) mNil)))) mNil)) (gN 1)
  (sSeq (sAsg (mCall m__law_purse (mCons (mVar 0) (mCons (mVar 1) mNil))) (gN 2))
  (sFor (miR1 (mCons (mC (.int 3)) mNil)) (gN 3)
  (sSeq (sAsg (mOp fAdd (mC (.int 1)) (mCall m__law_draw (mCons (mVar 2) (mCons (mC (.int 4)) mNil)))) (gN 4))
  (sSeq (sAsg (mCall m__law_machine (mCons (mVar 2) (mCons (mVar 4) (mCons (mC (.int 6)) mNil)))) (gN 5))
  (sSeq (sIf (mOrT (mB (mOp (fIs true) (mCall m_check_machine (mCons (mVar 5) (mCons (mVar 4) mNil))) (mC .non))) (mB (mOp (fIs true) (mCallK m_check_machine 0 2 [0, 1] mNil (mCons (mVar 5) (mCons (mVar 4) mNil))) (mC .non)))) (sRet (mC (.bl false))) sNx)
  (sFor (miA (mLst (mCons (mTup mNil) (mCons (mCall m__law_row (mCons (mVar 2) (mCons (mVar 4) (mCons (mC (.int 1)) mNil)))) (mCons (mCall m__law_row (mCons (mVar 2) (mCons (mVar 4) (mCons (mC (.int 8)) mNil)))) (mCons (mCall m__law_row (mCons (mVar 2) (mCons (mVar 4) (mCons (mC (.int 60)) mNil)))) mNil)))))) (gN 6)
  (sSeq (sAsg (mCall m__law_answer (mCons (mVar 5) (mCons (mVar 6) mNil))) (gN 7))
  (sSeq (sIf (mOrT (mB (mOp (fEq true) (mCall m_answer (mCons (mVar 5) (mCons (mVar 6) mNil))) (mVar 7))) (mB (mOp (fEq true) (mCallK m_answer 0 2 [1, 0] mNil (mCons (mVar 6) (mCons (mVar 5) mNil))) (mVar 7)))) (sRet (mC (.bl false))) sNx)
  (sIf (mB (mUn (fIsi "bool") (mCall m_answer (mCons (mVar 5) (mCons (mVar 6) mNil))))) (sRet (mC (.bl false))) sNx))))))))))
  (sRet (mOp (fEq false) (mCall m_answer (mCons (mTup (mCons (mC (.int 0)) (mCons (mTup (mCons (mTup (mCons (mC (.int 0)) mNil)) mNil)) (mCons (mTup (mCons (mC (.int 99)) mNil)) mNil)))) (mCons (mOp fMul (mTup (mCons (mC (.int 0)) mNil)) (mC (.int 60))) mNil))) (mC (.int 99))))))
theorem ok_law {f : Addr} {fd : FuncData} (D : DefAt K mg "law" s_law f fd) (B : Bi mg) {f__law_answer : Addr} {fd__law_answer : FuncData} (C__law_answer : Cl T P w K mg base 2 "_law_answer" ["_law_asker", "_law_line"] f__law_answer fd__law_answer 2 m__law_answer) {f__law_draw : Addr} {fd__law_draw : FuncData} (C__law_draw : Cl T P w K mg base 2 "_law_draw" ["_law_purse_here", "_law_out_of"] f__law_draw fd__law_draw 2 m__law_draw) {f__law_machine : Addr} {fd__law_machine : FuncData} (C__law_machine : Cl T P w K mg base 3 "_law_machine" ["_law_purse_here", "_law_wide", "_law_most"] f__law_machine fd__law_machine 3 m__law_machine) {f__law_purse : Addr} {fd__law_purse : FuncData} (C__law_purse : Cl T P w K mg base 1 "_law_purse" ["_law_script", "_law_at"] f__law_purse fd__law_purse 2 m__law_purse) {f__law_row : Addr} {fd__law_row : FuncData} (C__law_row : Cl T P w K mg base 3 "_law_row" ["_law_purse_here", "_law_wide", "_law_most"] f__law_row fd__law_row 3 m__law_row) {f_answer : Addr} {fd_answer : FuncData} (C_answer : Cl T P w K mg base 9 "answer" ["machine", "row"] f_answer fd_answer 2 m_answer) {f_check_machine : Addr} {fd_check_machine : FuncData} (C_check_machine : Cl T P w K mg base 4 "check_machine" ["thing", "size"] f_check_machine fd_check_machine 2 m_check_machine) (D_answer : DefAt K mg "answer" s_answer f_answer fd_answer) (D_check_machine : DefAt K mg "check_machine" s_check_machine f_check_machine fd_check_machine) : Cl T P w K mg base 10 "law" ["_law_script"] f fd 1 m_law := by
  refine ⟨fn_ok D.F sc_law rfl (fun cdv A outer s H E hr => ?_), D.m, D.F.kp, D.F.binds fun _ _ _ _ _ _ us hl => match us, hl with | [_], _ => rfl⟩
  let X := cxOf (L2.CX P w) P w K mg base ["_law_script", "_law_at", "_law_purse_here", "_law_turn", "_law_wide", "_law_asker", "_law_line", "_law_due"] "law" (defScope s_law) f cdv A outer s H E
  have tk : Takes X (fun cls d _ H => E cls d H) := takes_of rfl rfl rfl rfl
  have hx : Passes (L2.CX P w) X E := passes_call tk fun _ _ _ _ z => z
  have po : PassesOwn (model P w) X.A X.env X.xe := passes_of rfl
  exact (mss_cons (ms_for po rfl (mi_range1 (by rfl) B.b_range (ma_cons (me_add me_int (me_min2 rfl (by rfl) B.b_min (ma_cons me_int (ma_cons (me_len (by rfl) B.b_len (ma_cons (me_var 0) ma_nil)) ma_nil)))) ma_nil)) (mg_name (i := 1) sc_law.nd rfl) (mss_cons (ms_set (i := 2) sc_law.nd rfl (me_call C__law_purse.ok (hr.mono (by decide)) (by rfl) C__law_purse.m C__law_purse.kp C__law_purse.b hx (ma_cons (me_var 0) (ma_cons (me_var 1) ma_nil))))
      (mss_one (ms_for po rfl (mi_range1 (by rfl) B.b_range (ma_cons me_int ma_nil)) (mg_name (i := 3) sc_law.nd rfl) (mss_cons (ms_set (i := 4) sc_law.nd rfl (me_add me_int (me_call C__law_draw.ok (hr.mono (by decide)) (by rfl) C__law_draw.m C__law_draw.kp C__law_draw.b hx (ma_cons (me_var 2) (ma_cons me_int ma_nil)))))
      (mss_cons (ms_set (i := 5) sc_law.nd rfl (me_call C__law_machine.ok (hr.mono (by decide)) (by rfl) C__law_machine.m C__law_machine.kp C__law_machine.b hx (ma_cons (me_var 2) (ma_cons (me_var 4) (ma_cons me_int ma_nil)))))
      (mss_cons (ms_if (mw_pt (mw_or (mt_cmp op_notN o_notN (me_call C_check_machine.ok (hr.mono (by decide)) (by rfl) C_check_machine.m C_check_machine.kp C_check_machine.b hx (ma_cons (me_var 5) (ma_cons (me_var 4) ma_nil))) me_non) (mw_or1 (mt_cmp op_notN o_notN (me_callK0 C_check_machine.ok (hr.mono (by decide)) (by rfl) C_check_machine.m C_check_machine.kp (kto_of D_check_machine.F (ix := [0, 1]) (n1 := 0) (n2 := 2) (fun _ _ _ _ _ _ us ws h1 h2 => match us, ws, h1, h2 with | [], [_, _], _, _ => rfl)) (by decide) hx (mk_cons (me_var 5) (mk_cons (me_var 4) mk_nil)) (fun us ws h1 h2 => match us, ws, h1, h2 with | [], [_, _], _, _ => rfl)) me_non)))) (mss_one (ms_ret me_bl)) mss_nil)
      (mss_one (ms_for po rfl (mi_any (me_lst (ma_cons (me_tup ma_nil) (ma_cons (me_call C__law_row.ok (hr.mono (by decide)) (by rfl) C__law_row.m C__law_row.kp C__law_row.b hx (ma_cons (me_var 2) (ma_cons (me_var 4) (ma_cons me_int ma_nil)))) (ma_cons (me_call C__law_row.ok (hr.mono (by decide)) (by rfl) C__law_row.m C__law_row.kp C__law_row.b hx (ma_cons (me_var 2) (ma_cons (me_var 4) (ma_cons me_int ma_nil)))) (ma_cons (me_call C__law_row.ok (hr.mono (by decide)) (by rfl) C__law_row.m C__law_row.kp C__law_row.b hx (ma_cons (me_var 2) (ma_cons (me_var 4) (ma_cons me_int ma_nil)))) ma_nil)))))) (mg_name (i := 6) sc_law.nd rfl) (mss_cons (ms_set (i := 7) sc_law.nd rfl (me_call C__law_answer.ok (hr.mono (by decide)) (by rfl) C__law_answer.m C__law_answer.kp C__law_answer.b hx (ma_cons (me_var 5) (ma_cons (me_var 6) ma_nil))))
      (mss_cons (ms_if (mw_pt (mw_or (mt_cmp (op_neD hr.units) o_ne (me_call C_answer.ok (hr.mono (by decide)) (by rfl) C_answer.m C_answer.kp C_answer.b hx (ma_cons (me_var 5) (ma_cons (me_var 6) ma_nil))) (me_var 7)) (mw_or1 (mt_cmp (op_neD hr.units) o_ne (me_callK0 C_answer.ok (hr.mono (by decide)) (by rfl) C_answer.m C_answer.kp (kto_of D_answer.F (ix := [1, 0]) (n1 := 0) (n2 := 2) (fun _ _ _ _ _ _ us ws h1 h2 => match us, ws, h1, h2 with | [], [_, _], _, _ => rfl)) (by decide) hx (mk_cons (me_var 6) (mk_cons (me_var 5) mk_nil)) (fun us ws h1 h2 => match us, ws, h1, h2 with | [], [_, _], _, _ => rfl)) (me_var 7))))) (mss_one (ms_ret me_bl)) mss_nil)
      (mss_one (ms_if (mt_val (me_isi (by rfl) B.b_isinstance (by rfl) B.b_bool (by decide +kernel) (me_call C_answer.ok (hr.mono (by decide)) (by rfl) C_answer.m C_answer.kp C_answer.b hx (ma_cons (me_var 5) (ma_cons (me_var 6) ma_nil))))) (mss_one (ms_ret me_bl)) mss_nil)))))))))))))
      (mss_one (ms_ret (me_cmp (op_eqD hr.units) o_eq (me_call C_answer.ok (hr.mono (by decide)) (by rfl) C_answer.m C_answer.kp C_answer.b hx (ma_cons (me_tup (ma_cons me_int (ma_cons (me_tup (ma_cons (me_tup (ma_cons me_int ma_nil)) ma_nil)) (ma_cons (me_tup (ma_cons me_int ma_nil)) ma_nil)))) (ma_cons (me_mulA (me_tup (ma_cons me_int ma_nil)) me_int) ma_nil))) me_int))))
end
/-! ### what the top has written -/
theorem law_mk {l : PySem.W.OpenLaw} {w : World} {q : Program} {K : PySem.W.Frag} {h : Heap} {mg : Str → Option Value} {fa : Addr} {f__law_purse : Addr} {od__law_purse an__law_purse : Option Addr} {sl__law_purse : Array (Option Value)} {oc__law_purse kV__law_purse dc__law_purse pm__law_purse ct__law_purse cd__law_purse : Value} {f__law_mixed : Addr} {od__law_mixed an__law_mixed : Option Addr} {sl__law_mixed : Array (Option Value)} {oc__law_mixed kV__law_mixed dc__law_mixed pm__law_mixed ct__law_mixed cd__law_mixed : Value} {f__law_draw : Addr} {od__law_draw an__law_draw : Option Addr} {sl__law_draw : Array (Option Value)} {oc__law_draw kV__law_draw dc__law_draw pm__law_draw ct__law_draw cd__law_draw : Value} {f__law_machine : Addr} {od__law_machine an__law_machine : Option Addr} {sl__law_machine : Array (Option Value)} {oc__law_machine kV__law_machine dc__law_machine pm__law_machine ct__law_machine cd__law_machine : Value} {f_is_integer : Addr} {od_is_integer an_is_integer : Option Addr} {sl_is_integer : Array (Option Value)} {oc_is_integer kV_is_integer dc_is_integer pm_is_integer ct_is_integer cd_is_integer : Value} {f_require_size : Addr} {od_require_size an_require_size : Option Addr} {sl_require_size : Array (Option Value)} {oc_require_size kV_require_size dc_require_size pm_require_size ct_require_size cd_require_size : Value} {f_is_row : Addr} {od_is_row an_is_row : Option Addr} {sl_is_row : Array (Option Value)} {oc_is_row kV_is_row dc_is_row pm_is_row ct_is_row cd_is_row : Value} {f_fault_of : Addr} {od_fault_of an_fault_of : Option Addr} {sl_fault_of : Array (Option Value)} {oc_fault_of kV_fault_of dc_fault_of pm_fault_of ct_fault_of cd_fault_of : Value} {f_check_machine : Addr} {od_check_machine an_check_machine : Option Addr} {sl_check_machine : Array (Option Value)} {oc_check_machine kV_check_machine dc_check_machine pm_check_machine ct_check_machine cd_check_machine : Value} {f__law_row : Addr} {od__law_row an__law_row : Option Addr} {sl__law_row : Array (Option Value)} {oc__law_row kV__law_row dc__law_row pm__law_row ct__law_row cd__law_row : Value} {f__law_read : Addr} {od__law_read an__law_read : Option Addr} {sl__law_read : Array (Option Value)} {oc__law_read kV__law_read dc__law_read pm__law_read ct__law_read cd__law_read : Value} {f__law_answer : Addr} {od__law_answer an__law_answer : Option Addr} {sl__law_answer : Array (Option Value)} {oc__law_answer kV__law_answer dc__law_answer pm__law_answer ct__law_answer cd__law_answer : Value} {f_size_of : Addr} {od_size_of an_size_of : Option Addr} {sl_size_of : Array (Option Value)} {oc_size_of kV_size_of dc_size_of pm_size_of ct_size_of : Value} {cc_size_of P_size_of : Addr} {e_size_of : Value} {dd_size_of : Option Addr} {vs_size_of : Array Value} {sm_size_of : Array (Option Value)} {f_require_machine : Addr} {od_require_machine an_require_machine : Option Addr} {sl_require_machine : Array (Option Value)} {oc_require_machine kV_require_machine dc_require_machine pm_require_machine ct_require_machine cd_require_machine : Value} {f_state_after : Addr} {od_state_after an_state_after : Option Addr} {sl_state_after : Array (Option Value)} {oc_state_after kV_state_after dc_state_after pm_state_after ct_state_after cd_state_after : Value} {f_answer_on : Addr} {od_answer_on an_answer_on : Option Addr} {sl_answer_on : Array (Option Value)} {oc_answer_on kV_answer_on dc_answer_on pm_answer_on ct_answer_on cd_answer_on : Value} {f_answer : Addr} {od_answer an_answer : Option Addr} {sl_answer : Array (Option Value)} {oc_answer kV_answer dc_answer pm_answer ct_answer cd_answer : Value} {f_law : Addr} {od_law an_law : Option Addr} {sl_law : Array (Option Value)} {oc_law kV_law dc_law pm_law ct_law cd_law : Value} {t_MOST_ANSWER : Tok} {t_MOST_VALUES : Tok} (X : K.In h) (G : h.Ns mainGlobals mg) (N : Names q K mg h) (hfa : mg "law" = some (.ref fa))
    (a__law_purse : PySem.W.nsIn K mainGlobals "_law_purse" = some (some (.ref f__law_purse)))
    (l__law_purse : K.lookup f__law_purse = some ⟨oc__law_purse, od__law_purse, .func (PySem.W.fnOf "_law_purse" "_law_purse" (defArgs s__law_purse) (defBody s__law_purse) (defScope s__law_purse) .none kV__law_purse dc__law_purse pm__law_purse an__law_purse cd__law_purse ct__law_purse), sl__law_purse⟩)
    (c__law_purse : PySem.W.codeIn K cd__law_purse "_law_purse" = true)
    (k__law_purse : PySem.W.keepIn K (.ref f__law_purse) = true)
    (a__law_mixed : PySem.W.nsIn K mainGlobals "_law_mixed" = some (some (.ref f__law_mixed)))
    (l__law_mixed : K.lookup f__law_mixed = some ⟨oc__law_mixed, od__law_mixed, .func (PySem.W.fnOf "_law_mixed" "_law_mixed" (defArgs s__law_mixed) (defBody s__law_mixed) (defScope s__law_mixed) .none kV__law_mixed dc__law_mixed pm__law_mixed an__law_mixed cd__law_mixed ct__law_mixed), sl__law_mixed⟩)
    (c__law_mixed : PySem.W.codeIn K cd__law_mixed "_law_mixed" = true)
    (k__law_mixed : PySem.W.keepIn K (.ref f__law_mixed) = true)
    (a__law_draw : PySem.W.nsIn K mainGlobals "_law_draw" = some (some (.ref f__law_draw)))
    (l__law_draw : K.lookup f__law_draw = some ⟨oc__law_draw, od__law_draw, .func (PySem.W.fnOf "_law_draw" "_law_draw" (defArgs s__law_draw) (defBody s__law_draw) (defScope s__law_draw) .none kV__law_draw dc__law_draw pm__law_draw an__law_draw cd__law_draw ct__law_draw), sl__law_draw⟩)
    (c__law_draw : PySem.W.codeIn K cd__law_draw "_law_draw" = true)
    (k__law_draw : PySem.W.keepIn K (.ref f__law_draw) = true)
    (a__law_machine : PySem.W.nsIn K mainGlobals "_law_machine" = some (some (.ref f__law_machine)))
    (l__law_machine : K.lookup f__law_machine = some ⟨oc__law_machine, od__law_machine, .func (PySem.W.fnOf "_law_machine" "_law_machine" (defArgs s__law_machine) (defBody s__law_machine) (defScope s__law_machine) .none kV__law_machine dc__law_machine pm__law_machine an__law_machine cd__law_machine ct__law_machine), sl__law_machine⟩)
    (c__law_machine : PySem.W.codeIn K cd__law_machine "_law_machine" = true)
    (k__law_machine : PySem.W.keepIn K (.ref f__law_machine) = true)
    (a_is_integer : PySem.W.nsIn K mainGlobals "is_integer" = some (some (.ref f_is_integer)))
    (l_is_integer : K.lookup f_is_integer = some ⟨oc_is_integer, od_is_integer, .func (PySem.W.fnOf "is_integer" "is_integer" (defArgs s_is_integer) (defBody s_is_integer) (defScope s_is_integer) .none kV_is_integer dc_is_integer pm_is_integer an_is_integer cd_is_integer ct_is_integer), sl_is_integer⟩)
    (c_is_integer : PySem.W.codeIn K cd_is_integer "is_integer" = true)
    (k_is_integer : PySem.W.keepIn K (.ref f_is_integer) = true)
    (a_require_size : PySem.W.nsIn K mainGlobals "require_size" = some (some (.ref f_require_size)))
    (l_require_size : K.lookup f_require_size = some ⟨oc_require_size, od_require_size, .func (PySem.W.fnOf "require_size" "require_size" (defArgs s_require_size) (defBody s_require_size) (defScope s_require_size) .none kV_require_size dc_require_size pm_require_size an_require_size cd_require_size ct_require_size), sl_require_size⟩)
    (c_require_size : PySem.W.codeIn K cd_require_size "require_size" = true)
    (k_require_size : PySem.W.keepIn K (.ref f_require_size) = true)
    (a_is_row : PySem.W.nsIn K mainGlobals "is_row" = some (some (.ref f_is_row)))
    (l_is_row : K.lookup f_is_row = some ⟨oc_is_row, od_is_row, .func (PySem.W.fnOf "is_row" "is_row" (defArgs s_is_row) (defBody s_is_row) (defScope s_is_row) .none kV_is_row dc_is_row pm_is_row an_is_row cd_is_row ct_is_row), sl_is_row⟩)
    (c_is_row : PySem.W.codeIn K cd_is_row "is_row" = true)
    (k_is_row : PySem.W.keepIn K (.ref f_is_row) = true)
    (a_fault_of : PySem.W.nsIn K mainGlobals "fault_of" = some (some (.ref f_fault_of)))
    (l_fault_of : K.lookup f_fault_of = some ⟨oc_fault_of, od_fault_of, .func (PySem.W.fnOf "fault_of" "fault_of" (defArgs s_fault_of) (defBody s_fault_of) (defScope s_fault_of) .none kV_fault_of dc_fault_of pm_fault_of an_fault_of cd_fault_of ct_fault_of), sl_fault_of⟩)
    (c_fault_of : PySem.W.codeIn K cd_fault_of "fault_of" = true)
    (k_fault_of : PySem.W.keepIn K (.ref f_fault_of) = true)
    (a_check_machine : PySem.W.nsIn K mainGlobals "check_machine" = some (some (.ref f_check_machine)))
    (l_check_machine : K.lookup f_check_machine = some ⟨oc_check_machine, od_check_machine, .func (PySem.W.fnOf "check_machine" "check_machine" (defArgs s_check_machine) (defBody s_check_machine) (defScope s_check_machine) .none kV_check_machine dc_check_machine pm_check_machine an_check_machine cd_check_machine ct_check_machine), sl_check_machine⟩)
    (c_check_machine : PySem.W.codeIn K cd_check_machine "check_machine" = true)
    (k_check_machine : PySem.W.keepIn K (.ref f_check_machine) = true)
    (a__law_row : PySem.W.nsIn K mainGlobals "_law_row" = some (some (.ref f__law_row)))
    (l__law_row : K.lookup f__law_row = some ⟨oc__law_row, od__law_row, .func (PySem.W.fnOf "_law_row" "_law_row" (defArgs s__law_row) (defBody s__law_row) (defScope s__law_row) .none kV__law_row dc__law_row pm__law_row an__law_row cd__law_row ct__law_row), sl__law_row⟩)
    (c__law_row : PySem.W.codeIn K cd__law_row "_law_row" = true)
    (k__law_row : PySem.W.keepIn K (.ref f__law_row) = true)
    (a__law_read : PySem.W.nsIn K mainGlobals "_law_read" = some (some (.ref f__law_read)))
    (l__law_read : K.lookup f__law_read = some ⟨oc__law_read, od__law_read, .func (PySem.W.fnOf "_law_read" "_law_read" (defArgs s__law_read) (defBody s__law_read) (defScope s__law_read) .none kV__law_read dc__law_read pm__law_read an__law_read cd__law_read ct__law_read), sl__law_read⟩)
    (c__law_read : PySem.W.codeIn K cd__law_read "_law_read" = true)
    (k__law_read : PySem.W.keepIn K (.ref f__law_read) = true)
    (a__law_answer : PySem.W.nsIn K mainGlobals "_law_answer" = some (some (.ref f__law_answer)))
    (l__law_answer : K.lookup f__law_answer = some ⟨oc__law_answer, od__law_answer, .func (PySem.W.fnOf "_law_answer" "_law_answer" (defArgs s__law_answer) (defBody s__law_answer) (defScope s__law_answer) .none kV__law_answer dc__law_answer pm__law_answer an__law_answer cd__law_answer ct__law_answer), sl__law_answer⟩)
    (c__law_answer : PySem.W.codeIn K cd__law_answer "_law_answer" = true)
    (k__law_answer : PySem.W.keepIn K (.ref f__law_answer) = true)
    (a_size_of : PySem.W.nsIn K mainGlobals "size_of" = some (some (.ref f_size_of)))
    (l_size_of : K.lookup f_size_of = some ⟨oc_size_of, od_size_of, .func (PySem.W.fnOf "size_of" "size_of" (defArgs s_size_of) (defBody s_size_of) (defScope s_size_of) .none kV_size_of dc_size_of pm_size_of an_size_of (.ref cc_size_of) ct_size_of), sl_size_of⟩)
    (c_size_of : PySem.W.codeIn K (.ref cc_size_of) "size_of" = true)
    (k_size_of : PySem.W.keepIn K (.ref f_size_of) = true)
    (g_size_of : K.lookup cc_size_of = some ⟨e_size_of, dd_size_of, .fields vs_size_of, sm_size_of⟩)
    (v_size_of : vs_size_of[11]? = some (.ref P_size_of))
    (h_size_of : PySem.W.codeHdIn K cc_size_of P_size_of = true)
    (n_size_of : K.lookup P_size_of = none)
    (q_size_of : ((recsOf q).any fun e => e.name == ("size_of" : Str)) = true)
    (a_require_machine : PySem.W.nsIn K mainGlobals "require_machine" = some (some (.ref f_require_machine)))
    (l_require_machine : K.lookup f_require_machine = some ⟨oc_require_machine, od_require_machine, .func (PySem.W.fnOf "require_machine" "require_machine" (defArgs s_require_machine) (defBody s_require_machine) (defScope s_require_machine) .none kV_require_machine dc_require_machine pm_require_machine an_require_machine cd_require_machine ct_require_machine), sl_require_machine⟩)
    (c_require_machine : PySem.W.codeIn K cd_require_machine "require_machine" = true)
    (k_require_machine : PySem.W.keepIn K (.ref f_require_machine) = true)
    (a_state_after : PySem.W.nsIn K mainGlobals "state_after" = some (some (.ref f_state_after)))
    (l_state_after : K.lookup f_state_after = some ⟨oc_state_after, od_state_after, .func (PySem.W.fnOf "state_after" "state_after" (defArgs s_state_after) (defBody s_state_after) (defScope s_state_after) .none kV_state_after dc_state_after pm_state_after an_state_after cd_state_after ct_state_after), sl_state_after⟩)
    (c_state_after : PySem.W.codeIn K cd_state_after "state_after" = true)
    (k_state_after : PySem.W.keepIn K (.ref f_state_after) = true)
    (a_answer_on : PySem.W.nsIn K mainGlobals "answer_on" = some (some (.ref f_answer_on)))
    (l_answer_on : K.lookup f_answer_on = some ⟨oc_answer_on, od_answer_on, .func (PySem.W.fnOf "answer_on" "answer_on" (defArgs s_answer_on) (defBody s_answer_on) (defScope s_answer_on) .none kV_answer_on dc_answer_on pm_answer_on an_answer_on cd_answer_on ct_answer_on), sl_answer_on⟩)
    (c_answer_on : PySem.W.codeIn K cd_answer_on "answer_on" = true)
    (k_answer_on : PySem.W.keepIn K (.ref f_answer_on) = true)
    (a_answer : PySem.W.nsIn K mainGlobals "answer" = some (some (.ref f_answer)))
    (l_answer : K.lookup f_answer = some ⟨oc_answer, od_answer, .func (PySem.W.fnOf "answer" "answer" (defArgs s_answer) (defBody s_answer) (defScope s_answer) .none kV_answer dc_answer pm_answer an_answer cd_answer ct_answer), sl_answer⟩)
    (c_answer : PySem.W.codeIn K cd_answer "answer" = true)
    (k_answer : PySem.W.keepIn K (.ref f_answer) = true)
    (a_law : PySem.W.nsIn K mainGlobals "law" = some (some (.ref f_law)))
    (l_law : K.lookup f_law = some ⟨oc_law, od_law, .func (PySem.W.fnOf "law" "law" (defArgs s_law) (defBody s_law) (defScope s_law) .none kV_law dc_law pm_law an_law cd_law ct_law), sl_law⟩)
    (c_law : PySem.W.codeIn K cd_law "law" = true)
    (k_law : PySem.W.keepIn K (.ref f_law) = true)
    (z_all : PySem.W.nsIn K mainGlobals "all" = some none)
    (z_bool : PySem.W.nsIn K mainGlobals "bool" = some none)
    (z_enumerate : PySem.W.nsIn K mainGlobals "enumerate" = some none)
    (z_int : PySem.W.nsIn K mainGlobals "int" = some none)
    (z_isinstance : PySem.W.nsIn K mainGlobals "isinstance" = some none)
    (z_len : PySem.W.nsIn K mainGlobals "len" = some none)
    (z_max : PySem.W.nsIn K mainGlobals "max" = some none)
    (z_min : PySem.W.nsIn K mainGlobals "min" = some none)
    (z_next : PySem.W.nsIn K mainGlobals "next" = some none)
    (z_range : PySem.W.nsIn K mainGlobals "range" = some none)
    (z_tuple : PySem.W.nsIn K mainGlobals "tuple" = some none)
    (y_MOST_ANSWER : PySem.W.nsIn K mainGlobals "MOST_ANSWER" = some (some (.int 99 t_MOST_ANSWER)))
    (y_MOST_VALUES : PySem.W.nsIn K mainGlobals "MOST_VALUES" = some (some (.int 4 t_MOST_VALUES)))
    : LawM l w K 10 "_law_script" mg fa h m_law := by
  cases hfa.symm.trans (PySem.W.mg_of X G a_law)
  have D__law_purse : DefAt K mg "_law_purse" s__law_purse _ _ := ⟨fun_mk l__law_purse c__law_purse k__law_purse, PySem.W.mg_of X G a__law_purse⟩
  have D__law_mixed : DefAt K mg "_law_mixed" s__law_mixed _ _ := ⟨fun_mk l__law_mixed c__law_mixed k__law_mixed, PySem.W.mg_of X G a__law_mixed⟩
  have D__law_draw : DefAt K mg "_law_draw" s__law_draw _ _ := ⟨fun_mk l__law_draw c__law_draw k__law_draw, PySem.W.mg_of X G a__law_draw⟩
  have D__law_machine : DefAt K mg "_law_machine" s__law_machine _ _ := ⟨fun_mk l__law_machine c__law_machine k__law_machine, PySem.W.mg_of X G a__law_machine⟩
  have D_is_integer : DefAt K mg "is_integer" s_is_integer _ _ := ⟨fun_mk l_is_integer c_is_integer k_is_integer, PySem.W.mg_of X G a_is_integer⟩
  have D_require_size : DefAt K mg "require_size" s_require_size _ _ := ⟨fun_mk l_require_size c_require_size k_require_size, PySem.W.mg_of X G a_require_size⟩
  have D_is_row : DefAt K mg "is_row" s_is_row _ _ := ⟨fun_mk l_is_row c_is_row k_is_row, PySem.W.mg_of X G a_is_row⟩
  have D_fault_of : DefAt K mg "fault_of" s_fault_of _ _ := ⟨fun_mk l_fault_of c_fault_of k_fault_of, PySem.W.mg_of X G a_fault_of⟩
  have D_check_machine : DefAt K mg "check_machine" s_check_machine _ _ := ⟨fun_mk l_check_machine c_check_machine k_check_machine, PySem.W.mg_of X G a_check_machine⟩
  have D__law_row : DefAt K mg "_law_row" s__law_row _ _ := ⟨fun_mk l__law_row c__law_row k__law_row, PySem.W.mg_of X G a__law_row⟩
  have D__law_read : DefAt K mg "_law_read" s__law_read _ _ := ⟨fun_mk l__law_read c__law_read k__law_read, PySem.W.mg_of X G a__law_read⟩
  have D__law_answer : DefAt K mg "_law_answer" s__law_answer _ _ := ⟨fun_mk l__law_answer c__law_answer k__law_answer, PySem.W.mg_of X G a__law_answer⟩
  have D_size_of : DefAt K mg "size_of" s_size_of _ _ := ⟨fun_mk l_size_of c_size_of k_size_of, PySem.W.mg_of X G a_size_of⟩
  have D_require_machine : DefAt K mg "require_machine" s_require_machine _ _ := ⟨fun_mk l_require_machine c_require_machine k_require_machine, PySem.W.mg_of X G a_require_machine⟩
  have D_state_after : DefAt K mg "state_after" s_state_after _ _ := ⟨fun_mk l_state_after c_state_after k_state_after, PySem.W.mg_of X G a_state_after⟩
  have D_answer_on : DefAt K mg "answer_on" s_answer_on _ _ := ⟨fun_mk l_answer_on c_answer_on k_answer_on, PySem.W.mg_of X G a_answer_on⟩
  have D_answer : DefAt K mg "answer" s_answer _ _ := ⟨fun_mk l_answer c_answer k_answer, PySem.W.mg_of X G a_answer⟩
  have D_law : DefAt K mg "law" s_law _ _ := ⟨fun_mk l_law c_law k_law, PySem.W.mg_of X G a_law⟩
  refine ⟨PySem.W.fnOf "law" "law" (defArgs s_law) (defBody s_law) (defScope s_law) .none kV_law dc_law pm_law an_law cd_law ct_law, [(cc_size_of, P_size_of)], (List.forall_mem_cons.mpr ⟨⟨N "size_of" _ q_size_of D_size_of.m _ _ _ _ _ _ _ _ l_size_of rfl rfl g_size_of v_size_of, n_size_of, PySem.W.codeHd_of_K X h_size_of⟩, (fun _ z => (List.not_mem_nil z).elim)⟩), fun s v => .of_eq rfl, fun base KB GB TB => ?_⟩
  have B : Bi mg := ⟨PySem.W.mg_none_of X G z_all, PySem.W.mg_none_of X G z_bool, PySem.W.mg_none_of X G z_enumerate, PySem.W.mg_none_of X G z_int, PySem.W.mg_none_of X G z_isinstance, PySem.W.mg_none_of X G z_len, PySem.W.mg_none_of X G z_max, PySem.W.mg_none_of X G z_min, PySem.W.mg_none_of X G z_next, PySem.W.mg_none_of X G z_range, PySem.W.mg_none_of X G z_tuple, ⟨_, PySem.W.mg_of X G y_MOST_ANSWER⟩, ⟨_, PySem.W.mg_of X G y_MOST_VALUES⟩⟩
  have C__law_purse := ok__law_purse (T := ([(cc_size_of, P_size_of)] : List (Addr × Addr)).map (·.2)) (P := l.prog) (w := w) (base := base) D__law_purse B
  have C__law_mixed := ok__law_mixed (T := ([(cc_size_of, P_size_of)] : List (Addr × Addr)).map (·.2)) (P := l.prog) (w := w) (base := base) D__law_mixed B
  have C__law_draw := ok__law_draw (T := ([(cc_size_of, P_size_of)] : List (Addr × Addr)).map (·.2)) (P := l.prog) (w := w) (base := base) D__law_draw B C__law_mixed
  have C__law_machine := ok__law_machine (T := ([(cc_size_of, P_size_of)] : List (Addr × Addr)).map (·.2)) (P := l.prog) (w := w) (base := base) D__law_machine B C__law_draw
  have C_is_integer := ok_is_integer (T := ([(cc_size_of, P_size_of)] : List (Addr × Addr)).map (·.2)) (P := l.prog) (w := w) (base := base) D_is_integer B
  have C_require_size := ok_require_size (T := ([(cc_size_of, P_size_of)] : List (Addr × Addr)).map (·.2)) (P := l.prog) (w := w) (base := base) D_require_size B C_is_integer
  have C_is_row := ok_is_row (T := ([(cc_size_of, P_size_of)] : List (Addr × Addr)).map (·.2)) (P := l.prog) (w := w) (base := base) D_is_row B C_is_integer
  have C_fault_of := ok_fault_of (T := ([(cc_size_of, P_size_of)] : List (Addr × Addr)).map (·.2)) (P := l.prog) (w := w) (base := base) D_fault_of B C_is_integer C_is_row
  have C_check_machine := ok_check_machine (T := ([(cc_size_of, P_size_of)] : List (Addr × Addr)).map (·.2)) (P := l.prog) (w := w) (base := base) D_check_machine B C_fault_of C_require_size
  have C__law_row := ok__law_row (T := ([(cc_size_of, P_size_of)] : List (Addr × Addr)).map (·.2)) (P := l.prog) (w := w) (base := base) D__law_row B C__law_draw
  have C__law_read := ok__law_read (T := ([(cc_size_of, P_size_of)] : List (Addr × Addr)).map (·.2)) (P := l.prog) (w := w) (base := base) D__law_read B
  have C__law_answer := ok__law_answer (T := ([(cc_size_of, P_size_of)] : List (Addr × Addr)).map (·.2)) (P := l.prog) (w := w) (base := base) D__law_answer B C__law_read
  have C_size_of := ok_size_of (T := ([(cc_size_of, P_size_of)] : List (Addr × Addr)).map (·.2)) (P := l.prog) (w := w) (base := base) D_size_of B C_fault_of (TB (cc_size_of, P_size_of) (by simp)) rfl (by simp)
  have C_require_machine := ok_require_machine (T := ([(cc_size_of, P_size_of)] : List (Addr × Addr)).map (·.2)) (P := l.prog) (w := w) (base := base) D_require_machine B C_size_of
  have C_state_after := ok_state_after (T := ([(cc_size_of, P_size_of)] : List (Addr × Addr)).map (·.2)) (P := l.prog) (w := w) (base := base) D_state_after B
  have C_answer_on := ok_answer_on (T := ([(cc_size_of, P_size_of)] : List (Addr × Addr)).map (·.2)) (P := l.prog) (w := w) (base := base) D_answer_on B C_state_after
  have C_answer := ok_answer (T := ([(cc_size_of, P_size_of)] : List (Addr × Addr)).map (·.2)) (P := l.prog) (w := w) (base := base) D_answer B C_answer_on C_is_row C_require_machine C_size_of
  have C_law := ok_law (T := ([(cc_size_of, P_size_of)] : List (Addr × Addr)).map (·.2)) (P := l.prog) (w := w) (base := base) D_law B C__law_answer C__law_draw C__law_machine C__law_purse C__law_row C_answer C_check_machine D_answer D_check_machine
  exact C_law.ok
end MM

/-! What the mirrors of k01 come to. -/
namespace MM
open PySem L2
local macro_rules | `(tactic| simp_arith [$ts,*]) => `(tactic| simp only [W_ok, W_var, k_var, W_c, W_op, k_op1, k_op2, W_un, k_un, W_nil, W_cons, k_cons1, k_cons2, W_call, k_call, W_tup, k_tup, W_lst, k_lst, W_lstS, k_lstS, W_seq, k_seq_nx, k_seq_rt, k_seq_bk, k_seq_ct, W_expr, k_expr, W_ret, k_ret, W_retN, W_nx, W_bk, W_ct, W_if, k_if_t, k_if_f, W_ifE, k_ifE_t, k_ifE_f, W_b, k_b, W_andT, k_andT_t, k_andT_f, W_orT, k_orT_t, k_orT_f, W_notT, k_notT, W_yes, W_andV, k_andV_t, k_andV_f, W_orV, k_orV_t, k_orV_f, W_notV, k_notV, W_cmpC, k_cmp1, k_cmp2, k_cmp3_t, k_cmp3_f, W_asg, k_asg, k_asg2, W_gN, W_gsNil, W_gsCons, k_gs, W_gTp, W_gIx, k_ix1, W_for, W_lc, W_lcS, W_next, W_miA, k_it_tup, k_it_lst, k_it_frz, W_def, k_def_rt, k_def_nx, W_callK, k_CK1, k_CK2, perm, List.filterMap_cons, List.filterMap_nil, and_self, W_f2I, W_addI, W_int, W_2L, W_is, W_lenT, W_lenL, W_lenF, W_tupleT, W_tupleL, W_tupleF, k_body, k_loop_nx, k_loop_ct, k_loop_bk, k_loop_rt, k_lc1, k_lc2_t, k_lc2_f, List.map_cons, List.map_nil, List.length_cons, List.length_nil, List.reduceReplicate, Nat.reduceSub, Nat.reduceAdd, Int.reduceAdd, Int.reduceSub, Int.reduceMul, Int.reduceNeg, Int.reduceLT, Int.reduceLE, Int.reduceEq, Int.cast_ofNat_Int, Int.natCast_zero, Int.natCast_one, eq_self, decide_true, decide_false, Bool.and_true, Bool.true_and, Bool.false_and, Bool.and_false, Nat.zero_add, List.replicate_zero, List.replicate_succ, List.cons_append, List.nil_append, List.append_nil, List.getElem?_cons_zero, List.getElem?_cons_succ, List.set_cons_zero, List.set_cons_succ, wipeD, Bool.not_true, Bool.not_false, if_true, if_false, reduceIte, isNon, Bool.false_eq_true, k_el, W_E, k_en_tup, k_en_lst, isi_int_i, isi_int_b, isi_int_n, isi_int_s, isi_int_t, isi_int_l, isi_bool_i, isi_bool_b, isi_bool_n, isi_bool_s, isi_bool_t, isi_bool_l, isi_tuple_i, isi_tuple_b, isi_tuple_n, isi_tuple_s, isi_tuple_t, isi_tuple_l, isi_list_i, isi_list_b, isi_list_n, isi_list_s, isi_list_t, isi_list_l, W_eqI, k_R1_eq, k_R2_eq, $ts,*])
local macro_rules | `(tactic| simp_arith) => `(tactic| simp_arith [])
section
set_option maxHeartbeats 1000000
variable {Q : D → Store → Prop} {E : Er → Store → Prop} {S : Store}
def inR (i lo hi : Int) : Bool := decide (lo ≤ i) && decide (i ≤ hi)
theorem W_is_integer {i lo hi : Int} : W (m_is_integer [.int i, .int lo, .int hi] S) Q E = Q (.bl (inR i lo hi)) S := by
  unfold m_is_integer inR
  simp_arith []
  by_cases h : lo ≤ i
  · simp_arith [h]
  · simp_arith [h]
/-! the purse -/
def pu (x y z : Int) : O := .lst [.int x, .int y, .int z]
/-- the purse stands at n, drawn from at most b times -/
def Pu (S : Store) (n : Nat) (b : Int) : Prop := ∃ x y z, S[n]? = some (pu x y z) ∧ 0 ≤ x ∧ 0 ≤ y ∧ y < 2147483647 ∧ 0 ≤ z ∧ z ≤ b
/-- nothing but n is changed -/
def Fr (n : Nat) (S S' : Store) : Prop := S'.length = S.length ∧ ∀ j, j ≠ n → S'[j]? = S[j]?
theorem Fr.refl {n : Nat} {S : Store} : Fr n S S := ⟨rfl, fun _ _ => rfl⟩
theorem Fr.trans {n : Nat} {S S1 S2 : Store} (a : Fr n S S1) (b : Fr n S1 S2) : Fr n S S2 := ⟨b.1.trans a.1, fun j h => (b.2 j h).trans (a.2 j h)⟩
theorem Fr.set {n : Nat} {S : Store} {o : O} : Fr n S (S.set n o) := ⟨List.length_set, fun j h => List.getElem?_set_ne (Ne.symm h)⟩
def PW (n : Nat) (S0 : Store) (b : Int) (S : Store) : Prop := Pu S n b ∧ Fr n S0 S
theorem PW.mono {n : Nat} {S0 S : Store} {b c : Int} (h : PW n S0 b S) (hb : b ≤ c) : PW n S0 c S := by
  obtain ⟨⟨x, y, z, h1, h2, h3, h4, h5, h6⟩, f⟩ := h
  exact ⟨⟨x, y, z, h1, h2, h3, h4, h5, Int.le_trans h6 hb⟩, f⟩
theorem log2_lt {i : Int} {k : Nat} (h0 : 0 ≤ i) (h : i < 2 ^ k) (hk : 0 < k) : i.natAbs.log2 < k := by
  have h1 : i.natAbs < 2 ^ k := by
    have : ((i.natAbs : Nat) : Int) = i := Int.natAbs_of_nonneg h0
    have h2 : ((i.natAbs : Nat) : Int) < ((2 ^ k : Nat) : Int) := by rw [this]; simpa using h
    exact Int.ofNat_lt.mp h2
  by_cases hz : i.natAbs = 0
  · rw [hz]
    exact hk
  · exact (Nat.log2_lt hz).mpr h1
theorem lstAt_pu {n : Nat} {x y z : Int} (h : S[n]? = some (pu x y z)) : lstAt S n = some [.int x, .int y, .int z] := by
  unfold lstAt
  rw [h]
  rfl
theorem W_mixed {y z : Int} (hy : 0 ≤ y) (hy2 : y < 2147483647) (hz : 0 ≤ z) (hz2 : z < 2 ^ 60) : W (m__law_mixed [.int y, .int z] S) (fun d S' => ∃ r, d = .int r ∧ 0 ≤ r ∧ S' = S) E := by
  unfold m__law_mixed
  have l1 := log2_lt (k := 31) hy (by omega) (by decide)
  have l2 := log2_lt (k := 60) hz (by omega) (by decide)
  have n1 : (2654435761 : Int).natAbs.log2 < 40 := by decide +kernel
  have n2 : (40503 : Int).natAbs.log2 < 40 := by decide +kernel
  have n3 : (97 : Int).natAbs.log2 < 40 := by decide +kernel
  have n4 : (7 : Int).natAbs.log2 < 40 := by decide +kernel
  have l3 : (40503 * z).natAbs.log2 < 100 := log2_lt (by omega) (by omega) (by decide)
  simp_arith []
  rw [W_mulI (by omega)]
  simp_arith []
  rw [W_mulI (by omega)]
  simp_arith []
  rw [W_mulI (by omega)]
  simp_arith []
  rw [W_mulI (by omega)]
  simp_arith []
  rw [W_f2Ic (by decide +kernel)]
  simp_arith []
  generalize hq : (y * 2654435761 + 40503 * z * z + 97 * z + 13) % 2147483647 = q
  have q0 : 0 ≤ q := by omega
  have q1 : q < 2147483647 := by omega
  have l4 := log2_lt (k := 31) q0 (by omega) (by decide)
  rw [W_mulI (by omega)]
  simp_arith []
  rw [W_mulI (by omega)]
  simp_arith []
  rw [W_f2Ic (by decide +kernel)]
  simp_arith []
  rw [W_f2Ic (by decide +kernel)]
  exact ⟨_, rfl, by omega, rfl⟩
theorem W_ixP {n : Nat} {ds : List D} {i : Int} {y : D} (h : lstAt S n = some ds) (h2 : atI ds i = some y) : W (fIx (.ref n) (.int i) S) Q E = Q y S := W_ix (show seqOf S (.ref n) = some ds from h) h2
theorem lstAt_set {n : Nat} {ds es : List D} (h : lstAt S n = some ds) : lstAt (S.set n (.lst es)) n = some es := by
  have := (List.getElem?_eq_some_iff.mp (lstAt_of h)).1
  unfold lstAt
  rw [List.getElem?_set_self this]
theorem k_ix2 {QR : Rho → Store → Prop} {ρ : Rho} {d : D} {n j : Nat} {k : Int} {ds : List D} (h : lstAt S n = some ds) (hj : ixN ds.length k = some j) : kIx2 QR d ρ (.ref n) (.int k) S = QR ρ (S.set n (.lst (ds.set j d))) := by
  unfold kIx2
  dsimp only
  rw [h]
  dsimp only
  rw [hj]
theorem W_draw {n : Nat} {b k : Int} (h : Pu S n b) (hb : b < 2 ^ 50) (k0 : 0 < k) (k1 : k < 2 ^ 1000) : W (m__law_draw [.ref n, .int k] S) (fun d S' => ∃ r, d = .int r ∧ 0 ≤ r ∧ r < k ∧ PW n S (b + 1) S') E := by
  obtain ⟨x, y, z, h1, h2, h3, h4, h5, h6⟩ := h
  have hl := lstAt_pu h1
  unfold m__law_draw
  simp_arith []
  rw [W_ixP hl rfl]
  simp_arith []
  by_cases hx : 0 < x
  · simp_arith [hx]
    rw [W_ixP hl rfl]
    simp_arith []
    rw [W_f2Ic (decide_eq_true k0)]
    simp_arith []
    rw [W_ixP hl rfl]
    simp_arith []
    rw [W_f2Ic (decide_eq_true ⟨k0, Nat.lt_trans (log2_lt (Int.le_of_lt k0) k1 (by decide)) (by decide)⟩)]
    simp_arith []
    rw [k_ix2 hl rfl]
    simp_arith []
    have hn := (List.getElem?_eq_some_iff.mp h1).1
    exact ⟨_, rfl, Int.emod_nonneg _ (by omega), Int.emod_lt_of_pos _ k0, ⟨_, y, z, List.getElem?_set_self hn, Int.ediv_nonneg h2 (by omega), h3, h4, h5, by omega⟩, Fr.set⟩
  · simp_arith [hx]
    rw [W_ixP hl rfl]
    simp_arith []
    rw [k_ix2 (j := 2) hl rfl]
    simp_arith []
    have hl2 := lstAt_set (es := [.int x, .int y, .int (z + 1)]) hl
    rw [W_ixP hl2 rfl]
    simp_arith []
    rw [W_ixP hl2 rfl]
    simp_arith []
    refine (W_mixed (E := E) h3 h4 (by omega) (by omega)).mono fun d S1 h => ?_
    obtain ⟨r, rfl, r0, rfl⟩ := h
    simp_arith []
    rw [W_f2Ic (decide_eq_true k0)]
    have hn := (List.getElem?_eq_some_iff.mp h1).1
    simp_arith []
    exact ⟨_, rfl, Int.emod_nonneg _ (by omega), Int.emod_lt_of_pos _ k0, ⟨x, y, z + 1, List.getElem?_set_self hn, h2, h3, h4, by omega, by omega⟩, Fr.set⟩
theorem atI_int {ns : List Int} {i : Int} (h0 : 0 ≤ i) (h1 : i < ns.length) : ∃ c, c ∈ ns ∧ atI (ns.map D.int) i = some (.int c) := by
  have hi : i.toNat < ns.length := by omega
  refine ⟨ns[i.toNat], List.getElem_mem hi, ?_⟩
  unfold atI ixN
  rw [List.length_map, if_pos h0, if_pos h1]
  show (ns.map D.int)[i.toNat]? = _
  rw [List.getElem?_map, List.getElem?_eq_getElem hi]
  rfl
theorem at_end {o : O} : (S ++ [o])[S.length]? = some o := by
  rw [List.getElem?_append_right (Nat.le_refl _), Nat.sub_self]
  rfl
theorem W_purse {ns : List Int} {i : Int} (h0 : 0 ≤ i) (h1 : i < 1000000) : W (m__law_purse [.frz (ns.map .int), .int i] S) (fun d S' => ∃ o, d = .ref S.length ∧ S' = S ++ [o] ∧ Pu S' S.length (1000 * i)) E := by
  unfold m__law_purse
  have p1 : (decide ((0:Int) ≤ 18 ∧ (Builtin.Int.intBits 10 : Int) * 18 ≤ 2 ^ 27)) = true := by decide +kernel
  have p2 : (decide ((0:Int) ≤ 60 ∧ (Builtin.Int.intBits 10 : Int) * 60 ≤ 2 ^ 27)) = true := by decide +kernel
  have p3 : (decide ((0:Int) ≤ 8 ∧ (Builtin.Int.intBits (10 ^ Int.toNat 60) : Int) * 8 ≤ 2 ^ 27)) = true := by decide +kernel
  have p4 : (decide ((0 : Int) < (10 ^ Int.toNat 60) ^ Int.toNat 8)) = true := by decide +kernel
  have n1 : (1000 : Int).natAbs.log2 < 40 := by decide +kernel
  have n2 := log2_lt (k := 60) h0 (by omega) (by decide)
  have fin : ∀ c : Int, W (sRet (mLstS (mCons (mOp fMod (mCall fInt (mCons (mCall fMax2 (mCons (mOp fSub (mVar 2) (mOp fPowW (mC (.int 10)) (mC (.int 18)))) (mCons (mC (.int 0)) mNil))) mNil)) (mOp fPowW (mOp fPowW (mC (.int 10)) (mC (.int 60))) (mC (.int 8)))) (mCons (mOp fMod (mCall fInt (mCons (mVar 2) mNil)) (mC (.int 2147483647))) (mCons (mOp fMul (mC (.int 1000)) (mVar 1)) mNil)))) [some (.frz (ns.map .int)), some (.int i), some (.int c)] S) (kDef fun d S' => ∃ o, d = .ref S.length ∧ S' = S ++ [o] ∧ Pu S' S.length (1000 * i)) E := by
    intro c
    simp_arith []
    rw [W_f2Ic p1]
    simp_arith []
    rw [W_f2Ic p2]
    simp_arith []
    rw [W_f2Ic p3]
    simp_arith []
    rw [W_f2Ic p4]
    simp_arith []
    rw [W_f2Ic (by decide +kernel)]
    simp_arith []
    rw [W_mulI (by omega)]
    simp_arith []
    refine ⟨_, by trivial, rfl, _, _, _, at_end (o := pu _ _ _), ?_, ?_, ?_, ?_, Int.le_refl _⟩
    · exact Int.emod_nonneg _ (Int.ne_of_gt (of_decide_eq_true p4))
    · exact Int.emod_nonneg _ (by decide)
    · exact Int.emod_lt_of_pos _ (by decide)
    · omega
  simp_arith [W_if, List.length_map]
  by_cases hi : i < ns.length
  · obtain ⟨c, _, hc⟩ := atI_int h0 hi
    simp_arith [hi]
    rw [W_ix rfl hc]
    simp only [k_asg, W_gN, k_asg2, k_seq_nx, List.set_cons_succ, List.set_cons_zero]
    exact fin c
  · simp only [hi, decide_false, k_if_f, W_nx, k_seq_nx]
    exact fin 0
/-! drawn lists -/
theorem k_draws {QA : List D → Store → Prop} {it : ItD} {xs : List D} {g : MG0} {te : ME0} {vs : List Nat} {ρ : Rho} {n : Nat} {S0 : Store} {b c : Int} (hx : it.Lst xs) (hl : xs.length < sizeLine) (P : D → Prop) (hc : 0 ≤ c)
    (h : ∀ d S' b', PW n S0 b' S' → b ≤ b' → b' ≤ b + xs.length * c → W (g d (wipeD ρ vs) S') (kEl te (fun y S2 => P y ∧ PW n S0 (b' + c) S2)) Er0) (h0 : PW n S0 b S)
    (hq : ∀ ys S', ys.length = xs.length → (∀ y ∈ ys, P y) → PW n S0 (b + xs.length * c) S' → QA ys S') : kLc QA E g mYes te vs ρ it S := by
  refine k_lc hx (Nat.lt_trans hl (by decide)) (fun i acc S' => acc.length = i ∧ (∀ y ∈ acc, P y) ∧ PW n S0 (b + i * c) S') ⟨rfl, fun _ z => (List.not_mem_nil z).elim, h0.mono (by simp)⟩ (fun i d acc S' hi hI => ?_) fun acc S' hI => ?_
  · obtain ⟨rfl, h2, h3⟩ := hI
    have hlt := (List.getElem?_eq_some_iff.mp hi).1
    have e1 : (0 : Int) ≤ acc.length * c := Int.mul_nonneg (by omega) hc
    have e2 : (acc.length : Int) * c ≤ xs.length * c := Int.mul_le_mul_of_nonneg_right (by omega) hc
    refine W.mono (h d S' _ h3 (by omega) (by omega)) fun ρ1 S1 h1 => ?_
    rw [k_el] at h1
    rw [k_lc1, W_yes, k_lc2_t]
    refine h1.mono fun y S2 h4 => ?_
    refine ⟨by omega, by rw [List.length_append]; rfl, fun z hz => ?_, h4.2.mono ?_⟩
    · rcases List.mem_append.mp hz with q | q
      · exact h2 z q
      · rw [List.mem_singleton.mp q]
        exact h4.1
    · have : ((acc.length + 1 : Nat) : Int) * c = acc.length * c + c := by rw [Int.natCast_add, Int.add_mul]; simp
      omega
  · exact hq acc S' hI.1 hI.2.1 hI.2.2
theorem ints_of {P : Int → Prop} : ∀ {ys : List D}, (∀ y ∈ ys, ∃ r, y = .int r ∧ P r) → ∃ zs : List Int, ys = zs.map .int ∧ ∀ z ∈ zs, P z
  | [], _ => ⟨[], rfl, fun _ z => (List.not_mem_nil z).elim⟩
  | y :: ys, h => by
    obtain ⟨r, rfl, hr⟩ := h y List.mem_cons_self
    obtain ⟨zs, rfl, hz⟩ := ints_of fun z hz => h z (List.mem_cons_of_mem _ hz)
    exact ⟨r :: zs, rfl, fun z hz' => by
      rcases List.mem_cons.mp hz' with q | q
      · rw [q]; exact hr
      · exact hz z q⟩
def rowD (xs : List Int) : D := .tup (xs.map .int)
theorem rows_of {P : List Int → Prop} : ∀ {ys : List D}, (∀ y ∈ ys, ∃ r, y = rowD r ∧ P r) → ∃ zs : List (List Int), ys = zs.map rowD ∧ ∀ z ∈ zs, P z
  | [], _ => ⟨[], rfl, fun _ z => (List.not_mem_nil z).elim⟩
  | y :: ys, h => by
    obtain ⟨r, rfl, hr⟩ := h y List.mem_cons_self
    obtain ⟨zs, rfl, hz⟩ := rows_of fun z hz => h z (List.mem_cons_of_mem _ hz)
    exact ⟨r :: zs, rfl, fun z hz' => by
      rcases List.mem_cons.mp hz' with q | q
      · rw [q]; exact hr
      · exact hz z q⟩
theorem PW.trans {n : Nat} {S0 S S' : Store} {b c : Int} (h : PW n S0 b S) (h' : PW n S c S') : PW n S0 c S' := ⟨h'.1, h.2.trans h'.2⟩
theorem PW.refl {n : Nat} {S : Store} {b : Int} (h : Pu S n b) : PW n S b S := ⟨h, Fr.refl⟩
theorem W_drawP {n : Nat} {S0 : Store} {b k : Int} (h : PW n S0 b S) (hb : b < 2 ^ 50) (k0 : 0 < k) (k1 : k < 2 ^ 1000) : W (m__law_draw [.ref n, .int k] S) (fun d S' => ∃ r, d = .int r ∧ 0 ≤ r ∧ r < k ∧ PW n S0 (b + 1) S') E :=
  (W_draw h.1 hb k0 k1).mono fun d S' ⟨r, h1, h2, h3, h4⟩ => ⟨r, h1, h2, h3, h.trans h4⟩
def machD (s : Int) (rows : List (List Int)) (ans : List Int) : D := .tup [.int s, .tup (rows.map rowD), .tup (ans.map .int)]
/-- a machine of so many values -/
structure Mach (wide : Int) (s : Int) (rows : List (List Int)) (ans : List Int) : Prop where
  w : ∀ r ∈ rows, (r.length : Int) = wide
  v : ∀ r ∈ rows, ∀ v ∈ r, 0 ≤ v ∧ v < rows.length
  s0 : 0 ≤ s
  s1 : s < rows.length
  al : ans.length = rows.length
  a : ∀ a ∈ ans, 0 ≤ a ∧ a ≤ 99
theorem W_machine {n : Nat} {S0 : Store} {b wide most : Int} (h : PW n S0 b S) (hb : b < 2 ^ 40) (w0 : 0 ≤ wide) (w1 : wide ≤ 100) (m0 : 0 < most) (m1 : most ≤ 1000) :
    W (m__law_machine [.ref n, .int wide, .int most] S) (fun d S' => ∃ s rows ans, d = machD s rows ans ∧ Mach wide s rows ans ∧ (rows.length : Int) ≤ most ∧ PW n S0 (b + (3 + most * (wide + 1))) S') E := by
  unfold m__law_machine
  simp_arith []
  refine (W_drawP h (by omega) m0 (by omega)).mono fun d S1 h1 => ?_
  obtain ⟨r, rfl, r0, r1, h1⟩ := h1
  simp_arith []
  refine W_R1 ?_
  simp_arith []
  refine ⟨by omega, by omega, ?_⟩
  generalize hmany : (1 + r) = many
  have e1 : many * wide ≤ most * wide := Int.mul_le_mul_of_nonneg_right (by omega) w0
  have e0 : 0 ≤ many * wide := Int.mul_nonneg (by omega) w0
  have e2 : most * wide ≤ 1000 * 100 := Int.mul_le_mul m1 w1 w0 (by omega)
  have e3 : most * (wide + 1) = most * wide + most := by rw [Int.mul_add, Int.mul_one]
  have lm : (((rangeD 0 many.toNat).length : Nat) : Int) = many := by rw [length_rangeD]; omega
  refine k_draws (lst_R _ _) (by rw [length_rangeD]; unfold sizeLine; omega) (fun y => ∃ r : List Int, y = rowD r ∧ (r.length : Int) = wide ∧ ∀ v ∈ r, 0 ≤ v ∧ v < many) (c := wide) w0 (fun d S2 b' h2 hb1 hb2 => ?_) h1 (fun ys S2 hl hy h2 => ?_)
  · rw [lm] at hb2
    simp_arith []
    refine W_R1 ?_
    simp_arith []
    refine ⟨by omega, by omega, ?_⟩
    refine k_draws (lst_R _ _) (by rw [length_rangeD]; unfold sizeLine; omega) (fun y => ∃ r, y = .int r ∧ 0 ≤ r ∧ r < many) (c := 1) (by decide) (fun d S3 b'' h3 hb3 hb4 => ?_) h2 (fun zs S3 hl hz h3 => ?_)
    · rw [length_rangeD] at hb4
      simp_arith []
      refine (W_drawP h3 (by omega) (by omega) (by omega)).mono fun d S4 h4 => ?_
      obtain ⟨q, rfl, q0, q1, h4⟩ := h4
      exact ⟨⟨q, rfl, q0, q1⟩, h4⟩
    · obtain ⟨qs, rfl, hq⟩ := ints_of hz
      rw [length_rangeD] at hl h3
      rw [List.length_map] at hl
      simp_arith []
      exact ⟨⟨qs, rfl, by omega, hq⟩, h3.mono (by omega)⟩
  · obtain ⟨rows, rfl, hr⟩ := rows_of (P := fun r => (r.length : Int) = wide ∧ ∀ v ∈ r, 0 ≤ v ∧ v < many) hy
    rw [lm] at h2
    rw [length_rangeD, List.length_map] at hl
    simp_arith []
    refine (W_drawP h2 (by omega) (by decide) (by decide)).mono fun d S3 h3 => ?_
    obtain ⟨q, rfl, q0, q1, h3⟩ := h3
    have hf : ∃ few : Int, atI [D.int 2, .int 3, .int 1, .int 100] q = some (.int few) ∧ 0 < few ∧ few ≤ 100 := by
      have : q = 0 ∨ q = 1 ∨ q = 2 ∨ q = 3 := by omega
      rcases this with rfl | rfl | rfl | rfl
      · exact ⟨2, rfl, by decide, by decide⟩
      · exact ⟨3, rfl, by decide, by decide⟩
      · exact ⟨1, rfl, by decide, by decide⟩
      · exact ⟨100, rfl, by decide, by decide⟩
    obtain ⟨few, hf, f0, f1⟩ := hf
    simp_arith []
    rw [W_ix rfl hf]
    simp_arith []
    refine (W_drawP h3 (by omega) (by omega) (by omega)).mono fun d S4 h4 => ?_
    obtain ⟨s, rfl, s0, s1, h4⟩ := h4
    simp_arith []
    refine W_R1 ?_
    simp_arith []
    refine ⟨by omega, by omega, ?_⟩
    refine k_draws (lst_R _ _) (by rw [length_rangeD]; unfold sizeLine; omega) (fun y => ∃ r, y = .int r ∧ 0 ≤ r ∧ r < few) (c := 1) (by decide) (fun d S5 b'' h5 hb3 hb4 => ?_) h4 (fun zs S5 hl2 hz h5 => ?_)
    · rw [length_rangeD] at hb4
      simp_arith []
      refine (W_drawP h5 (by omega) (by omega) (by omega)).mono fun d S6 h6 => ?_
      obtain ⟨q, rfl, q0, q1, h6⟩ := h6
      exact ⟨⟨q, rfl, q0, q1⟩, h6⟩
    · obtain ⟨qs, rfl, hq⟩ := ints_of hz
      rw [length_rangeD] at hl2 h5
      rw [List.length_map] at hl2
      simp_arith []
      refine ⟨s, rows, qs, rfl, ⟨fun r hr' => (hr r hr').1, fun r hr' v hv => ?_, s0, by omega, by omega, fun a ha => ?_⟩, by omega, h5.mono (by omega)⟩
      · have := (hr r hr').2 v hv
        omega
      · have := hq a ha
        omega
theorem W_row {n : Nat} {S0 : Store} {b wide most : Int} (h : PW n S0 b S) (hb : b < 2 ^ 40) (w0 : 0 < wide) (w1 : wide ≤ 100) (m0 : 0 ≤ most) (m1 : most ≤ 1000) :
    W (m__law_row [.ref n, .int wide, .int most] S) (fun d S' => ∃ r : List Int, d = rowD r ∧ (r.length : Int) ≤ most ∧ (∀ v ∈ r, 0 ≤ v ∧ v < wide) ∧ PW n S0 (b + (1 + most)) S') E := by
  unfold m__law_row
  simp_arith []
  refine W_R1 ?_
  simp_arith []
  refine (W_drawP h (by omega) (by omega) (by omega)).mono fun d S1 h1 => ?_
  obtain ⟨r, rfl, r0, r1, h1⟩ := h1
  simp_arith []
  refine ⟨by omega, by omega, ?_⟩
  refine k_draws (lst_R _ _) (by rw [length_rangeD]; unfold sizeLine; omega) (fun y => ∃ r, y = .int r ∧ 0 ≤ r ∧ r < wide) (c := 1) (by decide) (fun d S3 b'' h3 hb3 hb4 => ?_) h1 (fun zs S3 hl hz h3 => ?_)
  · rw [length_rangeD] at hb4
    simp_arith []
    refine (W_drawP h3 (by omega) (by omega) (by omega)).mono fun d S4 h4 => ?_
    obtain ⟨q, rfl, q0, q1, h4⟩ := h4
    exact ⟨⟨q, rfl, q0, q1⟩, h4⟩
  · obtain ⟨qs, rfl, hq⟩ := ints_of hz
    rw [length_rangeD] at hl h3
    rw [List.length_map] at hl
    simp_arith []
    exact ⟨qs, rfl, by omega, hq, h3.mono (by omega)⟩
theorem W_is_row {xs : List Int} {n : Int} (hl : xs.length < sizeLine) (h : Q (.bl (xs.all fun v => inR v 0 (n - 1))) S) : W (m_is_row [rowD xs, .int n] S) Q E := by
  unfold m_is_row rowD
  simp_arith []
  refine k_lc_map (lst_L _) (f := fun d => match d with | .int v => .bl (inR v 0 (n - 1)) | _ => .bl false) (by rw [List.length_map]; exact hl) (fun d hd Y hY => ?_) ?_
  · obtain ⟨v, hv, rfl⟩ := List.mem_map.mp hd
    simp_arith []
    rw [W_is_integer]
    exact hY
  · have e : (xs.map D.int).map (fun d => match d with | .int v => D.bl (inR v 0 (n - 1)) | _ => .bl false) = (xs.map fun v => inR v 0 (n - 1)).map D.bl := by
      rw [List.map_map, List.map_map]
      rfl
    rw [e]
    simp_arith []
    rw [W_allL, List.all_map]
    exact h
theorem flat_row {n : Nat} (xs : List Int) : flat (n + 1) (rowD xs) = true := by
  unfold rowD flat
  induction xs with
  | nil => rfl
  | cons x xs ih =>
    rw [List.map_cons]
    unfold flatL
    rw [ih]
    rfl
theorem flat_rows {n : Nat} (xs : List (List Int)) : flat (n + 2) (.tup (xs.map rowD)) = true := by
  unfold flat
  induction xs with
  | nil => rfl
  | cons x xs ih =>
    rw [List.map_cons]
    unfold flatL
    rw [ih, flat_row]
    rfl
theorem W_eqE {neg : Bool} {xs : List D} (h : flat 64 (.tup xs) = true) : W (fEq neg (.tup xs) (.tup []) S) Q E = Q (.bl (if neg then !xs.isEmpty else xs.isEmpty)) S := by
  rw [W_eqF h rfl]
  have : eqD (.tup xs) (.tup []) = xs.isEmpty := by
    cases xs with
    | nil => rfl
    | cons x r => simp [eqD, pyOf, pyOfL, PyData.eqv, PyData.eqvAll]
  rw [this]
theorem all_inR {xs : List Int} {n : Int} (h : ∀ v ∈ xs, 0 ≤ v ∧ v < n) : (xs.all fun v => inR v 0 (n - 1)) = true := by
  rw [List.all_eq_true]
  intro v hv
  obtain ⟨h1, h2⟩ := h v hv
  unfold inR
  rw [decide_eq_true h1, decide_eq_true (show v ≤ n - 1 by omega)]
  rfl
theorem all_inR' {xs : List Int} {n : Int} (h : ∀ v ∈ xs, 0 ≤ v ∧ v ≤ n) : (xs.all fun v => inR v 0 n) = true := by
  rw [List.all_eq_true]
  intro v hv
  obtain ⟨h1, h2⟩ := h v hv
  unfold inR
  rw [decide_eq_true h1, decide_eq_true h2]
  rfl
theorem W_fault {wide s size : Int} {rows : List (List Int)} {ans : List Int} (M : Mach wide s rows ans) (hl : rows.length < 1000) (hw : wide < 1000) (hq : Q (if size = wide then .non else .tup [.str "steps", .int 0]) S) : W (m_fault_of [machD s rows ans, .int size] S) Q E := by
  have hpos : 0 < rows.length := by have := M.s0; have := M.s1; omega
  have al := M.al
  unfold m_fault_of machD
  simp_arith []
  rw [W_eqE (flat_rows (n := 62) rows)]
  have ne1 : (rows.map rowD).isEmpty = false := by
    cases rows with
    | nil => exact absurd hpos (by decide)
    | cons x r => rfl
  have ne2 : (ans.map D.int).isEmpty = false := by
    cases ans with
    | nil => rw [← al] at hpos; exact absurd hpos (by decide)
    | cons x r => rfl
  rw [ne1]
  simp_arith []
  rw [W_eqE (show flat 64 (.tup (ans.map .int)) = true from flat_row (n := 63) ans), ne2]
  simp_arith []
  refine k_for (lst_E _) (by unfold enumD; rw [List.length_map, List.length_zipIdx, List.length_map]; unfold BIG; omega)
    (fun i ρ S' => S' = S ∧ (size = wide ∨ i = 0) ∧ ∃ a c, ρ = [some (machD s rows ans), some (.int size), some (.int s), some (.tup (rows.map rowD)), some (.tup (ans.map .int)), a, c, none])
    ⟨rfl, .inr rfl, _, _, rfl⟩ (fun i d ρ S' hi hI => ?_) (fun ρ S' hI => ?_)
  · obtain ⟨rfl, hs, a, c, rfl⟩ := hI
    unfold enumD at hi
    rw [List.getElem?_map, List.getElem?_zipIdx, List.getElem?_map] at hi
    cases hr : rows[i]? with
    | none => rw [hr] at hi; cases hi
    | some row =>
      rw [hr] at hi
      obtain rfl := Option.some.inj hi
      have hm := List.mem_of_getElem? hr
      have hrl := M.w row hm
      simp_arith []
      refine W_is_row (by unfold sizeLine; omega) ?_
      rw [List.length_map, all_inR (M.v row hm)]
      simp_arith []
      rw [show rowD row = .tup (row.map .int) from rfl]
      simp_arith []
      rw [List.length_map]
      by_cases he : size = wide
      · rw [show (row.length : Int) = size by omega]
        simp_arith []
        exact ⟨trivial, .inl he, _, _, rfl⟩
      · have hi0 : i = 0 := hs.resolve_left he
        subst hi0
        rw [show decide ((row.length : Int) = size) = false from decide_eq_false (by omega)]
        simp_arith []
        rw [if_neg he] at hq
        exact hq
  · obtain ⟨rfl, hs, a, c, rfl⟩ := hI
    have he : size = wide := by
      refine hs.resolve_right fun z => ?_
      unfold enumD at z
      rw [List.length_map, List.length_zipIdx, List.length_map] at z
      omega
    rw [if_pos he] at hq
    simp_arith []
    rw [List.length_map, List.length_map, show (ans.length : Int) = rows.length by omega]
    simp_arith []
    refine k_lc_map (lst_L _) (f := fun d => match d with | .int v => .bl (inR v 0 99) | _ => .bl false) (by rw [List.length_map]; unfold sizeLine; omega) (fun d hd Y hY => ?_) ?_
    · obtain ⟨v, hv, rfl⟩ := List.mem_map.mp hd
      simp_arith []
      rw [W_is_integer]
      exact hY
    · have e : (ans.map D.int).map (fun d => match d with | .int v => D.bl (inR v 0 99) | _ => .bl false) = (ans.map fun v => inR v 0 99).map D.bl := by
        rw [List.map_map, List.map_map]
        rfl
      rw [e]
      simp_arith []
      rw [W_allL, List.all_map, show (ans.all (id ∘ fun v => inR v 0 99)) = true from all_inR' M.a]
      simp_arith []
      rw [W_is_integer, show inR s 0 ((rows.map rowD).length - 1) = true by
        unfold inR
        rw [decide_eq_true M.s0, decide_eq_true (show s ≤ (rows.map rowD).length - 1 by rw [List.length_map]; have := M.s1; omega)]
        rfl]
      simp_arith []
      exact hq
theorem W_check {wide s size : Int} {rows : List (List Int)} {ans : List Int} (M : Mach wide s rows ans) (hl : rows.length < 1000) (hw : wide < 1000) (h1 : 1 ≤ size) (h2 : size ≤ 4) (hq : Q (if size = wide then .non else .tup [.str "steps", .int 0]) S) : W (m_check_machine [machD s rows ans, .int size] S) Q E := by
  unfold m_check_machine
  simp_arith []
  unfold m_require_size
  simp_arith []
  rw [W_is_integer, show inR size 1 4 = true by unfold inR; rw [decide_eq_true h1, decide_eq_true h2]; rfl]
  simp_arith []
  exact W_fault M hl hw hq
theorem W_size_of {wide s : Int} {rows : List (List Int)} {ans : List Int} (M : Mach wide s rows ans) (hl : rows.length < 1000) (h1 : 1 ≤ wide) (h2 : wide ≤ 4) (hq : Q (.int wide) S) : W (m_size_of [machD s rows ans] S) Q E := by
  unfold m_size_of
  simp_arith []
  refine W_R2 ?_
  simp_arith []
  refine ⟨by decide, by decide, by decide, by decide, ?_⟩
  refine k_nxt (lst_R _ _) (by rw [length_rangeD]; decide) (fun i S' => S' = S ∧ (i : Int) + 1 ≤ wide) ⟨rfl, by omega⟩ (fun i d S' hi hI => ?_) fun S' hI => ?_
  · obtain ⟨rfl, hI⟩ := hI
    obtain ⟨hlt, rfl⟩ := rangeD_get hi
    simp_arith []
    refine W_fault M hl (by omega) ?_
    by_cases he : 1 + (i : Int) = wide
    · rw [if_pos he]
      simp_arith []
      rw [he]
      exact hq
    · rw [if_neg he]
      simp_arith []
      exact ⟨trivial, by omega⟩
  · obtain ⟨rfl, hI⟩ := hI
    rw [length_rangeD] at hI
    have : ((4 + 1 - 1 : Int).toNat : Int) = 4 := rfl
    omega
theorem W_require_machine {QD : D → Store → Prop} {wide s : Int} {rows : List (List Int)} {ans : List Int} (M : Mach wide s rows ans) (hl : rows.length < 1000) (h1 : 1 ≤ wide) (h2 : wide ≤ 4) (hq : QD .non S) : W (m_require_machine [machD s rows ans] S) QD E := by
  unfold m_require_machine
  simp_arith []
  refine W_size_of M hl h1 h2 ?_
  simp_arith []
  exact hq
/-! reading a row -/
def stp (rows : List (List Int)) (s v : Int) : Int := (rows.getD s.toNat []).getD v.toNat 0
def rdM (rows : List (List Int)) (s : Int) (xs : List Int) : Int := xs.foldl (stp rows) s
def ansM (s : Int) (rows : List (List Int)) (ans : List Int) (xs : List Int) : Int := ans.getD (rdM rows s xs).toNat 0
theorem atI_map {α : Type} {f : α → D} {xs : List α} {i : Int} {z : α} (h0 : 0 ≤ i) (h1 : i < xs.length) : atI (xs.map f) i = some (f (xs.getD i.toNat z)) := by
  have hi : i.toNat < xs.length := by omega
  unfold atI ixN
  rw [List.length_map, if_pos h0, if_pos h1]
  show (xs.map f)[i.toNat]? = _
  rw [List.getElem?_map, List.getElem?_eq_getElem hi, List.getD_eq_getElem?_getD, List.getElem?_eq_getElem hi]
  rfl
theorem stp_in {wide s0 s v : Int} {rows : List (List Int)} {ans : List Int} (M : Mach wide s0 rows ans) (h0 : 0 ≤ s) (h1 : s < rows.length) (v0 : 0 ≤ v) (v1 : v < wide) :
    atI (rows.map rowD) s = some (rowD (rows.getD s.toNat [])) ∧ atI ((rows.getD s.toNat []).map D.int) v = some (.int (stp rows s v)) ∧ 0 ≤ stp rows s v ∧ stp rows s v < rows.length := by
  have hi : s.toNat < rows.length := by omega
  have e : rows.getD s.toNat [] = rows[s.toNat] := by rw [List.getD_eq_getElem?_getD, List.getElem?_eq_getElem hi]; rfl
  have hm : rows.getD s.toNat [] ∈ rows := by rw [e]; exact List.getElem_mem hi
  have hw := M.w _ hm
  have hv := M.v _ hm
  have hj : v.toNat < (rows.getD s.toNat []).length := by omega
  refine ⟨atI_map h0 h1, atI_map v0 (by omega), ?_⟩
  unfold stp
  have e2 : (rows.getD s.toNat []).getD v.toNat 0 = (rows.getD s.toNat [])[v.toNat] := by rw [List.getD_eq_getElem?_getD, List.getElem?_eq_getElem hj]; rfl
  rw [e2]
  exact hv _ (List.getElem_mem hj)
theorem rdM_in {wide s0 : Int} {rows : List (List Int)} {ans : List Int} (M : Mach wide s0 rows ans) : ∀ {xs : List Int} {s : Int}, 0 ≤ s → s < rows.length → (∀ v ∈ xs, 0 ≤ v ∧ v < wide) → 0 ≤ rdM rows s xs ∧ rdM rows s xs < rows.length
  | [], s, h0, h1, _ => ⟨h0, h1⟩
  | x :: xs, s, h0, h1, h => by
    obtain ⟨a, b⟩ := h x List.mem_cons_self
    obtain ⟨_, _, h2, h3⟩ := stp_in M h0 h1 a b
    exact rdM_in M (xs := xs) h2 h3 fun v hv => h v (List.mem_cons_of_mem _ hv)
theorem W_state_after {wide s0 s : Int} {rows : List (List Int)} {ans xs : List Int} (M : Mach wide s0 rows ans) (h0 : 0 ≤ s) (h1 : s < rows.length) (hx : ∀ v ∈ xs, 0 ≤ v ∧ v < wide) (hl : xs.length < BIG) (hq : Q (.int (rdM rows s xs)) S) : W (m_state_after [machD s0 rows ans, .int s, rowD xs] S) Q E := by
  unfold m_state_after machD rowD
  simp_arith []
  refine k_for (lst_L _) (by rw [List.length_map]; exact hl) (fun i ρ S' => S' = S ∧ ∃ a, ρ = [some (machD s0 rows ans), some (.int (rdM rows s (xs.take i))), some (rowD xs), a]) ⟨rfl, _, rfl⟩ (fun i d ρ S' hi hI => ?_) (fun ρ S' hI => ?_)
  · obtain ⟨rfl, a, rfl⟩ := hI
    rw [List.getElem?_map] at hi
    cases hv : xs[i]? with
    | none => rw [hv] at hi; cases hi
    | some v =>
      rw [hv] at hi
      obtain rfl := Option.some.inj hi
      obtain ⟨v0, v1⟩ := hx v (List.mem_of_getElem? hv)
      obtain ⟨r0, r1⟩ := rdM_in M h0 h1 (xs := xs.take i) fun v hv => hx v (List.mem_of_mem_take hv)
      obtain ⟨e1, e2, _, _⟩ := stp_in M r0 r1 v0 v1
      simp_arith [machD]
      rw [W_ixT (y := .tup (rows.map rowD)) rfl]
      simp_arith []
      rw [W_ixT e1]
      simp_arith [rowD]
      rw [W_ixT e2]
      simp_arith []
      have e3 : rdM rows s (xs.take (i + 1)) = stp rows (rdM rows s (xs.take i)) v := by
        rw [List.take_add_one, hv]
        unfold rdM
        rw [List.foldl_append]
        rfl
      rw [e3]
      exact ⟨trivial, _, rfl⟩
  · obtain ⟨rfl, a, rfl⟩ := hI
    rw [List.length_map, List.take_length]
    simp_arith []
    exact hq
theorem W_law_read {wide s0 s : Int} {rows : List (List Int)} {ans xs : List Int} (M : Mach wide s0 rows ans) (h0 : 0 ≤ s) (h1 : s < rows.length) (hx : ∀ v ∈ xs, 0 ≤ v ∧ v < wide) (hl : xs.length < BIG) (hq : Q (.int (rdM rows s xs)) S) : W (m__law_read [machD s0 rows ans, .int s, rowD xs] S) Q E :=
  show W (m_state_after [machD s0 rows ans, .int s, rowD xs] S) Q E from W_state_after M h0 h1 hx hl hq
theorem W_answer_on {wide s : Int} {rows : List (List Int)} {ans xs : List Int} (M : Mach wide s rows ans) (hx : ∀ v ∈ xs, 0 ≤ v ∧ v < wide) (hl : xs.length < BIG) (hq : Q (.int (ansM s rows ans xs)) S) : W (m_answer_on [machD s rows ans, rowD xs] S) Q E := by
  obtain ⟨r0, r1⟩ := rdM_in M M.s0 M.s1 hx
  unfold m_answer_on
  simp_arith []
  rw [machD, W_ixT (y := .tup (ans.map .int)) rfl]
  simp_arith []
  rw [W_ixT (y := .int s) rfl]
  simp_arith []
  refine W_state_after M M.s0 M.s1 hx hl ?_
  simp_arith []
  rw [W_ixT (atI_map (z := 0) r0 (by have := M.al; omega))]
  simp_arith []
  exact hq
theorem W_law_answer {wide s : Int} {rows : List (List Int)} {ans xs : List Int} (M : Mach wide s rows ans) (hx : ∀ v ∈ xs, 0 ≤ v ∧ v < wide) (hl : xs.length < BIG) (hq : Q (.int (ansM s rows ans xs)) S) : W (m__law_answer [machD s rows ans, rowD xs] S) Q E :=
  show W (m_answer_on [machD s rows ans, rowD xs] S) Q E from W_answer_on M hx hl hq
theorem W_answer {wide s : Int} {rows : List (List Int)} {ans xs : List Int} (M : Mach wide s rows ans) (hrl : rows.length < 1000) (h1 : 1 ≤ wide) (h2 : wide ≤ 4) (hx : ∀ v ∈ xs, 0 ≤ v ∧ v < wide) (hl : xs.length < sizeLine) (hq : Q (.int (ansM s rows ans xs)) S) : W (m_answer [machD s rows ans, rowD xs] S) Q E := by
  unfold m_answer
  simp_arith []
  refine W_require_machine M hrl h1 h2 ?_
  simp_arith []
  refine W_size_of M hrl h1 h2 ?_
  simp_arith []
  refine W_is_row hl ?_
  rw [all_inR hx]
  simp_arith []
  exact W_answer_on M hx (Nat.lt_trans hl (by decide)) hq
theorem W_mulT {us : List D} {k : Int} (h : us ≠ [] ∧ 2 ≤ k ∧ k ≤ 1000 ∧ us.length ≤ 1000) : W (fMul (.tup us) (.int k) S) Q E = Q (.tup (List.replicate k.toNat us).flatten) S := by
  show W (if us ≠ [] ∧ 2 ≤ k ∧ k ≤ 1000 ∧ us.length ≤ 1000 then .ok (.tup (List.replicate k.toNat us).flatten) S else .bad) Q E = _
  rw [if_pos h]
  rfl
theorem last_mul : (D.tup (List.replicate (Int.toNat 60) [D.int 0]).flatten) = rowD (List.replicate 60 0) := by
  rw [show Int.toNat 60 = 60 from rfl, List.flatten_replicate_singleton, rowD, List.map_replicate]
theorem last_e : [D.tup [D.int 0, D.tup [D.tup [D.int 0]], D.tup [D.int 99]], rowD (List.replicate 60 0)] = [machD 0 [[0]] [99], rowD (List.replicate 60 0)] := by
  have : D.tup [D.int 0, D.tup [D.tup [D.int 0]], D.tup [D.int 99]] = machD 0 [[0]] [99] := by
    unfold machD rowD
    simp only [List.map_cons, List.map_nil]
  rw [this]
theorem last_M : Mach 1 0 [[0]] [99] := ⟨by simp, by simp, by decide, by decide, rfl, by simp⟩
theorem last_ans : W (m_answer [machD 0 [[0]] [99], rowD (List.replicate 60 0)] S) (fun d S' => d = .int 99 ∧ S' = S) E := by
  have h1 : (List.replicate 60 (0 : Int)).length < sizeLine := by rw [List.length_replicate]; decide
  have h2 : ∀ v ∈ List.replicate 60 (0 : Int), 0 ≤ v ∧ v < (1 : Int) := fun v hv => by rw [(List.mem_replicate.mp hv).2]; decide
  have h3 : ansM 0 [[0]] [99] (List.replicate 60 0) = 99 := by decide +kernel
  have a1 : ([[0]] : List (List Int)).length < 1000 := by decide
  have a2 : (1 : Int) ≤ 1 := by decide
  have a3 : (1 : Int) ≤ 4 := by decide
  have b1 := @W_answer (fun d S' => d = .int 99 ∧ S' = S) E S 1 0 [[0]] [99] (List.replicate 60 0) last_M a1 a2 a3 h2 h1
  rw [h3] at b1
  exact b1 ⟨rfl, rfl⟩
theorem law_run {ns : List Int} (hl : ns.length ≤ 63) : W (m_law [.frz (ns.map .int)] []) (fun d _ => d = .bl true) Er0 := by
  unfold m_law
  simp_arith []
  refine W_R1 ?_
  simp_arith [List.length_map]
  refine ⟨by split <;> omega, by split <;> omega, ?_⟩
  generalize hm : Int.toNat (1 + if (ns.length : Int) < 6 then (ns.length : Int) else 6) = m
  have hm7 : m ≤ 7 := by rw [← hm]; split <;> omega
  refine k_for (lst_R _ _) (by rw [length_rangeD]; unfold BIG; omega) (fun i ρ S' => ∃ a b c d e f g, ρ = [some (.frz (ns.map .int)), a, b, c, d, e, f, g]) ⟨_, _, _, _, _, _, _, rfl⟩ (fun i d ρ S1 hi hI => ?_) (fun ρ S1 hI => ?_)
  · obtain ⟨a, b, c, d1, e, f, g, rfl⟩ := hI
    obtain ⟨hi, rfl⟩ := rangeD_get hi
    simp_arith []
    refine (W_purse (by omega) (by omega)).mono fun d S2 h2 => ?_
    obtain ⟨o, rfl, rfl, hp⟩ := h2
    simp_arith []
    refine W_R1 ?_
    simp_arith []
    refine ⟨by decide, by decide, ?_⟩
    generalize S1.length = n at hp ⊢
    generalize S1 ++ [o] = S2 at hp ⊢
    refine k_for (lst_R _ _) (by rw [length_rangeD]; unfold BIG; decide) (fun t ρ S' => PW n S2 (1000 * (0 + i) + t * 200) S' ∧ ∃ c d e f g, ρ = [some (.frz (ns.map .int)), some (.int (0 + i)), some (.ref n), c, d, e, f, g]) ⟨(PW.refl hp).mono (by omega), _, _, _, _, _, rfl⟩ (fun t d ρ S3 ht hI => ?_) (fun ρ S3 hI => ?_)
    · obtain ⟨h3, c, d1, e, f, g, rfl⟩ := hI
      obtain ⟨ht3, rfl⟩ := rangeD_get ht
      have ht4 : t < 3 := ht3
      simp_arith []
      refine (W_drawP h3 (by omega) (by decide) (by decide)).mono fun d S4 h4 => ?_
      obtain ⟨q, rfl, q0, q1, h4⟩ := h4
      simp_arith []
      generalize hw : 1 + q = wide
      refine (W_machine h4 (by omega) (by omega) (by omega) (by decide) (by decide)).mono fun d S5 h5 => ?_
      obtain ⟨s, rows, ans, rfl, M, hr, h5⟩ := h5
      simp_arith []
      refine W_check M (by omega) (by omega) (by omega) (by omega) ?_
      rw [if_pos rfl]
      simp_arith []
      refine W_check M (by omega) (by omega) (by omega) (by omega) ?_
      rw [if_pos rfl]
      simp_arith []
      refine (W_row h5 (by omega) (by omega) (by omega) (by decide) (by decide)).mono fun d S6 h6 => ?_
      obtain ⟨r1, rfl, l1, v1, h6⟩ := h6
      simp_arith []
      refine (W_row h6 (by omega) (by omega) (by omega) (by decide) (by decide)).mono fun d S7 h7 => ?_
      obtain ⟨r2, rfl, l2, v2, h7⟩ := h7
      simp_arith []
      refine (W_row h7 (by omega) (by omega) (by omega) (by decide) (by decide)).mono fun d S8 h8 => ?_
      obtain ⟨r3, rfl, l3, v3, h8⟩ := h8
      simp_arith []
      refine k_for (lst_L _) (by show 4 < BIG; decide) (fun j ρ S' => S' = S8 ∧ ∃ f g, ρ = [some (.frz (ns.map .int)), some (.int (0 + i)), some (.ref n), some (.int (0 + t)), some (.int wide), some (machD s rows ans), f, g]) ⟨rfl, _, _, rfl⟩ (fun j d ρ S9 hj hI => ?_) (fun ρ S9 hI => ?_)
      · obtain ⟨rfl, f, g, rfl⟩ := hI
        have hd : ∃ r : List Int, d = rowD r ∧ (∀ v ∈ r, 0 ≤ v ∧ v < wide) ∧ r.length < 100 := by
          have := List.mem_of_getElem? hj
          rcases List.mem_cons.mp this with rfl | this
          · exact ⟨[], rfl, fun _ z => (List.not_mem_nil z).elim, by decide⟩
          rcases List.mem_cons.mp this with rfl | this
          · exact ⟨r1, rfl, v1, by omega⟩
          rcases List.mem_cons.mp this with rfl | this
          · exact ⟨r2, rfl, v2, by omega⟩
          rcases List.mem_cons.mp this with rfl | this
          · exact ⟨r3, rfl, v3, by omega⟩
          · exact (List.not_mem_nil this).elim
        obtain ⟨r, rfl, hv, hlr⟩ := hd
        simp_arith []
        refine W_law_answer M hv (by unfold BIG; omega) ?_
        simp_arith []
        refine W_answer M (by omega) (by omega) (by omega) hv (by unfold sizeLine; omega) ?_
        simp_arith []
        refine W_answer M (by omega) (by omega) (by omega) hv (by unfold sizeLine; omega) ?_
        simp_arith []
        refine W_answer M (by omega) (by omega) (by omega) hv (by unfold sizeLine; omega) ?_
        simp_arith []
        exact ⟨trivial, _, _, rfl⟩
      · obtain ⟨rfl, f, g, rfl⟩ := hI
        simp_arith []
        exact ⟨h8.mono (by omega), _, _, _, _, _, rfl⟩
    · obtain ⟨h3, c, d1, e, f, g, rfl⟩ := hI
      simp_arith []
      exact ⟨_, _, _, _, _, _, _, rfl⟩
  · obtain ⟨a, b, c, d1, e, f, g, rfl⟩ := hI
    simp_arith []
    rw [W_mulT (by simp)]
    simp_arith []
    rw [last_mul, last_e]
    refine W.mono (last_ans (S := S1) (E := Er0)) fun d S2 h => ?_
    obtain ⟨rfl, rfl⟩ := h
    simp_arith []
theorem law_holds : ∀ ns : List Int, ns.length ≤ 63 → (∀ z ∈ ns, PySem.Builtin.Int.intBits z ≤ 1048576) → ∃ S, m_law [.frz (ns.map .int)] [] = .ok (.bl true) S := fun ns h _ => by
  obtain ⟨a, S, e, rfl⟩ := (law_run h).ex
  exact ⟨S, e⟩
end
end MM

open PySem PySem.W PyProof.Rows
set_option maxHeartbeats 0 in
theorem PySem.Challenge.cw_lazytags_k01_answers_of_machines_holds : PySem.Challenge.rw_lazytags_k01_answers_of_machines.Holds := by
  w_on; o_law; k_head; (case hw => w_witness2)
  k_fill
  refine MM.walk_mm (l := PySem.Challenge.rw_lazytags_k01_answers_of_machines) (n := 63) (k := 10) (x := "_law_script") (m := MM.m_law) rfl (by decide) rfl ⟨rfl, by decide, by decide⟩ (fun w h Y => PySem.W.kIn_of Y) ?F MM.law_holds
  case F =>
    intro w mg fa h Y KX G hmg N
    refine' MM.law_mk KX G N hmg ?a__law_purse ?l__law_purse ?c__law_purse ?k__law_purse ?a__law_mixed ?l__law_mixed ?c__law_mixed ?k__law_mixed ?a__law_draw ?l__law_draw ?c__law_draw ?k__law_draw ?a__law_machine ?l__law_machine ?c__law_machine ?k__law_machine ?a_is_integer ?l_is_integer ?c_is_integer ?k_is_integer ?a_require_size ?l_require_size ?c_require_size ?k_require_size ?a_is_row ?l_is_row ?c_is_row ?k_is_row ?a_fault_of ?l_fault_of ?c_fault_of ?k_fault_of ?a_check_machine ?l_check_machine ?c_check_machine ?k_check_machine ?a__law_row ?l__law_row ?c__law_row ?k__law_row ?a__law_read ?l__law_read ?c__law_read ?k__law_read ?a__law_answer ?l__law_answer ?c__law_answer ?k__law_answer ?a_size_of ?l_size_of ?c_size_of ?k_size_of ?g_size_of ?v_size_of ?h_size_of ?n_size_of ?q_size_of ?a_require_machine ?l_require_machine ?c_require_machine ?k_require_machine ?a_state_after ?l_state_after ?c_state_after ?k_state_after ?a_answer_on ?l_answer_on ?c_answer_on ?k_answer_on ?a_answer ?l_answer ?c_answer ?k_answer ?a_law ?l_law ?c_law ?k_law ?z_all ?z_bool ?z_enumerate ?z_int ?z_isinstance ?z_len ?z_max ?z_min ?z_next ?z_range ?z_tuple ?y_MOST_ANSWER ?y_MOST_VALUES
    (case a__law_purse => k_is)
    (case l__law_purse => k_is)
    (case c__law_purse => k_is)
    (case k__law_purse => k_is)
    (case a__law_mixed => k_is)
    (case l__law_mixed => k_is)
    (case c__law_mixed => k_is)
    (case k__law_mixed => k_is)
    (case a__law_draw => k_is)
    (case l__law_draw => k_is)
    (case c__law_draw => k_is)
    (case k__law_draw => k_is)
    (case a__law_machine => k_is)
    (case l__law_machine => k_is)
    (case c__law_machine => k_is)
    (case k__law_machine => k_is)
    (case a_is_integer => k_is)
    (case l_is_integer => k_is)
    (case c_is_integer => k_is)
    (case k_is_integer => k_is)
    (case a_require_size => k_is)
    (case l_require_size => k_is)
    (case c_require_size => k_is)
    (case k_require_size => k_is)
    (case a_is_row => k_is)
    (case l_is_row => k_is)
    (case c_is_row => k_is)
    (case k_is_row => k_is)
    (case a_fault_of => k_is)
    (case l_fault_of => k_is)
    (case c_fault_of => k_is)
    (case k_fault_of => k_is)
    (case a_check_machine => k_is)
    (case l_check_machine => k_is)
    (case c_check_machine => k_is)
    (case k_check_machine => k_is)
    (case a__law_row => k_is)
    (case l__law_row => k_is)
    (case c__law_row => k_is)
    (case k__law_row => k_is)
    (case a__law_read => k_is)
    (case l__law_read => k_is)
    (case c__law_read => k_is)
    (case k__law_read => k_is)
    (case a__law_answer => k_is)
    (case l__law_answer => k_is)
    (case c__law_answer => k_is)
    (case k__law_answer => k_is)
    (case a_size_of => k_is)
    (case l_size_of => k_is)
    (case c_size_of => k_is)
    (case k_size_of => k_is)
    (case g_size_of => k_is)
    (case v_size_of => exact rfl)
    (case h_size_of => kernel_rfl)
    (case n_size_of => kernel_rfl)
    (case q_size_of => kernel_rfl)
    (case a_require_machine => k_is)
    (case l_require_machine => k_is)
    (case c_require_machine => k_is)
    (case k_require_machine => k_is)
    (case a_state_after => k_is)
    (case l_state_after => k_is)
    (case c_state_after => k_is)
    (case k_state_after => k_is)
    (case a_answer_on => k_is)
    (case l_answer_on => k_is)
    (case c_answer_on => k_is)
    (case k_answer_on => k_is)
    (case a_answer => k_is)
    (case l_answer => k_is)
    (case c_answer => k_is)
    (case k_answer => k_is)
    (case a_law => k_is)
    (case l_law => k_is)
    (case c_law => k_is)
    (case k_law => k_is)
    (case z_all => k_is)
    (case z_bool => k_is)
    (case z_enumerate => k_is)
    (case z_int => k_is)
    (case z_isinstance => k_is)
    (case z_len => k_is)
    (case z_max => k_is)
    (case z_min => k_is)
    (case z_next => k_is)
    (case z_range => k_is)
    (case z_tuple => k_is)
    (case y_MOST_ANSWER => k_is)
    (case y_MOST_VALUES => k_is)
