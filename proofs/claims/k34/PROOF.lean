import PyProof.Rows.All
import Wide.All
import OpenK.AllK
import Wide.FinOn
import HandS.ForMost
import HandS.IsInst
import HandS.Walk
import HandS.Wide
import HandS.TupAny
import HandS.Exc
import HandS.TryOnly
import HandS.ExcInit
import HandS.WordsExc
import HandS.AnyAll
import HandS.Comp
import KE.GoesEnum
import HandS.GenList
import HandS.EndOwn
import KE.KDictIter
import HandS.TupMul
import HandS.Small
import HandS.Dict
import HandS.WordsDict
import HandS.Property
import HandS.Defaults
import HandS.MakeKwOnly
import HandS.Text
import HandS.Style
import HandS.WideBits
import HandS.Conv
import HandS.More
import HandS.Deep
import HandS.SortInts
import HandS.Iter
import HandS.SetFor
import HandS.DictComp
import HandS.EndTab
import PySem.Challenge.RW_lazytags_k34_idle_steps_and_swaps
set_option Elab.async false
set_option autoImplicit false
set_option linter.all false
set_option maxHeartbeats 4000000
set_option maxRecDepth 100000
/-! The mirror layer: plain data D, a store of mutable objects, computations over it, and their tie to the readings of HandS. -/
namespace MM
open PySem L2

/-! ### data -/
inductive D where
  | non | bl (b : Bool) | int (i : Int) | str (s : Str)
  | tup (xs : List D) | lst (xs : List D)
  /-- a list that is read alone (the script) -/
  | frz (xs : List D)
  | ref (n : Nat)
/-- a mutable object -/
inductive O where
  | lst (xs : List D)
  /-- a dict by texts and ints, one by tuples of such -/
  | dct (kvs : List (L2.Key × D))
  | dcT (kvs : List (List L2.Key × D))
  /-- an instance of the class of that name, its attributes -/
  | ins (c : Str) (fs : List (Str × D))
abbrev Store := List O
/-- an error: its class's name, its field -/
structure Er where
  cls : Str
  arg : Option D
inductive Res (α : Type) where
  | ok (a : α) (S : Store)
  | exc (e : Er) (S : Store)
  | bad
def Res.bind {α β : Type} (r : Res α) (k : α → Store → Res β) : Res β :=
  match r with
  | .ok a S => k a S
  | .exc e S => .exc e S
  | .bad => .bad
@[simp] theorem Res.bind_ok {α β : Type} (a : α) (S : Store) (k : α → Store → Res β) : (Res.ok a S).bind k = k a S := rfl
@[simp] theorem Res.bind_exc {α β : Type} (e : Er) (S : Store) (k : α → Store → Res β) : (Res.exc e S : Res α).bind k = .exc e S := rfl
@[simp] theorem Res.bind_bad {α β : Type} (k : α → Store → Res β) : (Res.bad : Res α).bind k = .bad := rfl
abbrev Rho := List (Option D)
/-- an expression's mirror; a test's; a list of arguments' -/
abbrev ME0 := Rho → Store → Res D
abbrev MT0 := Rho → Store → Res Bool
abbrev MA0 := Rho → Store → Res (List D)
inductive Fl where
  | nx | rt (d : D) | bk | ct
abbrev MS0 := Rho → Store → Res (Fl × Rho)

/-! ### the tie to the abstract heap -/
structure Gd where
  K : PySem.W.Frag
  mg : Str → Option Value
  /-- the tables of code objects that may grow -/
  tabs : List Addr
/-- a list that is read alone: frozen, or the module's -/
def Fz (K : PySem.W.Frag) (R φ : List Addr) (H : Hp) (a : Addr) (vs : List V) : Prop :=
  (a ∉ φ ∧ a ∉ R ∧ Rd H a (.lst vs)) ∨ ∃ (o : Obj) (its : Array Value) (n : Nat), K.lookup a = some o ∧ o.cls = .type "list" ∧ o.dict = none ∧ o.data = .seq its n ∧ its.size ≤ sizeLine ∧ Vals vs its.toList
theorem Fz.sq {K : PySem.W.Frag} {R φ : List Addr} {H : Hp} {a : Addr} {vs : List V} (h : Fz K R φ H a vs) : SqL K H a vs := by
  rcases h with ⟨_, _, h⟩ | h
  · exact .inl h
  · exact .inr h
mutual
/-- φ: the addresses of the store's objects; R: addresses that are kept apart -/
def Rv (G : Gd) (R φ : List Addr) (H : Hp) : D → V → Prop
  | .non, v => v = .non
  | .bl b, v => v = .bl b
  | .int i, v => v = .int i
  | .str s, v => v = .str s
  | .tup ds, v => ∃ a vs, v = .ref a ∧ H a = some (.tup vs) ∧ RvL G R φ H ds vs
  | .lst ds, v => ∃ a vs, v = .ref a ∧ a ∉ φ ∧ a ∉ R ∧ H a = some (.lst vs) ∧ RvL G R φ H ds vs
  | .frz ds, v => ∃ a vs, v = .ref a ∧ Fz G.K R φ H a vs ∧ RvL G R φ H ds vs
  | .ref n, v => ∃ a, v = .ref a ∧ φ[n]? = some a
def RvL (G : Gd) (R φ : List Addr) (H : Hp) : List D → List V → Prop
  | [], vs => vs = []
  | d :: ds, vs => ∃ v r, vs = v :: r ∧ Rv G R φ H d v ∧ RvL G R φ H ds r
end
/-- what is held in an object -/
def kids : O → List D
  | .lst ds => ds
  | .dct kvs => kvs.map (·.2)
  | .dcT kvs => kvs.map (·.2)
  | .ins _ fs => fs.map (·.2)
/-- the object with these values in it, as the heap has it -/
def Sh (G : Gd) : O → List V → HO → Prop
  | .lst _, vs, u => u = .lst vs
  | .dct kvs, vs, u => u = .dK ((kvs.map (·.1)).zip vs)
  | .dcT kvs, vs, u => u = .dT ((kvs.map (·.1)).zip vs)
  | .ins c fs, vs, u => ∃ C dx, G.mg c = some (.ref C) ∧ u = .ins C dx ((fs.map (·.1)).zip vs)
def Ro (G : Gd) (R φ : List Addr) (H : Hp) (o : O) (a : Addr) : Prop := ∃ vs u, H a = some u ∧ Sh G o vs u ∧ RvL G R φ H (kids o) vs
/-- objects of the store never are these -/
def HO.free : HO → Bool
  | .tup _ => false
  | .tbl _ => false
  | .frz _ _ => false
  | _ => true
theorem Sh.free {G : Gd} {o : O} {vs : List V} {u : HO} (h : Sh G o vs u) : HO.free u = true := by
  cases o with
  | lst ds => rw [show u = .lst vs from h]; rfl
  | dct ds => rw [show u = .dK _ from h]; rfl
  | dcT ds => rw [show u = .dT _ from h]; rfl
  | ins c fs => obtain ⟨C, dx, _, h⟩ := h; rw [h]; rfl
theorem Ro.mkL {G : Gd} {R φ : List Addr} {H : Hp} {ds : List D} {vs : List V} {a : Addr} (e : H a = some (.lst vs)) (r : RvL G R φ H ds vs) : Ro G R φ H (.lst ds) a := ⟨vs, _, e, rfl, r⟩
theorem Ro.ofL {G : Gd} {R φ : List Addr} {H : Hp} {ds : List D} {a : Addr} (h : Ro G R φ H (.lst ds) a) : ∃ vs, H a = some (.lst vs) ∧ RvL G R φ H ds vs := by
  obtain ⟨vs, u, e, sh, r⟩ := h
  have sh' : u = .lst vs := sh
  subst sh'
  exact ⟨vs, e, r⟩
structure Rs (G : Gd) (R φ : List Addr) (S : Store) (H : Hp) : Prop where
  nd : φ.Nodup
  len : φ.length = S.length
  apart : ∀ a ∈ φ, a ∉ R
  obj : ∀ (i : Nat) o a, S[i]? = some o → φ[i]? = some a → Ro G R φ H o a
  res : ∀ a ∈ R, H a ≠ none
  tabs : ∀ p ∈ G.tabs, GxR.TabG H p
/-- what may change: the store's objects; new ones may come -/
structure Le (φ : List Addr) (H : Hp) (φ' : List Addr) (H' : Hp) : Prop where
  pre : ∃ r, φ' = φ ++ r
  keep : ∀ a o, H a = some o → a ∉ φ → (∀ ps, o ≠ .tbl ps) → H' a = some o ∧ a ∉ φ'
  tups : ∀ a vs, H a = some (.tup vs) → H' a = some (.tup vs)
  ne : ∀ a, H a ≠ none → H' a ≠ none
  tab : ∀ a, GxR.TabG H a → GxR.TabG H' a
theorem Le.refl {φ : List Addr} {H : Hp} : Le φ H φ H := ⟨⟨[], (List.append_nil _).symm⟩, fun _ _ h n _ => ⟨h, n⟩, fun _ _ h => h, fun _ h => h, fun _ h => h⟩
theorem Le.trans {φ φ1 φ2 : List Addr} {H H1 H2 : Hp} (a : Le φ H φ1 H1) (b : Le φ1 H1 φ2 H2) : Le φ H φ2 H2 := by
  obtain ⟨r1, e1⟩ := a.pre
  obtain ⟨r2, e2⟩ := b.pre
  refine ⟨⟨r1 ++ r2, by rw [e2, e1, List.append_assoc]⟩, fun c o h n q => ?_, fun c vs h => b.tups c vs (a.tups c vs h), fun c h => b.ne c (a.ne c h), fun c h => b.tab c (a.tab c h)⟩
  obtain ⟨h1, n1⟩ := a.keep c o h n q
  exact b.keep c o h1 n1 q
theorem SqT.le {G : Gd} {φ φ' : List Addr} {H H' : Hp} {a : Addr} {vs : List V} (l : Le φ H φ' H') (h : H a = some (.tup vs)) : SqT G.K H' a vs := .inl (.inl (l.tups a vs h))
theorem Fz.le {K : PySem.W.Frag} {R φ φ' : List Addr} {H H' : Hp} {a : Addr} {vs : List V} (l : Le φ H φ' H') (h : Fz K R φ H a vs) : Fz K R φ' H' a vs := by
  rcases h with ⟨n1, n2, h | ⟨o, h⟩⟩ | h
  · obtain ⟨k1, k2⟩ := l.keep a _ h n1 (fun _ z => nomatch z)
    exact .inl ⟨k2, n2, .inl k1⟩
  · obtain ⟨k1, k2⟩ := l.keep a _ h n1 (fun _ z => nomatch z)
    exact .inl ⟨k2, n2, .inr ⟨o, k1⟩⟩
  · exact .inr h
mutual
theorem Rv.le {G : Gd} {R φ φ' : List Addr} {H H' : Hp} (l : Le φ H φ' H') : ∀ {d : D} {v : V}, Rv G R φ H d v → Rv G R φ' H' d v
  | .non, v, h => by unfold Rv at h ⊢; exact h
  | .bl b, v, h => by unfold Rv at h ⊢; exact h
  | .int i, v, h => by unfold Rv at h ⊢; exact h
  | .str s, v, h => by unfold Rv at h ⊢; exact h
  | .tup ds, v, h => by
    unfold Rv at h ⊢
    obtain ⟨a, vs, e, h1, h2⟩ := h
    exact ⟨a, vs, e, l.tups a vs h1, RvL.le l h2⟩
  | .lst ds, v, h => by
    unfold Rv at h ⊢
    obtain ⟨a, vs, e, n1, n2, h1, h2⟩ := h
    obtain ⟨k1, k2⟩ := l.keep a _ h1 n1 (fun _ z => nomatch z)
    exact ⟨a, vs, e, k2, n2, k1, RvL.le l h2⟩
  | .frz ds, v, h => by
    unfold Rv at h ⊢
    obtain ⟨a, vs, e, h1, h2⟩ := h
    exact ⟨a, vs, e, Fz.le l h1, RvL.le l h2⟩
  | .ref n, v, h => by
    unfold Rv at h ⊢
    obtain ⟨a, e, h1⟩ := h
    obtain ⟨r, er⟩ := l.pre
    refine ⟨a, e, ?_⟩
    rw [er]
    obtain ⟨hl, _⟩ := List.getElem?_eq_some_iff.mp h1
    rw [List.getElem?_append_left hl]
    exact h1
theorem RvL.le {G : Gd} {R φ φ' : List Addr} {H H' : Hp} (l : Le φ H φ' H') : ∀ {ds : List D} {vs : List V}, RvL G R φ H ds vs → RvL G R φ' H' ds vs
  | [], vs, h => by unfold RvL at h ⊢; exact h
  | d :: ds, vs, h => by
    unfold RvL at h ⊢
    obtain ⟨v, r, e, h1, h2⟩ := h
    exact ⟨v, r, e, Rv.le l h1, RvL.le l h2⟩
end
section
variable {G : Gd} {R φ φ' : List Addr} {S S' : Store} {H H' : Hp}
theorem RvL.length : ∀ {ds : List D} {vs : List V}, RvL G R φ H ds vs → ds.length = vs.length
  | [], vs, h => by unfold RvL at h; subst h; rfl
  | d :: ds, vs, h => by
    unfold RvL at h
    obtain ⟨v, r, e, _, h2⟩ := h
    subst e
    rw [List.length_cons, List.length_cons, RvL.length h2]
theorem RvL.get : ∀ {ds : List D} {vs : List V} {i : Nat} {d : D}, RvL G R φ H ds vs → ds[i]? = some d → ∃ v, vs[i]? = some v ∧ Rv G R φ H d v
  | [], vs, i, d, h, e => by simp at e
  | x :: ds, vs, 0, d, h, e => by
    unfold RvL at h
    obtain ⟨v, r, rfl, h1, _⟩ := h
    have e' : x = d := by simpa using e
    subst e'
    exact ⟨v, rfl, h1⟩
  | x :: ds, vs, i + 1, d, h, e => by
    unfold RvL at h
    obtain ⟨v, r, rfl, _, h2⟩ := h
    obtain ⟨u, e1, e2⟩ := RvL.get (i := i) h2 (by simpa using e)
    exact ⟨u, by simpa using e1, e2⟩
theorem RvL.getV : ∀ {ds : List D} {vs : List V} {i : Nat} {v : V}, RvL G R φ H ds vs → vs[i]? = some v → ∃ d, ds[i]? = some d ∧ Rv G R φ H d v := fun {ds vs i v} h e => by
  obtain ⟨hl, _⟩ := List.getElem?_eq_some_iff.mp e
  have hd : i < ds.length := by rw [RvL.length h]; exact hl
  obtain ⟨u, e1, e2⟩ := RvL.get h (List.getElem?_eq_getElem hd)
  rw [e] at e1
  cases e1
  exact ⟨_, List.getElem?_eq_getElem hd, e2⟩
theorem RvL.nil : RvL G R φ H [] [] := by unfold RvL; rfl
theorem RvL.cons {d : D} {ds : List D} {v : V} {vs : List V} (h : Rv G R φ H d v) (t : RvL G R φ H ds vs) : RvL G R φ H (d :: ds) (v :: vs) := by
  unfold RvL
  exact ⟨v, vs, rfl, h, t⟩
theorem RvL.append : ∀ {ds es : List D} {vs us : List V}, RvL G R φ H ds vs → RvL G R φ H es us → RvL G R φ H (ds ++ es) (vs ++ us)
  | [], es, vs, us, h, t => by unfold RvL at h; subst h; exact t
  | d :: ds, es, vs, us, h, t => by
    unfold RvL at h
    obtain ⟨v, r, rfl, h1, h2⟩ := h
    exact RvL.cons h1 (RvL.append h2 t)
theorem RvL.set : ∀ {ds : List D} {vs : List V} {i : Nat} {d : D} {v : V}, RvL G R φ H ds vs → Rv G R φ H d v → RvL G R φ H (ds.set i d) (vs.set i v)
  | [], vs, i, d, v, h, r => by unfold RvL at h; subst h; exact RvL.nil
  | x :: ds, vs, 0, d, v, h, r => by
    unfold RvL at h
    obtain ⟨u, t, rfl, h1, h2⟩ := h
    exact RvL.cons r h2
  | x :: ds, vs, i + 1, d, v, h, r => by
    unfold RvL at h
    obtain ⟨u, t, rfl, h1, h2⟩ := h
    exact RvL.cons h1 (RvL.set h2 r)
theorem RvL.drop : ∀ {ds : List D} {vs : List V} (n : Nat), RvL G R φ H ds vs → RvL G R φ H (ds.drop n) (vs.drop n)
  | _, _, 0, h => h
  | [], vs, n + 1, h => by unfold RvL at h; subst h; exact RvL.nil
  | x :: ds, vs, n + 1, h => by
    unfold RvL at h
    obtain ⟨u, t, rfl, h1, h2⟩ := h
    exact RvL.drop n h2
theorem RvL.take : ∀ {ds : List D} {vs : List V} (n : Nat), RvL G R φ H ds vs → RvL G R φ H (ds.take n) (vs.take n)
  | _, _, 0, h => RvL.nil
  | [], vs, n + 1, h => by unfold RvL at h; subst h; exact RvL.nil
  | x :: ds, vs, n + 1, h => by
    unfold RvL at h
    obtain ⟨u, t, rfl, h1, h2⟩ := h
    exact RvL.cons h1 (RvL.take n h2)
theorem RvL.reverse : ∀ {ds : List D} {vs : List V}, RvL G R φ H ds vs → RvL G R φ H ds.reverse vs.reverse
  | [], vs, h => by unfold RvL at h; subst h; exact RvL.nil
  | x :: ds, vs, h => by
    unfold RvL at h
    obtain ⟨u, t, rfl, h1, h2⟩ := h
    rw [List.reverse_cons, List.reverse_cons]
    exact RvL.append (RvL.reverse h2) (RvL.cons h1 RvL.nil)
/-- the environment -/
structure Rn (G : Gd) (R φ : List Addr) (H : Hp) (ρ : Rho) (σ : L2.St) : Prop where
  len : ρ.length = σ.length
  get : ∀ (i : Nat) (d : D), ρ[i]? = some (some d) → ∃ v, σ[i]? = some (some v) ∧ Rv G R φ H d v
theorem Rn.le (l : Le φ H φ' H') {ρ : Rho} {σ : L2.St} (r : Rn G R φ H ρ σ) : Rn G R φ' H' ρ σ := ⟨r.len, fun i d e => by
  obtain ⟨v, e1, e2⟩ := r.get i d e
  exact ⟨v, e1, Rv.le l e2⟩⟩
theorem Rn.set {ρ : Rho} {σ : L2.St} (r : Rn G R φ H ρ σ) {i : Nat} {d : D} {v : V} (h : Rv G R φ H d v) : Rn G R φ H (ρ.set i (some d)) (σ.set i (some v)) := by
  refine ⟨by rw [List.length_set, List.length_set]; exact r.len, fun j e q => ?_⟩
  by_cases hj : i = j
  · subst hj
    by_cases hl : i < ρ.length
    · rw [List.getElem?_set_self hl] at q
      cases q
      exact ⟨v, List.getElem?_set_self (by rw [← r.len]; exact hl), h⟩
    · rw [List.getElem?_eq_none (by rw [List.length_set]; omega)] at q
      cases q
  · rw [List.getElem?_set_ne hj] at q ⊢
    exact r.get j e q
theorem Rn.set_none {ρ : Rho} {σ : L2.St} (r : Rn G R φ H ρ σ) {i : Nat} {o : Option V} : Rn G R φ H (ρ.set i none) (σ.set i o) := by
  refine ⟨by rw [List.length_set, List.length_set]; exact r.len, fun j e q => ?_⟩
  by_cases hj : i = j
  · subst hj
    by_cases hl : i < ρ.length
    · rw [List.getElem?_set_self hl] at q
      cases q
    · rw [List.getElem?_eq_none (by rw [List.length_set]; omega)] at q
      cases q
  · rw [List.getElem?_set_ne hj] at q ⊢
    exact r.get j e q
end
section
variable {G : Gd} {R R' φ φ' : List Addr} {S S' : Store} {H H' : Hp}
mutual
/-- other addresses kept apart: those that were free -/
theorem Rv.reR (hR : ∀ a ∈ R', a ∈ R ∨ H a = none) : ∀ {d : D} {v : V}, Rv G R φ H d v → Rv G R' φ H d v
  | .non, v, h => by unfold Rv at h ⊢; exact h
  | .bl b, v, h => by unfold Rv at h ⊢; exact h
  | .int i, v, h => by unfold Rv at h ⊢; exact h
  | .str s, v, h => by unfold Rv at h ⊢; exact h
  | .tup ds, v, h => by
    unfold Rv at h ⊢
    obtain ⟨a, vs, e, h1, h2⟩ := h
    exact ⟨a, vs, e, h1, RvL.reR hR h2⟩
  | .lst ds, v, h => by
    unfold Rv at h ⊢
    obtain ⟨a, vs, e, n1, n2, h1, h2⟩ := h
    refine ⟨a, vs, e, n1, fun z => ?_, h1, RvL.reR hR h2⟩
    rcases hR a z with q | q
    · exact n2 q
    · rw [h1] at q
      cases q
  | .frz ds, v, h => by
    unfold Rv at h ⊢
    obtain ⟨a, vs, e, h1, h2⟩ := h
    refine ⟨a, vs, e, ?_, RvL.reR hR h2⟩
    rcases h1 with ⟨n1, n2, h1⟩ | h1
    · refine .inl ⟨n1, fun z => ?_, h1⟩
      rcases hR a z with q | q
      · exact n2 q
      · rcases h1 with h1 | ⟨o, h1⟩
        · rw [h1] at q
          cases q
        · rw [h1] at q
          cases q
    · exact .inr h1
  | .ref n, v, h => by unfold Rv at h ⊢; exact h
theorem RvL.reR (hR : ∀ a ∈ R', a ∈ R ∨ H a = none) : ∀ {ds : List D} {vs : List V}, RvL G R φ H ds vs → RvL G R' φ H ds vs
  | [], vs, h => by unfold RvL at h ⊢; exact h
  | d :: ds, vs, h => by
    unfold RvL at h ⊢
    obtain ⟨v, r, e, h1, h2⟩ := h
    exact ⟨v, r, e, Rv.reR hR h1, RvL.reR hR h2⟩
end
mutual
/-- an address kept apart becomes the store's -/
theorem Rv.own {p : Addr} : ∀ {d : D} {v : V}, Rv G (p :: R) φ H d v → Rv G R (φ ++ [p]) H d v
  | .non, v, h => by unfold Rv at h ⊢; exact h
  | .bl b, v, h => by unfold Rv at h ⊢; exact h
  | .int i, v, h => by unfold Rv at h ⊢; exact h
  | .str s, v, h => by unfold Rv at h ⊢; exact h
  | .tup ds, v, h => by
    unfold Rv at h ⊢
    obtain ⟨a, vs, e, h1, h2⟩ := h
    exact ⟨a, vs, e, h1, RvL.own h2⟩
  | .lst ds, v, h => by
    unfold Rv at h ⊢
    obtain ⟨a, vs, e, n1, n2, h1, h2⟩ := h
    refine ⟨a, vs, e, fun z => ?_, fun z => n2 (List.mem_cons_of_mem _ z), h1, RvL.own h2⟩
    rcases List.mem_append.mp z with q | q
    · exact n1 q
    · exact n2 (by rw [List.mem_singleton.mp q]; exact List.mem_cons_self)
  | .frz ds, v, h => by
    unfold Rv at h ⊢
    obtain ⟨a, vs, e, h1, h2⟩ := h
    refine ⟨a, vs, e, ?_, RvL.own h2⟩
    rcases h1 with ⟨n1, n2, h1⟩ | h1
    · refine .inl ⟨fun z => ?_, fun z => n2 (List.mem_cons_of_mem _ z), h1⟩
      rcases List.mem_append.mp z with q | q
      · exact n1 q
      · exact n2 (by rw [List.mem_singleton.mp q]; exact List.mem_cons_self)
    · exact .inr h1
  | .ref n, v, h => by
    unfold Rv at h ⊢
    obtain ⟨a, e, h1⟩ := h
    refine ⟨a, e, ?_⟩
    rw [List.getElem?_append_left (List.getElem?_eq_some_iff.mp h1).1]
    exact h1
theorem RvL.own {p : Addr} : ∀ {ds : List D} {vs : List V}, RvL G (p :: R) φ H ds vs → RvL G R (φ ++ [p]) H ds vs
  | [], vs, h => by unfold RvL at h ⊢; exact h
  | d :: ds, vs, h => by
    unfold RvL at h ⊢
    obtain ⟨v, r, e, h1, h2⟩ := h
    exact ⟨v, r, e, Rv.own h1, RvL.own h2⟩
end
mutual
/-- a list kept apart is written -/
theorem Rv.upR {p : Addr} {us : List V} (h1 : ∀ b u, H b = some u → b ≠ p → H' b = some u) (h2 : H p = some (.lst us)) (h3 : p ∈ R) : ∀ {d : D} {v : V}, Rv G R φ H d v → Rv G R φ H' d v
  | .non, v, h => by unfold Rv at h ⊢; exact h
  | .bl b, v, h => by unfold Rv at h ⊢; exact h
  | .int i, v, h => by unfold Rv at h ⊢; exact h
  | .str s, v, h => by unfold Rv at h ⊢; exact h
  | .tup ds, v, h => by
    unfold Rv at h ⊢
    obtain ⟨a, vs, e, q1, q2⟩ := h
    exact ⟨a, vs, e, h1 a _ q1 (ne_of q1 h2 (fun z => nomatch z)), RvL.upR h1 h2 h3 q2⟩
  | .lst ds, v, h => by
    unfold Rv at h ⊢
    obtain ⟨a, vs, e, n1, n2, q1, q2⟩ := h
    exact ⟨a, vs, e, n1, n2, h1 a _ q1 (fun z => n2 (by rw [z]; exact h3)), RvL.upR h1 h2 h3 q2⟩
  | .frz ds, v, h => by
    unfold Rv at h ⊢
    obtain ⟨a, vs, e, q1, q2⟩ := h
    refine ⟨a, vs, e, ?_, RvL.upR h1 h2 h3 q2⟩
    rcases q1 with ⟨n1, n2, q1 | ⟨o, q1⟩⟩ | q1
    · exact .inl ⟨n1, n2, .inl (h1 a _ q1 (fun z => n2 (by rw [z]; exact h3)))⟩
    · exact .inl ⟨n1, n2, .inr ⟨o, h1 a _ q1 (fun z => n2 (by rw [z]; exact h3))⟩⟩
    · exact .inr q1
  | .ref n, v, h => by unfold Rv at h ⊢; exact h
theorem RvL.upR {p : Addr} {us : List V} (h1 : ∀ b u, H b = some u → b ≠ p → H' b = some u) (h2 : H p = some (.lst us)) (h3 : p ∈ R) : ∀ {ds : List D} {vs : List V}, RvL G R φ H ds vs → RvL G R φ H' ds vs
  | [], vs, h => by unfold RvL at h ⊢; exact h
  | d :: ds, vs, h => by
    unfold RvL at h ⊢
    obtain ⟨v, r, e, q1, q2⟩ := h
    exact ⟨v, r, e, Rv.upR h1 h2 h3 q1, RvL.upR h1 h2 h3 q2⟩
end
theorem Rn.reR (hR : ∀ a ∈ R', a ∈ R ∨ H a = none) {ρ : Rho} {σ : L2.St} (r : Rn G R φ H ρ σ) : Rn G R' φ H ρ σ := ⟨r.len, fun i d e => by
  obtain ⟨v, e1, e2⟩ := r.get i d e
  exact ⟨v, e1, Rv.reR hR e2⟩⟩
theorem Ro.reR (hR : ∀ a ∈ R', a ∈ R ∨ H a = none) {o : O} {a : Addr} (h : Ro G R φ H o a) : Ro G R' φ H o a := by
  obtain ⟨vs, u, e, sh, r⟩ := h
  exact ⟨vs, u, e, sh, RvL.reR hR r⟩
theorem Ro.own {p : Addr} {o : O} {a : Addr} (h : Ro G (p :: R) φ H o a) : Ro G R (φ ++ [p]) H o a := by
  obtain ⟨vs, u, e, sh, r⟩ := h
  exact ⟨vs, u, e, sh, RvL.own r⟩
end
section
variable {G : Gd} {R φ φ' : List Addr} {S S' : Store} {H H' : Hp}
/-- a new object that the store does not know -/
theorem Le.new (r : Rs G R φ S H) {p : Addr} {o : HO} (h : H p = none) : Le φ H φ (upd H p o) := by
  refine ⟨⟨[], (List.append_nil _).symm⟩, fun a u e n _ => ⟨by rw [upd_ne (ne_of_none e h)]; exact e, n⟩, fun a vs e => by rw [upd_ne (ne_of_none e h)]; exact e, fun a e => ?_, fun a ⟨ps, e, t⟩ => ⟨ps, by rw [upd_ne (ne_of_none e h)]; exact e, t⟩⟩
  · by_cases hp : a = p
    · subst hp
      rw [upd_same]
      exact fun z => nomatch z
    · rw [upd_ne hp]
      exact e
theorem Rs.at (r : Rs G R φ S H) {a : Addr} (h : a ∈ φ) : ∃ (i : Nat) (o : O), φ[i]? = some a ∧ S[i]? = some o ∧ Ro G R φ H o a := by
  obtain ⟨i, hi⟩ := List.mem_iff_getElem?.mp h
  have hl : i < S.length := by
    rw [← r.len]
    exact (List.getElem?_eq_some_iff.mp hi).1
  exact ⟨i, _, hi, List.getElem?_eq_getElem hl, r.obj i _ a (List.getElem?_eq_getElem hl) hi⟩
theorem Ro.there {o : O} {a : Addr} (h : Ro G R φ H o a) : ∃ u, H a = some u := by
  obtain ⟨vs, u, e, _⟩ := h
  exact ⟨u, e⟩
theorem Rs.fresh (r : Rs G R φ S H) {p : Addr} (h : H p = none) : p ∉ φ ∧ p ∉ R := by
  refine ⟨fun z => ?_, fun z => r.res p z h⟩
  obtain ⟨i, o, _, _, ro⟩ := r.at z
  obtain ⟨u, e⟩ := Ro.there ro
  rw [h] at e
  cases e
theorem Ro.le (l : Le φ H φ' H') {o : O} {a : Addr} (h : Ro G R φ H o a) (k : H' a = H a) : Ro G R φ' H' o a := by
  obtain ⟨vs, u, e, sh, r⟩ := h
  exact ⟨vs, u, k.trans e, sh, RvL.le l r⟩
theorem Rs.reserve (r : Rs G R φ S H) {p : Addr} {o : HO} (h : H p = none) : Rs G (p :: R) φ S (upd H p o) := by
  have l := Le.new r (o := o) h
  have fr := r.fresh h
  refine ⟨r.nd, r.len, fun a ha z => ?_, fun i u a e1 e2 => ?_, fun a ha => ?_, fun a ha => l.tab a (r.tabs a ha)⟩
  · rcases List.mem_cons.mp z with z | z
    · exact fr.1 (z ▸ ha)
    · exact r.apart a ha z
  · have ro := Ro.reR (R' := p :: R) (fun b hb => (List.mem_cons.mp hb).elim (fun z => .inr (by rw [z]; exact h)) .inl) (r.obj i u a e1 e2)
    refine Ro.le l ro (upd_ne ?_)
    rintro rfl
    exact fr.1 (List.mem_iff_getElem?.mpr ⟨i, e2⟩)
  · rcases List.mem_cons.mp ha with z | z
    · rw [z, upd_same]
      exact fun q => nomatch q
    · exact l.ne a (r.res a z)
theorem Rs.release {p : Addr} (r : Rs G (p :: R) φ S H) : Rs G R φ S H := by
  have hR : ∀ a ∈ R, a ∈ p :: R ∨ H a = none := fun a ha => .inl (List.mem_cons_of_mem _ ha)
  exact ⟨r.nd, r.len, fun a ha z => r.apart a ha (List.mem_cons_of_mem _ z), fun i u a e1 e2 => Ro.reR hR (r.obj i u a e1 e2), fun a ha => r.res a (List.mem_cons_of_mem _ ha), r.tabs⟩
/-- what was kept apart becomes the store's -/
theorem Rs.own {p : Addr} {o : O} (r : Rs G (p :: R) φ S H) (hp : p ∉ R) (ro : Ro G R (φ ++ [p]) H o p) : Rs G R (φ ++ [p]) (S ++ [o]) H := by
  have np : p ∉ φ := fun z => r.apart p z List.mem_cons_self
  refine ⟨?_, by rw [List.length_append, List.length_append, r.len]; rfl, fun a ha => ?_, fun i u a e1 e2 => ?_, fun a ha => r.res a (List.mem_cons_of_mem _ ha), r.tabs⟩
  · rw [List.nodup_append]
    exact ⟨r.nd, by simp, fun a ha b hb e => np (by have := List.mem_singleton.mp hb; rw [← this, ← e]; exact ha)⟩
  · rcases List.mem_append.mp ha with z | z
    · exact fun q => r.apart a z (List.mem_cons_of_mem _ q)
    · rw [List.mem_singleton.mp z]
      exact hp
  · by_cases hi : i < φ.length
    · rw [List.getElem?_append_left hi] at e2
      rw [List.getElem?_append_left (by rw [← r.len]; exact hi)] at e1
      exact Ro.own (r.obj i u a e1 e2)
    · rw [List.getElem?_append_right (by omega)] at e2
      rw [List.getElem?_append_right (by rw [← r.len]; omega), ← r.len] at e1
      have e0 : i - φ.length = 0 := by
        have := (List.getElem?_eq_some_iff.mp e2).1
        simp at this
        omega
      rw [e0] at e1 e2
      cases e1
      cases e2
      exact ro
theorem Rs.new (r : Rs G R φ S H) {p : Addr} {o : HO} (h : H p = none) : Rs G R φ S (upd H p o) := by
  have l := Le.new r (o := o) h
  refine ⟨r.nd, r.len, r.apart, fun i u a e1 e2 => ?_, fun a ha => l.ne a (r.res a ha), fun a ha => l.tab a (r.tabs a ha)⟩
  refine Ro.le l (r.obj i u a e1 e2) (upd_ne ?_)
  rintro rfl
  exact (r.fresh h).1 (List.mem_iff_getElem?.mpr ⟨i, e2⟩)
/-- a new store object -/
theorem Le.alloc (r : Rs G R φ S H) {p : Addr} {o : HO} (h : H p = none) : Le φ H (φ ++ [p]) (upd H p o) := by
  have l := Le.new r (o := o) h
  refine ⟨⟨[p], rfl⟩, fun a u e n q => ⟨(l.keep a u e n q).1, fun z => ?_⟩, l.tups, l.ne, l.tab⟩
  rcases List.mem_append.mp z with z | z
  · exact n z
  · exact ne_of_none e h (List.mem_singleton.mp z)
theorem Rs.alloc (r : Rs G R φ S H) {p : Addr} {ho : HO} {o : O} (h : H p = none) (ro : Ro G R (φ ++ [p]) (upd H p ho) o p) : Rs G R (φ ++ [p]) (S ++ [o]) (upd H p ho) := by
  have l := Le.alloc r (o := ho) h
  have fr := r.fresh h
  refine ⟨?_, by rw [List.length_append, List.length_append, r.len]; rfl, fun a ha => ?_, fun i u a e1 e2 => ?_, fun a ha => l.ne a (r.res a ha), fun a ha => l.tab a (r.tabs a ha)⟩
  · rw [List.nodup_append]
    exact ⟨r.nd, by simp, fun a ha b hb e => fr.1 (by have := List.mem_singleton.mp hb; rw [← this, ← e]; exact ha)⟩
  · rcases List.mem_append.mp ha with z | z
    · exact r.apart a z
    · rw [List.mem_singleton.mp z]
      exact fr.2
  · by_cases hi : i < φ.length
    · rw [List.getElem?_append_left hi] at e2
      rw [List.getElem?_append_left (by rw [← r.len]; exact hi)] at e1
      refine Ro.le l (r.obj i u a e1 e2) (upd_ne ?_)
      rintro rfl
      exact fr.1 (List.mem_iff_getElem?.mpr ⟨i, e2⟩)
    · rw [List.getElem?_append_right (by omega)] at e2
      rw [List.getElem?_append_right (by rw [← r.len]; omega), ← r.len] at e1
      have e0 : i - φ.length = 0 := by
        have := (List.getElem?_eq_some_iff.mp e2).1
        simp at this
        omega
      rw [e0] at e1 e2
      cases e1
      cases e2
      exact ro
/-- a store object is written -/
theorem Le.write (r : Rs G R φ S H) {n : Nat} {a : Addr} {o : HO} (h : φ[n]? = some a) : Le φ H φ (upd H a o) := by
  have ha : a ∈ φ := List.mem_iff_getElem?.mpr ⟨n, h⟩
  refine ⟨⟨[], (List.append_nil _).symm⟩, fun b u e nb _ => ⟨?_, nb⟩, fun b vs e => ?_, fun b e => ?_, fun b ⟨ps, e, t⟩ => ⟨ps, ?_, t⟩⟩
  · rw [upd_ne (show b ≠ a from fun z => nb (by rw [z]; exact ha))]
    exact e
  · have nb : b ≠ a := by
      rintro rfl
      obtain ⟨i, ob, _, _, ro⟩ := r.at ha
      obtain ⟨ws, u, e1, sh, _⟩ := ro
      have fr := sh.free
      rw [e1] at e
      cases e
      cases fr
    rw [upd_ne nb]
    exact e
  · by_cases hp : b = a
    · subst hp
      rw [upd_same]
      exact fun z => nomatch z
    · rw [upd_ne hp]
      exact e
  · have nb : b ≠ a := by
      rintro rfl
      obtain ⟨i, ob, _, _, ro⟩ := r.at ha
      obtain ⟨ws, u, e1, sh, _⟩ := ro
      have fr := sh.free
      rw [e1] at e
      cases e
      cases fr
    rw [upd_ne nb]
    exact e
theorem Rs.write (r : Rs G R φ S H) {n : Nat} {a : Addr} {ho : HO} {o : O} (h : φ[n]? = some a) (ro : Ro G R φ (upd H a ho) o a) : Rs G R φ (S.set n o) (upd H a ho) := by
  have l := Le.write r (o := ho) h
  refine ⟨r.nd, by rw [List.length_set]; exact r.len, r.apart, fun i u b e1 e2 => ?_, fun b hb => l.ne b (r.res b hb), fun b hb => l.tab b (r.tabs b hb)⟩
  by_cases hi : n = i
  · subst hi
    rw [h] at e2
    cases e2
    rw [List.getElem?_set_self (by rw [← r.len]; exact (List.getElem?_eq_some_iff.mp h).1)] at e1
    cases e1
    exact ro
  · rw [List.getElem?_set_ne hi] at e1
    refine Ro.le l (r.obj i u b e1 e2) (upd_ne ?_)
    rintro rfl
    exact hi ((List.getElem?_inj (List.getElem?_eq_some_iff.mp h).1 r.nd).mp (h.trans e2.symm))
end

/-! ### a run: what a computation in continuation form answers, by its mirror -/
/-- the class at C and the name of it, the error's own dict -/
def Xq (G : Gd) (R φ : List Addr) (H : Hp) (e : Er) (c : Value) (d : Option Addr) : Prop :=
  G.mg e.cls = some c ∧ (match e.arg with
    | none => d = none
    | some x => ∃ p f v, d = some p ∧ p ∉ φ ∧ H p = some (.xd [(f, v)]) ∧ Rv G R φ H x v)
def Run {α β : Type} (G : Gd) (E : XK) (R φ : List Addr) (H : Hp) (rel : List Addr → Hp → β → α → Prop) (r : Res β) (c : (α → Hp → Prop) → Prop) : Prop :=
  ∀ Q : α → Hp → Prop, (∀ b S' φ' v H', r = .ok b S' → Le φ H φ' H' → Rs G R φ' S' H' → rel φ' H' b v → Q v H') →
    (∀ e S' φ' H' cl d, r = .exc e S' → Le φ H φ' H' → Rs G R φ' S' H' → Xq G R φ' H' e cl d → E cl d H') → r ≠ .bad → c Q
section
variable {α β γ δ : Type} {G : Gd} {E : XK} {R φ φ' : List Addr} {S S' : Store} {H H' : Hp}
theorem Run.bind {rel : List Addr → Hp → β → α → Prop} {rel' : List Addr → Hp → δ → γ → Prop} {r : Res β} {k : β → Store → Res δ} {c : (α → Hp → Prop) → Prop} {c' : α → Hp → (γ → Hp → Prop) → Prop}
    (h : Run G E R φ H rel r c) (hk : ∀ b S' φ' v H', r = .ok b S' → Le φ H φ' H' → Rs G R φ' S' H' → rel φ' H' b v → Run G E R φ' H' rel' (k b S') (c' v H')) :
    Run G E R φ H rel' (r.bind k) (fun Q => c fun v H' => c' v H' Q) := by
  intro Q hq he hb
  refine h _ (fun b S' φ' v H' e l rs rl => ?_) (fun e S' φ' H' cl d er l rs x => he e S' φ' H' cl d (by rw [er]; rfl) l rs x) (fun z => hb (by rw [z]; rfl))
  subst e
  refine hk b S' φ' v H' rfl l rs rl Q (fun b2 S2 φ2 v2 H2 e2 l2 rs2 rl2 => hq b2 S2 φ2 v2 H2 e2 (l.trans l2) rs2 rl2) (fun e S2 φ2 H2 cl d er l2 rs2 x => he e S2 φ2 H2 cl d er (l.trans l2) rs2 x) hb
/-- the same, towards a computation that comes to it -/
theorem Run.bnd {rel : List Addr → Hp → β → α → Prop} {rel' : List Addr → Hp → δ → γ → Prop} {r : Res β} {k : β → Store → Res δ} {c : (α → Hp → Prop) → Prop} {c' : α → Hp → (γ → Hp → Prop) → Prop} {c0 : (γ → Hp → Prop) → Prop}
    (h : Run G E R φ H rel r c) (hk : ∀ b S' φ' v H', r = .ok b S' → Le φ H φ' H' → Rs G R φ' S' H' → rel φ' H' b v → Run G E R φ' H' rel' (k b S') (c' v H'))
    (hc : ∀ Q, c (fun v H' => c' v H' Q) → c0 Q := by exact fun _ q => q) : Run G E R φ H rel' (r.bind k) c0 := fun Q hq he hb => hc Q (Run.bind h hk Q hq he hb)
theorem Run.ret {rel : List Addr → Hp → β → α → Prop} {b : β} {v : α} {c : (α → Hp → Prop) → Prop} (rs : Rs G R φ S H) (h : rel φ H b v) (hc : ∀ Q : α → Hp → Prop, Q v H → c Q) : Run G E R φ H rel (.ok b S) c :=
  fun Q hq _ _ => hc Q (hq b S φ v H rfl Le.refl rs h)
theorem Run.bad {rel : List Addr → Hp → β → α → Prop} {c : (α → Hp → Prop) → Prop} : Run G E R φ H rel (.bad : Res β) c := fun _ _ _ h => (h rfl).elim
/-- a new object behind it -/
theorem Run.new {rel : List Addr → Hp → β → V → Prop} {b : β} {o : HO} {c : VK → Prop} (rs : Rs G R φ S H) (h : ∀ p, H p = none → rel φ (upd H p o) b (.ref p)) (hc : ∀ Q : VK, (∀ p, H p = none → Q (.ref p) (upd H p o)) → c Q) : Run G E R φ H rel (.ok b S) c :=
  fun Q hq _ _ => hc Q fun p hp => hq b S φ (.ref p) _ rfl (Le.new rs hp) (rs.new hp) (h p hp)
theorem Run.imp {rel rel' : List Addr → Hp → β → α → Prop} {r : Res β} {c : (α → Hp → Prop) → Prop} (h : Run G E R φ H rel r c) (hr : ∀ φ' H' b v, rel φ' H' b v → rel' φ' H' b v) : Run G E R φ H rel' r c :=
  fun Q hq he hb => h Q (fun b S' φ' v H' e l rs rl => hq b S' φ' v H' e l rs (hr _ _ _ _ rl)) he hb
theorem Run.conv {rel : List Addr → Hp → β → α → Prop} {r : Res β} {c c' : (α → Hp → Prop) → Prop} (h : Run G E R φ H rel r c) (hc : ∀ Q, c Q → c' Q) : Run G E R φ H rel r c' :=
  fun Q hq he hb => hc Q (h Q hq he hb)
end
abbrev RelV' (G : Gd) (R : List Addr) : List Addr → Hp → D → V → Prop := fun φ H d v => Rv G R φ H d v
abbrev RelB : List Addr → Hp → Bool → Bool → Prop := fun _ _ b c => b = c
abbrev RelL (G : Gd) (R : List Addr) : List Addr → Hp → List D → List V → Prop := fun φ H ds vs => RvL G R φ H ds vs
def SndE (G : Gd) (E : XK) (t : TE) (m : ME0) : Prop := ∀ σ H ρ φ R S, Rs G R φ S H → Rn G R φ H ρ σ → Run G E R φ H (RelV' G R) (m ρ S) (t σ H)
def SndT (G : Gd) (E : XK) (t : TT) (m : MT0) : Prop := ∀ σ H ρ φ R S, Rs G R φ S H → Rn G R φ H ρ σ → Run G E R φ H RelB (m ρ S) (t σ H)
def SndA (G : Gd) (E : XK) (t : TA) (m : MA0) : Prop := ∀ σ H ρ φ R S, Rs G R φ S H → Rn G R φ H ρ σ → Run G E R φ H (RelL G R) (m ρ S) (t σ H)
abbrev _root_.L2.Cx.gd (X : Cx) (T : List Addr) : Gd := ⟨X.K, X.mg, T⟩
def ME (T : List Addr) (X : Cx) (E : XK) (e : Expr) (m : ME0) : Prop := ∃ t, PE X e t ∧ SndE (X.gd T) E t m
def MT (T : List Addr) (X : Cx) (E : XK) (e : Expr) (m : MT0) : Prop := ∃ t, PT X e t ∧ SndT (X.gd T) E t m
def MW (T : List Addr) (X : Cx) (E : XK) (e : Expr) (m : MT0) : Prop := ∃ t, PW X e t ∧ SndT (X.gd T) E t m
def MA (T : List Addr) (X : Cx) (E : XK) (es : List Expr) (m : MA0) : Prop := ∃ t, PA X es t ∧ SndA (X.gd T) E t m
/-- what a statement ends in -/
inductive Out where
  | nx (σ : L2.St) | rt (v : V) | bk (σ : L2.St) | ct (σ : L2.St)
def endsOf (Q : Out → Hp → Prop) : Ends := ⟨fun σ H => Q (.nx σ) H, fun v H => Q (.rt v) H, fun σ H => Q (.bk σ) H, fun σ H => Q (.ct σ) H⟩
def outTo (D : Ends) : Out → Hp → Prop
  | .nx σ, H => D.nx σ H
  | .rt v, H => D.rt v H
  | .bk σ, H => D.bk σ H
  | .ct σ, H => D.ct σ H
theorem endsOf_outTo (D : Ends) : endsOf (outTo D) = D := rfl
def RelO (G : Gd) (R : List Addr) : List Addr → Hp → (Fl × Rho) → Out → Prop := fun φ H x o => match x.1, o with
  | .nx, .nx σ => Rn G R φ H x.2 σ
  | .rt d, .rt v => Rv G R φ H d v
  | .bk, .bk σ => Rn G R φ H x.2 σ
  | .ct, .ct σ => Rn G R φ H x.2 σ
  | _, _ => False
def SndS (G : Gd) (E : XK) (t : TS) (m : MS0) : Prop := ∀ σ H ρ φ R S, Rs G R φ S H → Rn G R φ H ρ σ → Run G E R φ H (RelO G R) (m ρ S) (fun Q => t (endsOf Q) σ H)
def MS (T : List Addr) (X : Cx) (E : XK) (st : Stmt) (m : MS0) : Prop := ∃ t, PS X st t ∧ SndS (X.gd T) E t m
def MSs (T : List Addr) (X : Cx) (E : XK) (sts : List Stmt) (m : MS0) : Prop := ∃ t, PSs X sts t ∧ SndS (X.gd T) E t m
end MM

/-! The mirror layer's rules: expressions. -/
namespace MM
open PySem L2

/-! ### the mirrors of expressions -/
def mVar (i : Nat) : ME0 := fun ρ S => match ρ[i]? with
  | some (some d) => .ok d S
  | _ => .bad
def mC (d : D) : ME0 := fun _ S => .ok d S
def mOp (f : D → D → Store → Res D) (ma mb : ME0) : ME0 := fun ρ S => (ma ρ S).bind fun x S1 => (mb ρ S1).bind fun y S2 => f x y S2
def mUn (f : D → Store → Res D) (ma : ME0) : ME0 := fun ρ S => (ma ρ S).bind fun x S1 => f x S1
def mNil : MA0 := fun _ S => .ok [] S
def mCons (ma : ME0) (mr : MA0) : MA0 := fun ρ S => (ma ρ S).bind fun x S1 => (mr ρ S1).bind fun xs S2 => .ok (x :: xs) S2
def mAndV (ma mb : ME0) : ME0 := fun ρ S => (ma ρ S).bind fun x S1 => match x with
  | .bl true => mb ρ S1
  | .bl false => .ok (.bl false) S1
  | _ => .bad
def mOrV (ma mb : ME0) : ME0 := fun ρ S => (ma ρ S).bind fun x S1 => match x with
  | .bl true => .ok (.bl true) S1
  | .bl false => mb ρ S1
  | _ => .bad
def mNotV (ma : ME0) : ME0 := fun ρ S => (ma ρ S).bind fun x S1 => match x with
  | .bl b => .ok (.bl (!b)) S1
  | _ => .bad
/-- a test by its value, True or False -/
def mB (ma : ME0) : MT0 := fun ρ S => (ma ρ S).bind fun x S1 => match x with
  | .bl b => .ok b S1
  | _ => .bad
def mAndT (a b : MT0) : MT0 := fun ρ S => (a ρ S).bind fun x S1 => if x = true then b ρ S1 else .ok false S1
def mOrT (a b : MT0) : MT0 := fun ρ S => (a ρ S).bind fun x S1 => if x = true then .ok true S1 else b ρ S1
def mNotT (a : MT0) : MT0 := fun ρ S => (a ρ S).bind fun x S1 => .ok (!x) S1
def mIfE (c : MT0) (a b : ME0) : ME0 := fun ρ S => (c ρ S).bind fun x S1 => if x = true then a ρ S1 else b ρ S1
def mTup (ma : MA0) : ME0 := fun ρ S => (ma ρ S).bind fun xs S1 => .ok (.tup xs) S1
/-- a list that no one will change; one that may be changed -/
def mLst (ma : MA0) : ME0 := fun ρ S => (ma ρ S).bind fun xs S1 => .ok (.lst xs) S1
def mLstS (ma : MA0) : ME0 := fun ρ S => (ma ρ S).bind fun xs S1 => .ok (.ref S1.length) (S1 ++ [.lst xs])
def mCall (f : List D → Store → Res D) (ma : MA0) : ME0 := fun ρ S => (ma ρ S).bind fun xs S1 => f xs S1
def mCmpC (f g : D → D → Store → Res D) (ma mb mc : ME0) : ME0 := fun ρ S => (ma ρ S).bind fun x S1 => (mb ρ S1).bind fun y S2 => (f x y S2).bind fun z S3 => match z with
  | .bl true => (mc ρ S3).bind fun w S4 => g y w S4
  | .bl false => .ok (.bl false) S3
  | _ => .bad

/-! ### values -/
section
variable {G : Gd} {E : XK} {R φ : List Addr} {S : Store} {H : Hp}
theorem Rv.int_of {i : Int} {v : V} (h : Rv G R φ H (.int i) v) : v = .int i := by unfold Rv at h; exact h
theorem Rv.bl_of {b : Bool} {v : V} (h : Rv G R φ H (.bl b) v) : v = .bl b := by unfold Rv at h; exact h
theorem Rv.non_of {v : V} (h : Rv G R φ H .non v) : v = .non := by unfold Rv at h; exact h
theorem Rv.str_of {z : Str} {v : V} (h : Rv G R φ H (.str z) v) : v = .str z := by unfold Rv at h; exact h
theorem Rv.int {i : Int} : Rv G R φ H (.int i) (.int i) := by unfold Rv; rfl
theorem Rv.bl {b : Bool} : Rv G R φ H (.bl b) (.bl b) := by unfold Rv; rfl
theorem Rv.non : Rv G R φ H .non .non := by unfold Rv; rfl
theorem Rv.str {z : Str} : Rv G R φ H (.str z) (.str z) := by unfold Rv; rfl
theorem Rv.tup {ds : List D} {vs : List V} {a : Addr} (h : H a = some (.tup vs)) (r : RvL G R φ H ds vs) : Rv G R φ H (.tup ds) (.ref a) := by
  unfold Rv
  exact ⟨a, vs, rfl, h, r⟩
theorem Rv.lst {ds : List D} {vs : List V} {a : Addr} (n1 : a ∉ φ) (n2 : a ∉ R) (h : H a = some (.lst vs)) (r : RvL G R φ H ds vs) : Rv G R φ H (.lst ds) (.ref a) := by
  unfold Rv
  exact ⟨a, vs, rfl, n1, n2, h, r⟩
theorem Rv.tup_at {ds : List D} {v : V} (h : Rv G R φ H (.tup ds) v) : ∃ a vs, v = .ref a ∧ H a = some (.tup vs) ∧ RvL G R φ H ds vs := by unfold Rv at h; exact h
theorem Rv.tup_of {ds : List D} {v : V} (h : Rv G R φ H (.tup ds) v) : ∃ a vs, v = .ref a ∧ SqT G.K H a vs ∧ RvL G R φ H ds vs := by
  obtain ⟨a, vs, e, h1, h2⟩ := Rv.tup_at h
  exact ⟨a, vs, e, .inl (.inl h1), h2⟩
theorem Rv.lst_of {ds : List D} {v : V} (h : Rv G R φ H (.lst ds) v) : ∃ a vs, v = .ref a ∧ a ∉ φ ∧ a ∉ R ∧ H a = some (.lst vs) ∧ RvL G R φ H ds vs := by unfold Rv at h; exact h
theorem Rv.frz_of {ds : List D} {v : V} (h : Rv G R φ H (.frz ds) v) : ∃ a vs, v = .ref a ∧ Fz G.K R φ H a vs ∧ RvL G R φ H ds vs := by unfold Rv at h; exact h
theorem Rv.ref_of {n : Nat} {v : V} (h : Rv G R φ H (.ref n) v) : ∃ a, v = .ref a ∧ φ[n]? = some a := by unfold Rv at h; exact h
theorem Rs.lst (r : Rs G R φ S H) {n : Nat} {ds : List D} {v : V} (h : Rv G R φ H (.ref n) v) (e : S[n]? = some (.lst ds)) : ∃ a vs, v = .ref a ∧ φ[n]? = some a ∧ H a = some (.lst vs) ∧ RvL G R φ H ds vs := by
  obtain ⟨a, rfl, ha⟩ := Rv.ref_of h
  obtain ⟨vs, h1, h2⟩ := (r.obj n _ a e ha).ofL
  exact ⟨a, vs, rfl, ha, h1, h2⟩
def lstAt (S : Store) (n : Nat) : Option (List D) := match S[n]? with
  | some (.lst ds) => some ds
  | _ => none
theorem lstAt_of {n : Nat} {ds : List D} (h : lstAt S n = some ds) : S[n]? = some (.lst ds) := by
  unfold lstAt at h
  split at h
  · rename_i h'
    cases h
    exact h'
  · cases h
/-- the items of what is like a list or a tuple -/
def seqOf (S : Store) : D → Option (List D)
  | .tup ds => some ds
  | .lst ds => some ds
  | .frz ds => some ds
  | .ref n => lstAt S n
  | _ => none
theorem seq_of (r : Rs G R φ S H) {d : D} {v : V} {ds : List D} (h : Rv G R φ H d v) (e : seqOf S d = some ds) : ∃ a vs, v = .ref a ∧ (SqL G.K H a vs ∨ SqT G.K H a vs) ∧ RvL G R φ H ds vs := by
  cases d with
  | tup xs =>
    cases e
    obtain ⟨a, vs, e1, h1, h2⟩ := Rv.tup_of h
    exact ⟨a, vs, e1, .inr h1, h2⟩
  | lst xs =>
    cases e
    obtain ⟨a, vs, e1, _, _, h1, h2⟩ := Rv.lst_of h
    exact ⟨a, vs, e1, .inl (.inl (.inl h1)), h2⟩
  | frz xs =>
    cases e
    obtain ⟨a, vs, e1, h1, h2⟩ := Rv.frz_of h
    exact ⟨a, vs, e1, .inl h1.sq, h2⟩
  | ref n =>
    obtain ⟨a, vs, e1, _, h1, h2⟩ := r.lst h (lstAt_of e)
    exact ⟨a, vs, e1, .inl (.inl (.inl h1)), h2⟩
  | _ => cases e
/-- as above, lists alone -/
def lstOf (S : Store) : D → Option (List D)
  | .lst ds => some ds
  | .frz ds => some ds
  | .ref n => lstAt S n
  | _ => none
theorem lst_of (r : Rs G R φ S H) {d : D} {v : V} {ds : List D} (h : Rv G R φ H d v) (e : lstOf S d = some ds) : ∃ a vs, v = .ref a ∧ SqL G.K H a vs ∧ RvL G R φ H ds vs := by
  cases d with
  | lst xs =>
    cases e
    obtain ⟨a, vs, e1, _, _, h1, h2⟩ := Rv.lst_of h
    exact ⟨a, vs, e1, .inl (.inl h1), h2⟩
  | frz xs =>
    cases e
    obtain ⟨a, vs, e1, h1, h2⟩ := Rv.frz_of h
    exact ⟨a, vs, e1, h1.sq, h2⟩
  | ref n =>
    obtain ⟨a, vs, e1, _, h1, h2⟩ := r.lst h (lstAt_of e)
    exact ⟨a, vs, e1, .inl (.inl h1), h2⟩
  | _ => cases e

/-! ### operators by values -/
def Op2 (G : Gd) (E : XK) (r : R2) (f : D → D → Store → Res D) : Prop := ∀ R φ S H d e x y, Rs G R φ S H → Rv G R φ H d x → Rv G R φ H e y → Run G E R φ H (RelV' G R) (f d e S) (r x y H)
def Op1 (G : Gd) (E : XK) (r : V → Hp → VK → Prop) (f : D → Store → Res D) : Prop := ∀ R φ S H d x, Rs G R φ S H → Rv G R φ H d x → Run G E R φ H (RelV' G R) (f d S) (r x H)
/-- a call of a built-in by values -/
def OpL (G : Gd) (E : XK) (r : List V → Hp → VK → Prop) (f : List D → Store → Res D) : Prop := ∀ R φ S H ds xs, Rs G R φ S H → RvL G R φ H ds xs → Run G E R φ H (RelV' G R) (f ds S) (r xs H)
/-- two ints -/
def f2I (g : Int → Int → D) : D → D → Store → Res D := fun x y S => match x, y with
  | .int i, .int j => .ok (g i j) S
  | _, _ => .bad
def f2Ic (C : Int → Int → Bool) (g : Int → Int → D) : D → D → Store → Res D := fun x y S => match x, y with
  | .int i, .int j => if C i j = true then .ok (g i j) S else .bad
  | _, _ => .bad
theorem op2I {g : Int → Int → V} {g' : Int → Int → D} (hg : ∀ i j R φ H, Rv G R φ H (g' i j) (g i j)) : Op2 G E (rI0 g) (f2I g') := by
  intro R φ S H d e x y rs rd re
  cases d with
  | int i =>
    cases e with
    | int j =>
      have e1 := Rv.int_of rd
      have e2 := Rv.int_of re
      subst e1
      subst e2
      exact Run.ret rs (hg i j R φ H) fun Q q => ⟨i, j, rfl, rfl, q⟩
    | _ => exact Run.bad
  | _ => exact Run.bad
theorem op2Ic {C : Int → Int → Prop} {C' : Int → Int → Bool} {g : Int → Int → V} {g' : Int → Int → D} (hC : ∀ i j, C' i j = true → C i j) (hg : ∀ i j R φ H, Rv G R φ H (g' i j) (g i j)) : Op2 G E (rI C g) (f2Ic C' g') := by
  intro R φ S H d e x y rs rd re
  cases d with
  | int i =>
    cases e with
    | int j =>
      have e1 := Rv.int_of rd
      have e2 := Rv.int_of re
      subst e1
      subst e2
      show Run G E R φ H _ (if C' i j = true then .ok (g' i j) S else .bad) _
      by_cases hc : C' i j = true
      · rw [if_pos hc]
        exact Run.ret rs (hg i j R φ H) fun Q q => ⟨i, j, rfl, rfl, hC i j hc, q⟩
      · rw [if_neg hc]
        exact Run.bad
    | _ => exact Run.bad
  | _ => exact Run.bad
abbrev fSub := f2I fun i j => .int (i - j)
abbrev fLtI := f2I fun i j => .bl (decide (i < j))
abbrev fLeI := f2I fun i j => .bl (decide (i ≤ j))
abbrev fGtI := f2I fun i j => .bl (decide (j < i))
abbrev fGeI := f2I fun i j => .bl (decide (j ≤ i))
/-- products: together below a million bits -/
abbrev fMulI := f2Ic (fun i j => decide (i.natAbs.log2 + j.natAbs.log2 < 1000000)) fun i j => .int (i * j)
abbrev fMod := f2Ic (fun _ j => decide (0 < j)) fun i j => .int (i % j)
abbrev fFloor := f2Ic (fun _ j => decide (0 < j ∧ j.natAbs.log2 < 9000)) fun i j => .int (i / j)
abbrev fPow := f2Ic (fun i j => decide (0 ≤ j ∧ j ≤ 1000000 ∧ i.natAbs < 2 ^ 64)) fun i j => .int (i ^ j.toNat)
theorem o_sub : Op2 G E (rI0 fun i j => .int (i - j)) fSub := op2I fun _ _ _ _ _ => Rv.int
theorem o_add : Op2 G E (rI0 fun i j => .int (i + j)) (f2I fun i j => .int (i + j)) := op2I fun _ _ _ _ _ => Rv.int
theorem o_lt : Op2 G E (rI0 fun i j => .bl (decide (i < j))) fLtI := op2I fun _ _ _ _ _ => Rv.bl
theorem o_le : Op2 G E (rI0 fun i j => .bl (decide (i ≤ j))) fLeI := op2I fun _ _ _ _ _ => Rv.bl
theorem o_gt : Op2 G E (rI0 fun i j => .bl (decide (j < i))) fGtI := op2I fun _ _ _ _ _ => Rv.bl
theorem o_ge : Op2 G E (rI0 fun i j => .bl (decide (j ≤ i))) fGeI := op2I fun _ _ _ _ _ => Rv.bl
theorem o_mul : Op2 G E (rI CMulW fun i j => .int (i * j)) fMulI := op2Ic (fun i j h => show i.natAbs.log2 + j.natAbs.log2 < 1000000 from of_decide_eq_true h) fun _ _ _ _ _ => Rv.int
theorem o_mod : Op2 G E (rI (fun _ j => 0 < j) fun i j => .int (i % j)) fMod := op2Ic (fun _ _ h => of_decide_eq_true h) fun _ _ _ _ _ => Rv.int
theorem o_floor : Op2 G E (rI CDivW fun i j => .int (i / j)) fFloor := op2Ic (fun i j h => show 0 < j ∧ j.natAbs.log2 < 9000 from of_decide_eq_true h) fun _ _ _ _ _ => Rv.int
theorem o_pow : Op2 G E (rI CPow fun i j => .int (i ^ j.toNat)) fPow := op2Ic (fun i j h => show 0 ≤ j ∧ j ≤ 1000000 ∧ i.natAbs < 2 ^ 64 from of_decide_eq_true h) fun _ _ _ _ _ => Rv.int
def fNeg : D → Store → Res D := fun x S => match x with
  | .int i => .ok (.int (-i)) S
  | _ => .bad
theorem o_neg : Op1 G E (rU fun i => .int (-i)) fNeg := by
  intro R φ S H d x rs rd
  cases d with
  | int i =>
    have e1 := Rv.int_of rd
    subst e1
    exact Run.ret rs Rv.int fun Q q => ⟨i, rfl, q⟩
  | _ => exact Run.bad
def isNon : D → Bool
  | .non => true
  | _ => false
theorem Rv.isNon {d : D} {v : V} (h : Rv G R φ H d v) : decide (v = .non) = isNon d := by
  cases d with
  | non => rw [Rv.non_of h]; rfl
  | bl b => rw [Rv.bl_of h]; rfl
  | int b => rw [Rv.int_of h]; rfl
  | str b => rw [Rv.str_of h]; rfl
  | tup ds => obtain ⟨a, _, rfl, _⟩ := Rv.tup_of h; rfl
  | lst ds => obtain ⟨a, _, rfl, _⟩ := Rv.lst_of h; rfl
  | frz ds => obtain ⟨a, _, rfl, _⟩ := Rv.frz_of h; rfl
  | ref n => obtain ⟨a, rfl, _⟩ := Rv.ref_of h; rfl
/-- x is None, x is not None -/
def fIs (neg : Bool) : D → D → Store → Res D := fun x y S => match y with
  | .non => .ok (.bl (if neg then !isNon x else isNon x)) S
  | _ => .bad
theorem o_isN : Op2 G E (fun x y H Q => y = .non ∧ Q (.bl (decide (x = .non))) H) (fIs false) := by
  intro R φ S H d e x y rs rd re
  cases e with
  | non => exact Run.ret rs (Rv.bl (b := decide (x = .non)) |> fun h => by rw [Rv.isNon rd] at h ⊢; exact h) fun Q q => ⟨Rv.non_of re, q⟩
  | _ => exact Run.bad
theorem o_notN : Op2 G E (fun x y H Q => y = .non ∧ Q (.bl (!decide (x = .non))) H) (fIs true) := by
  intro R φ S H d e x y rs rd re
  cases e with
  | non => exact Run.ret rs (Rv.bl (b := !decide (x = .non)) |> fun h => by rw [Rv.isNon rd] at h ⊢; exact h) fun Q q => ⟨Rv.non_of re, q⟩
  | _ => exact Run.bad
/-! #### equality of data -/
mutual
def toPy (S : Store) : D → Option PyData
  | .non => some .none
  | .bl b => some (.bool b)
  | .int i => some (.int i)
  | .str z => some (.str z)
  | .tup ds => (toPyL S ds).map .tuple
  | .lst ds => (toPyL S ds).map .list
  | .frz ds => (toPyL S ds).map .list
  | .ref _ => none
def toPyL (S : Store) : List D → Option (List PyData)
  | [] => some []
  | d :: ds => match toPy S d, toPyL S ds with
    | some p, some ps => some (p :: ps)
    | _, _ => none
end
mutual
theorem toPy_dp (r : Rs G R φ S H) : ∀ {d : D} {v : V} {p : PyData}, Rv G R φ H d v → toPy S d = some p → Dp G.K H v p
  | .non, v, p, h, e => by
    unfold toPy at e
    cases e
    rw [Rv.non_of h]
    exact .non
  | .bl b, v, p, h, e => by
    unfold toPy at e
    cases e
    rw [Rv.bl_of h]
    exact .bl b
  | .int i, v, p, h, e => by
    unfold toPy at e
    cases e
    rw [Rv.int_of h]
    exact .int i
  | .str i, v, p, h, e => by
    unfold toPy at e
    cases e
    rw [Rv.str_of h]
    exact .str i
  | .tup ds, v, p, h, e => by
    unfold toPy at e
    obtain ⟨ps, e1, e2⟩ := Option.map_eq_some_iff.mp e
    obtain ⟨a, vs, rfl, h1, h2⟩ := Rv.tup_of h
    subst e2
    exact .tup h1 (toPyL_dp r h2 e1)
  | .lst ds, v, p, h, e => by
    unfold toPy at e
    obtain ⟨ps, e1, e2⟩ := Option.map_eq_some_iff.mp e
    obtain ⟨a, vs, rfl, _, _, h1, h2⟩ := Rv.lst_of h
    subst e2
    exact .lst (.inl (.inl h1)) (toPyL_dp r h2 e1)
  | .frz ds, v, p, h, e => by
    unfold toPy at e
    obtain ⟨ps, e1, e2⟩ := Option.map_eq_some_iff.mp e
    obtain ⟨a, vs, rfl, h1, h2⟩ := Rv.frz_of h
    subst e2
    exact .lst h1.sq (toPyL_dp r h2 e1)
  | .ref n, v, p, h, e => by
    unfold toPy at e
    cases e
theorem toPyL_dp (r : Rs G R φ S H) : ∀ {ds : List D} {vs : List V} {ps : List PyData}, RvL G R φ H ds vs → toPyL S ds = some ps → DpAll G.K H vs ps
  | [], vs, ps, h, e => by
    unfold toPyL at e
    unfold RvL at h
    cases e
    subst h
    exact .nil
  | d :: ds, vs, ps, h, e => by
    unfold toPyL at e
    unfold RvL at h
    obtain ⟨v, r', rfl, h1, h2⟩ := h
    split at e
    · rename_i p ps' e1 e2
      cases e
      exact .cons (toPy_dp r h1 e1) (toPyL_dp r h2 e2)
    · cases e
end
def eqRes (S : Store) (neg : Bool) (x y : D) : Option Bool := match toPy S x, toPy S y with
  | some p, some q => if SeqAt.shaped p = true ∧ SeqAt.shaped q = true then some (if neg then !PyData.eqv p q else PyData.eqv p q) else none
  | _, _ => none
def fEq (neg : Bool) : D → D → Store → Res D := fun x y S => match eqRes S neg x y with
  | some b => .ok (.bl b) S
  | none => .bad
theorem o_eq : Op2 G E (rEqD G.K) (fEq false) := by
  intro R φ S H d e x y rs rd re
  unfold fEq eqRes
  split
  · rename_i b hb
    split at hb
    · rename_i p q e1 e2
      split at hb
      · rename_i hs
        cases hb
        exact Run.ret rs Rv.bl fun Q q' => ⟨p, q, toPy_dp rs rd e1, toPy_dp rs re e2, hs.1, hs.2, q'⟩
      · cases hb
    · cases hb
  · exact Run.bad
theorem o_ne : Op2 G E (rNeD G.K) (fEq true) := by
  intro R φ S H d e x y rs rd re
  unfold fEq eqRes
  split
  · rename_i b hb
    split at hb
    · rename_i p q e1 e2
      split at hb
      · rename_i hs
        cases hb
        exact Run.ret rs Rv.bl fun Q q' => ⟨p, q, toPy_dp rs rd e1, toPy_dp rs re e2, hs.1, hs.2, q'⟩
      · cases hb
    · cases hb
  · exact Run.bad
/-! #### items -/
def fIx : D → D → Store → Res D := fun x y S => match y, seqOf S x with
  | .int i, some ds => match atI ds i with
    | some d => .ok d S
    | none => .bad
  | _, _ => .bad
theorem RvL.atI {ds : List D} {vs : List V} {i : Int} {d : D} (h : RvL G R φ H ds vs) (e : L2.atI ds i = some d) : ∃ v, L2.atI vs i = some v ∧ Rv G R φ H d v := by
  unfold L2.atI at e ⊢
  rw [← RvL.length h]
  cases h1 : ixN ds.length i with
  | none => rw [h1] at e; cases e
  | some j =>
    rw [h1] at e
    exact RvL.get h e
theorem o_ix : Op2 G E (rIx G.K) fIx := by
  intro R φ S H d e x y rs rd re
  unfold fIx
  split
  · rename_i i ds h1
    split
    · rename_i z h2
      obtain ⟨a, vs, rfl, h3, h4⟩ := seq_of rs rd h1
      obtain ⟨v, h5, h6⟩ := RvL.atI h4 h2
      refine Run.ret rs h6 fun Q q => ?_
      rcases h3 with h3 | h3
      · exact .inl ⟨a, vs, i, v, rfl, Rv.int_of re, h3, h5, q⟩
      · exact .inr (.inl ⟨a, vs, i, v, rfl, Rv.int_of re, h3, h5, q⟩)
    · exact Run.bad
  · exact Run.bad
end
end MM

/-! The mirror layer's rules: expressions by their syntax. -/
namespace MM
open PySem L2
section
variable {T : List Addr} {X : Cx} {E : XK} {a b c e : Expr} {es rest : List Expr} {ma mb mc me : ME0} {mA mB' : MT0} {mr : MA0} {pos p : Pos}

/-! ### readings made of readings -/
theorem SndE.var {G : Gd} {i : Nat} : SndE G E (tVar i) (mVar i) := by
  intro σ H ρ φ R S rs rn
  unfold mVar
  split
  · rename_i d h
    obtain ⟨v, e1, e2⟩ := rn.get i d h
    exact Run.ret rs e2 fun Q q => ⟨v, e1, q⟩
  · exact Run.bad
theorem me_var (i : Nat) {x : Str} (hN : X.N[i]? = some x := by rfl) (hv : Vis X.env.scope x := by first | exact Or.inl rfl | exact Or.inr (Or.inl rfl) | exact Or.inr (Or.inr rfl)) (hd : (x == ("__debug__" : Str)) = false := by decide)
    (hcd : (x == ("__classdict__" : Str)) = false := by decide) : ME T X E (.Name x pos) (mVar i) := ⟨_, pe_var hN hv hd hcd, SndE.var⟩
theorem SndE.cst {G : Gd} {v : V} {d : D} (h : ∀ R φ H, Rv G R φ H d v) : SndE G E (tC v) (mC d) := fun σ H ρ φ R S rs rn => Run.ret rs (h R φ H) fun Q q => q
theorem me_int {i : Int} {j : Nat} : ME T X E (.Constant (.int i) j pos) (mC (.int i)) := ⟨_, pe_int, SndE.cst fun _ _ _ => Rv.int⟩
theorem me_bl {i : Bool} {j : Nat} : ME T X E (.Constant (.bool i) j pos) (mC (.bl i)) := ⟨_, pe_bl, SndE.cst fun _ _ _ => Rv.bl⟩
theorem me_non {j : Nat} : ME T X E (.Constant .none j pos) (mC .non) := ⟨_, pe_non, SndE.cst fun _ _ _ => Rv.non⟩
theorem me_str {z : Str} {j : Nat} : ME T X E (.Constant (.str z) j pos) (mC (.str z)) := ⟨_, pe_str, SndE.cst fun _ _ _ => Rv.str⟩
/-- a constant of the module -/
theorem me_gint {x : Str} {i : Int} {t : Tok} (hg : Gl X x) (hm : X.mg x = some (.int i t)) (hd : (x == ("__debug__" : Str)) = false := by decide) : ME T X E (.Name x pos) (mC (.int i)) :=
  ⟨_, pe_glob hg hm (v := .int i) ⟨t, rfl⟩ hd, SndE.cst fun _ _ _ => Rv.int⟩
theorem me_gstr {x z : Str} {t : Tok} (hg : Gl X x) (hm : X.mg x = some (.str z t)) (hd : (x == ("__debug__" : Str)) = false := by decide) : ME T X E (.Name x pos) (mC (.str z)) :=
  ⟨_, pe_glob hg hm (v := .str z) ⟨t, rfl⟩ hd, SndE.cst fun _ _ _ => Rv.str⟩
theorem SndE.op {G : Gd} {r : R2} {f : D → D → Store → Res D} {ta tb : TE} (ha : SndE G E ta ma) (hb : SndE G E tb mb) (ho : Op2 G E r f) : SndE G E (tOp r ta tb) (mOp f ma mb) := fun σ H ρ φ R S rs rn =>
  Run.bnd (ha σ H ρ φ R S rs rn) fun d S1 φ1 x H1 _ l1 rs1 r1 => Run.bnd (hb σ H1 ρ φ1 R S1 rs1 (rn.le l1)) fun e S2 φ2 y H2 _ l2 rs2 r2 => ho R φ2 S2 H2 d e x y rs2 (Rv.le l2 r1) r2
theorem me_bin {op : Operator} {r : R2} {f : D → D → Store → Res D} (ho : OpR X (binaryOp op) r) (hs : Op2 (X.gd T) E r f) (ha : ME T X E a ma) (hb : ME T X E b mb) : ME T X E (.BinOp a op b pos) (mOp f ma mb) := by
  obtain ⟨ta, pa, sa⟩ := ha
  obtain ⟨tb, pb, sb⟩ := hb
  exact ⟨_, pe_op ho pa pb, SndE.op sa sb hs⟩
theorem SndE.un {G : Gd} {r : V → Hp → VK → Prop} {f : D → Store → Res D} {ta : TE} (ha : SndE G E ta ma) (ho : Op1 G E r f) : SndE G E (tUn r ta) (mUn f ma) := fun σ H ρ φ R S rs rn =>
  Run.bnd (ha σ H ρ φ R S rs rn) fun d S1 φ1 x H1 _ l1 rs1 r1 => ho R φ1 S1 H1 d x rs1 r1
theorem me_neg (ha : ME T X E a ma) : ME T X E (.UnaryOp .USub a pos) (mUn fNeg ma) := by
  obtain ⟨ta, pa, sa⟩ := ha
  exact ⟨_, pe_un un_neg pa, SndE.un sa o_neg⟩
theorem me_sub (ha : ME T X E a ma) (hb : ME T X E b mb) : ME T X E (.BinOp a .Sub b pos) (mOp fSub ma mb) := me_bin op_sub o_sub ha hb
theorem me_mul (ha : ME T X E a ma) (hb : ME T X E b mb) : ME T X E (.BinOp a .Mult b pos) (mOp fMulI ma mb) := me_bin op_mulW o_mul ha hb
theorem me_mod (ha : ME T X E a ma) (hb : ME T X E b mb) : ME T X E (.BinOp a .Mod b pos) (mOp fMod ma mb) := me_bin op_mod o_mod ha hb
theorem me_floor (ha : ME T X E a ma) (hb : ME T X E b mb) : ME T X E (.BinOp a .FloorDiv b pos) (mOp fFloor ma mb) := me_bin op_fdivW o_floor ha hb
theorem me_pow (ha : ME T X E a ma) (hb : ME T X E b mb) : ME T X E (.BinOp a .Pow b pos) (mOp fPow ma mb) := me_bin op_pow o_pow ha hb
/-! ### comparisons -/
theorem me_cmp {op : CmpOp} {r : R2} {f : D → D → Store → Res D} (ho : OpR X (compareOp op) r) (hs : Op2 (X.gd T) E r f) (ha : ME T X E a ma) (hb : ME T X E b mb) (hm : behindInMarks op b = false := by exact nomark _) : ME T X E (.Compare a [op] [b] pos) (mOp f ma mb) := by
  obtain ⟨ta, pa, sa⟩ := ha
  obtain ⟨tb, pb, sb⟩ := hb
  exact ⟨_, pe_cmpR ho pa pb hm, SndE.op sa sb hs⟩
theorem SndT.test {G : Gd} {ta : TE} (ha : SndE G E ta ma) : SndT G E (tTest ta) (mB ma) := fun σ H ρ φ R S rs rn =>
  Run.bnd (c' := fun x H1 Q => ∃ k, x = .bl k ∧ Q k H1) (ha σ H ρ φ R S rs rn) fun d S1 φ1 x H1 _ l1 rs1 r1 => by
    cases d with
    | bl b => exact Run.ret rs1 rfl fun Q q => ⟨b, Rv.bl_of r1, q⟩
    | _ => exact Run.bad
theorem mt_cmp {op : CmpOp} {r : R2} {f : D → D → Store → Res D} (ho : OpR X (compareOp op) r) (hs : Op2 (X.gd T) E r f) (ha : ME T X E a ma) (hb : ME T X E b mb) (hm : behindInMarks op b = false := by exact nomark _) : MT T X E (.Compare a [op] [b] pos) (mB (mOp f ma mb)) := by
  obtain ⟨ta, pa, sa⟩ := ha
  obtain ⟨tb, pb, sb⟩ := hb
  exact ⟨_, pt_cmpR ho pa pb hm, SndT.test (SndE.op sa sb hs)⟩
theorem SndE.chain {G : Gd} {r r' : R2} {f g : D → D → Store → Res D} {ta tb tc : TE} (ha : SndE G E ta ma) (hb : SndE G E tb mb) (hc : SndE G E tc mc) (ho : Op2 G E r f) (ho' : Op2 G E r' g) : SndE G E (tChain r r' ta tb tc) (mCmpC f g ma mb mc) := fun σ H ρ φ R S rs rn =>
  Run.bnd (ha σ H ρ φ R S rs rn) fun d S1 φ1 x H1 _ l1 rs1 r1 => Run.bnd (hb σ H1 ρ φ1 R S1 rs1 (rn.le l1)) fun e S2 φ2 y H2 _ l2 rs2 r2 =>
    Run.bnd (c' := fun z H3 Q => ∃ k, z = .bl k ∧ (if k = true then tc σ H3 fun w' H4 => r' y w' H4 Q else Q (.bl false) H3)) (ho R φ2 S2 H2 d e x y rs2 (Rv.le l2 r1) r2) fun z S3 φ3 w H3 _ l3 rs3 r3 => by
      cases z with
      | bl k =>
        cases k with
        | false => exact Run.ret rs3 Rv.bl fun Q q => ⟨false, Rv.bl_of r3, q⟩
        | true =>
          refine Run.conv (c := fun Q => tc σ H3 fun w' H4 => r' y w' H4 Q) (Run.bnd (hc σ H3 ρ φ3 R S3 rs3 (rn.le (l1.trans (l2.trans l3)))) fun u S4 φ4 w4 H4 _ l4 rs4 r4 => ho' R φ4 S4 H4 e u y w4 rs4 (Rv.le (l3.trans l4) r2) r4) fun Q q => ⟨true, Rv.bl_of r3, q⟩
      | _ => exact Run.bad
theorem me_chain {op op' : CmpOp} {r r' : R2} {f g : D → D → Store → Res D} (ho : OpR X (compareOp op) r) (hs : Op2 (X.gd T) E r f) (ho' : OpR X (compareOp op') r') (hs' : Op2 (X.gd T) E r' g) (ha : ME T X E a ma) (hb : ME T X E b mb) (hc : ME T X E c mc)
    (hm : lastMarks [op, op'] [b, c] = false := by with_unfolding_all rfl) : ME T X E (.Compare a [op, op'] [b, c] pos) (mCmpC f g ma mb mc) := by
  obtain ⟨ta, pa, sa⟩ := ha
  obtain ⟨tb, pb, sb⟩ := hb
  obtain ⟨tc, pc, sc⟩ := hc
  exact ⟨_, pe_chain ho ho' pa pb pc hm, SndE.chain sa sb sc hs hs'⟩
theorem mt_chain {op op' : CmpOp} {r r' : R2} {f g : D → D → Store → Res D} (ho : OpR X (compareOp op) r) (hs : Op2 (X.gd T) E r f) (ho' : OpR X (compareOp op') r') (hs' : Op2 (X.gd T) E r' g) (ha : ME T X E a ma) (hb : ME T X E b mb) (hc : ME T X E c mc)
    (hm : lastMarks [op, op'] [b, c] = false := by with_unfolding_all rfl) : MT T X E (.Compare a [op, op'] [b, c] pos) (mB (mCmpC f g ma mb mc)) := by
  obtain ⟨ta, pa, sa⟩ := ha
  obtain ⟨tb, pb, sb⟩ := hb
  obtain ⟨tc, pc, sc⟩ := hc
  exact ⟨_, pt_chain ho ho' pa pb pc hm, SndT.test (SndE.chain sa sb sc hs hs')⟩
/-! ### and, or, not, if-else -/
theorem me_one {op : BoolOp} (h : ME T X E a ma) : ME T X E (.BoolOp op [a] pos) ma := by
  obtain ⟨ta, pa, sa⟩ := h
  exact ⟨_, pe_one pa, sa⟩
theorem me_and (ha : ME T X E a ma) (hb : ME T X E (.BoolOp .And (b :: rest) pos) mb) : ME T X E (.BoolOp .And (a :: b :: rest) pos) (mAndV ma mb) := by
  obtain ⟨ta, pa, sa⟩ := ha
  obtain ⟨tb, pb, sb⟩ := hb
  refine ⟨_, pe_and pa pb, fun σ H ρ φ R S rs rn => Run.bnd (sa σ H ρ φ R S rs rn) fun d S1 φ1 x H1 _ l1 rs1 r1 => ?_⟩
  cases d with
  | bl k =>
    cases k with
    | false => exact Run.ret rs1 Rv.bl fun Q q => ⟨false, Rv.bl_of r1, q⟩
    | true => exact Run.conv (sb σ H1 ρ φ1 R S1 rs1 (rn.le l1)) fun Q q => ⟨true, Rv.bl_of r1, q⟩
  | _ => exact Run.bad
theorem me_or (ha : ME T X E a ma) (hb : ME T X E (.BoolOp .Or (b :: rest) pos) mb) : ME T X E (.BoolOp .Or (a :: b :: rest) pos) (mOrV ma mb) := by
  obtain ⟨ta, pa, sa⟩ := ha
  obtain ⟨tb, pb, sb⟩ := hb
  refine ⟨_, pe_or pa pb, fun σ H ρ φ R S rs rn => Run.bnd (sa σ H ρ φ R S rs rn) fun d S1 φ1 x H1 _ l1 rs1 r1 => ?_⟩
  cases d with
  | bl k =>
    cases k with
    | true => exact Run.ret rs1 Rv.bl fun Q q => ⟨true, Rv.bl_of r1, q⟩
    | false => exact Run.conv (sb σ H1 ρ φ1 R S1 rs1 (rn.le l1)) fun Q q => ⟨false, Rv.bl_of r1, q⟩
  | _ => exact Run.bad
theorem me_not (ha : ME T X E a ma) : ME T X E (.UnaryOp .Not a pos) (mNotV ma) := by
  obtain ⟨ta, pa, sa⟩ := ha
  refine ⟨_, pe_not pa, fun σ H ρ φ R S rs rn => Run.bnd (sa σ H ρ φ R S rs rn) fun d S1 φ1 x H1 _ l1 rs1 r1 => ?_⟩
  cases d with
  | bl k => exact Run.ret rs1 Rv.bl fun Q q => ⟨k, Rv.bl_of r1, q⟩
  | _ => exact Run.bad
theorem me_if {mc : MT0} (hc : MT T X E c mc) (ha : ME T X E a ma) (hb : ME T X E b mb) : ME T X E (.IfExp c a b pos) (mIfE mc ma mb) := by
  obtain ⟨tc, pc, sc⟩ := hc
  obtain ⟨ta, pa, sa⟩ := ha
  obtain ⟨tb, pb, sb⟩ := hb
  refine ⟨_, pe_ifExp pc pa pb, fun σ H ρ φ R S rs rn => Run.bnd (sc σ H ρ φ R S rs rn) fun d S1 φ1 x H1 _ l1 rs1 r1 => ?_⟩
  have e1 : d = x := r1
  subst e1
  cases d with
  | true => exact Run.conv (sa σ H1 ρ φ1 R S1 rs1 (rn.le l1)) fun Q q => by rw [if_pos rfl]; exact q
  | false => exact Run.conv (sb σ H1 ρ φ1 R S1 rs1 (rn.le l1)) fun Q q => by rw [if_neg Bool.false_ne_true]; exact q
/-! ### tests -/
theorem mt_val (h : ME T X E e me) (he : ∀ whole, isTrue e X.env whole = (do let v ← whole; standAt e.pos; holding [v] (truthy v)) := by intro _; rfl) : MT T X E e (mB me) := by
  obtain ⟨t, pt, st⟩ := h
  exact ⟨_, pt_val pt he, SndT.test st⟩
theorem mw_pt (h : MW T X E e mA) : MT T X E e mA := by
  obtain ⟨t, pt, st⟩ := h
  exact ⟨_, pt.pt, st⟩
theorem mw_and1 (h : MT T X E a mA) : MW T X E (.BoolOp .And [a] pos) mA := by
  obtain ⟨t, pt, st⟩ := h
  exact ⟨_, pw_and1 pt, st⟩
theorem mw_or1 (h : MT T X E a mA) : MW T X E (.BoolOp .Or [a] pos) mA := by
  obtain ⟨t, pt, st⟩ := h
  exact ⟨_, pw_or1 pt, st⟩
theorem mw_and (ha : MT T X E a mA) (hb : MW T X E (.BoolOp .And (b :: rest) pos) mB') : MW T X E (.BoolOp .And (a :: b :: rest) pos) (mAndT mA mB') := by
  obtain ⟨ta, pa, sa⟩ := ha
  obtain ⟨tb, pb, sb⟩ := hb
  refine ⟨_, pw_and pa pb, fun σ H ρ φ R S rs rn => Run.bnd (sa σ H ρ φ R S rs rn) fun d S1 φ1 x H1 _ l1 rs1 r1 => ?_⟩
  have e1 : d = x := r1
  subst e1
  cases d with
  | true => exact Run.conv (sb σ H1 ρ φ1 R S1 rs1 (rn.le l1)) fun Q q => by rw [if_pos rfl]; exact q
  | false => exact Run.ret rs1 rfl fun Q q => by rw [if_neg Bool.false_ne_true]; exact q
theorem mw_or (ha : MT T X E a mA) (hb : MW T X E (.BoolOp .Or (b :: rest) pos) mB') : MW T X E (.BoolOp .Or (a :: b :: rest) pos) (mOrT mA mB') := by
  obtain ⟨ta, pa, sa⟩ := ha
  obtain ⟨tb, pb, sb⟩ := hb
  refine ⟨_, pw_or pa pb, fun σ H ρ φ R S rs rn => Run.bnd (sa σ H ρ φ R S rs rn) fun d S1 φ1 x H1 _ l1 rs1 r1 => ?_⟩
  have e1 : d = x := r1
  subst e1
  cases d with
  | true => exact Run.ret rs1 rfl fun Q q => by rw [if_pos rfl]; exact q
  | false => exact Run.conv (sb σ H1 ρ φ1 R S1 rs1 (rn.le l1)) fun Q q => by rw [if_neg Bool.false_ne_true]; exact q
theorem mt_not (ha : MT T X E a mA) : MT T X E (.UnaryOp .Not a pos) (mNotT mA) := by
  obtain ⟨ta, pa, sa⟩ := ha
  refine ⟨_, pt_not pa, fun σ H ρ φ R S rs rn => Run.bnd (sa σ H ρ φ R S rs rn) fun d S1 φ1 x H1 _ l1 rs1 r1 => ?_⟩
  have e1 : d = x := r1
  subst e1
  exact Run.ret rs1 rfl fun Q q => q
/-! ### arguments, displays -/
/-- arguments, told by their number, too -/
def MAn (T : List Addr) (X : Cx) (E : XK) (es : List Expr) (m : MA0) : Prop := MA T X E es m ∧ ∀ ρ S ds S', m ρ S = .ok ds S' → ds.length = es.length
theorem ma_nil : MAn T X E [] mNil := ⟨⟨_, pa_nil, fun σ H ρ φ R S rs rn => Run.ret rs RvL.nil fun Q q => q⟩, fun ρ S ds S' h => by cases h; rfl⟩
theorem ma_cons (ha : ME T X E e me) (hr : MAn T X E es mr) (hs : starEach (e :: es) X.env = (false, eval e X.env) :: starEach es X.env := by rfl) : MAn T X E (e :: es) (mCons me mr) := by
  obtain ⟨ta, pa, sa⟩ := ha
  obtain ⟨⟨tr, pr, sr⟩, hl⟩ := hr
  refine ⟨⟨_, pa_cons pa pr hs, fun σ H ρ φ R S rs rn => Run.bnd (sa σ H ρ φ R S rs rn) fun d S1 φ1 x H1 _ l1 rs1 r1 => Run.bnd (sr σ H1 ρ φ1 R S1 rs1 (rn.le l1)) fun ds S2 φ2 xs H2 _ l2 rs2 r2 => Run.ret rs2 (RvL.cons (Rv.le l2 r1) r2) fun Q q => q⟩, fun ρ S ds S' h => ?_⟩
  unfold mCons at h
  cases h1 : me ρ S with
  | ok x S1 =>
    rw [h1] at h
    cases h2 : mr ρ S1 with
    | ok xs S2 =>
      rw [Res.bind_ok, h2] at h
      cases h
      rw [List.length_cons, List.length_cons, hl _ _ _ _ h2]
    | exc e S2 => rw [Res.bind_ok, h2] at h; cases h
    | bad => rw [Res.bind_ok, h2] at h; cases h
  | exc e S2 => rw [h1] at h; cases h
  | bad => rw [h1] at h; cases h
theorem me_tup {k : Nat} (h : MAn T X E es mr) (hl : es.length ≤ sizeLine := by decide) : ME T X E (.Tuple es k pos) (mTup mr) := by
  obtain ⟨⟨tr, pr, sr⟩, hn⟩ := h
  refine ⟨_, pe_tup pr, fun σ H ρ φ R S rs rn => Run.bnd (sr σ H ρ φ R S rs rn) fun ds S1 φ1 xs H1 e l1 rs1 r1 => ?_⟩
  refine Run.new (o := .tup xs) rs1 (fun p hp => Rv.tup upd_same (RvL.le (Le.new rs1 hp) r1)) fun Q q => ⟨?_, q⟩
  rw [← RvL.length r1, hn _ _ _ _ e]
  exact hl
theorem me_lst (h : MAn T X E es mr) (hl : es.length ≤ sizeLine := by decide) : ME T X E (.List es pos) (mLst mr) := by
  obtain ⟨⟨tr, pr, sr⟩, hn⟩ := h
  refine ⟨_, pe_lst pr, fun σ H ρ φ R S rs rn => Run.bnd (sr σ H ρ φ R S rs rn) fun ds S1 φ1 xs H1 e l1 rs1 r1 => ?_⟩
  refine Run.new (o := .lst xs) rs1 (fun p hp => Rv.lst (rs1.fresh hp).1 (rs1.fresh hp).2 upd_same (RvL.le (Le.new rs1 hp) r1)) fun Q q => ⟨?_, q⟩
  rw [← RvL.length r1, hn _ _ _ _ e]
  exact hl
/-- a new store object behind it -/
theorem Run.alloc {G : Gd} {R φ : List Addr} {S : Store} {H : Hp} {o : HO} {o' : O} {c : VK → Prop} (rs : Rs G R φ S H) (h : ∀ p, H p = none → Ro G R (φ ++ [p]) (upd H p o) o' p) (hc : ∀ Q : VK, (∀ p, H p = none → Q (.ref p) (upd H p o)) → c Q) :
    Run G E R φ H (RelV' G R) (.ok (.ref S.length) (S ++ [o'])) c := fun Q hq _ _ => hc Q fun p hp => hq _ _ (φ ++ [p]) (.ref p) _ rfl (Le.alloc rs hp) (rs.alloc hp (h p hp)) (by
    show Rv G R _ _ (.ref S.length) (.ref p)
    unfold Rv
    refine ⟨p, rfl, ?_⟩
    rw [List.getElem?_append_right (by rw [rs.len]; exact Nat.le_refl _), rs.len, Nat.sub_self]
    rfl)
theorem me_lstS (h : MAn T X E es mr) (hl : es.length ≤ sizeLine := by decide) : ME T X E (.List es pos) (mLstS mr) := by
  obtain ⟨⟨tr, pr, sr⟩, hn⟩ := h
  refine ⟨_, pe_lst pr, fun σ H ρ φ R S rs rn => Run.bnd (sr σ H ρ φ R S rs rn) fun ds S1 φ1 xs H1 e l1 rs1 r1 => ?_⟩
  refine Run.alloc (o := .lst xs) (o' := .lst ds) rs1 (fun p hp => Ro.mkL upd_same (RvL.le (Le.alloc rs1 hp) r1)) fun Q q => ⟨?_, q⟩
  rw [← RvL.length r1, hn _ _ _ _ e]
  exact hl
theorem SndE.cb {G : Gd} {r : List V → Hp → VK → Prop} {f : List D → Store → Res D} {ta : TA} (ha : SndA G E ta mr) (ho : OpL G E r f) : SndE G E (tCB r ta) (mCall f mr) := fun σ H ρ φ R S rs rn =>
  Run.bnd (ha σ H ρ φ R S rs rn) fun ds S1 φ1 xs H1 _ l1 rs1 r1 => ho R φ1 S1 H1 ds xs rs1 r1
/-- a built-in by its name -/
theorem me_cb {id : String} {x : Str} {r : List V → Hp → VK → Prop} {f : List D → Store → Res D} (hc : CallR X (.builtin id) r) (ho : OpL (X.gd T) E r f) (hg : Gl X x) (hm : X.mg x = none) (hv : bootBuiltins x = some (.builtin id)) (ha : MAn T X E (e :: es) mr)
    (hn : x ≠ "__name__" := by decide) (hdb : (x == ("__debug__" : Str)) = false := by decide)
    (he : starEach (e :: es) X.env = (false, eval e X.env) :: starEach es X.env := by rfl) (hpl : (backTo pos (starEach es X.env)).any (·.1) = false := by rfl) : ME T X E (.Call (.Name x p) (e :: es) [] pos) (mCall f mr) := by
  obtain ⟨⟨tr, pr, sr⟩, _⟩ := ha
  exact ⟨_, pe_callB hc hg hm hv pr hn hdb he hpl, SndE.cb sr ho⟩
theorem me_cty {TT : String} {x : Str} {r : List V → Hp → VK → Prop} {f : List D → Store → Res D} (hc : CallR X (.type TT) r) (ho : OpL (X.gd T) E r f) (hg : Gl X x) (hm : X.mg x = none) (hv : bootBuiltins x = some (.type TT)) (ha : MAn T X E (e :: es) mr)
    (hn : x ≠ "__name__" := by decide) (hdb : (x == ("__debug__" : Str)) = false := by decide)
    (he : starEach (e :: es) X.env = (false, eval e X.env) :: starEach es X.env := by rfl) (hpl : (backTo pos (starEach es X.env)).any (·.1) = false := by rfl) : ME T X E (.Call (.Name x p) (e :: es) [] pos) (mCall f mr) := by
  obtain ⟨⟨tr, pr, sr⟩, _⟩ := ha
  exact ⟨_, pe_callTy hc hg hm hv pr hn hdb he hpl, SndE.cb sr ho⟩
/-! ### items -/
theorem me_ix (ha : ME T X E a ma) (hb : ME T X E b mb) (hs : PlainIx b := by exact fun _ _ => rfl) : ME T X E (.Subscript a b pos) (mOp fIx ma mb) := by
  obtain ⟨ta, pa, sa⟩ := ha
  obtain ⟨tb, pb, sb⟩ := hb
  exact ⟨_, pe_ix ix_seq pa pb hs, SndE.op sa sb o_ix⟩
/-! ### a def's promise -/
def spM (G : Gd) (n : Nat) (f : List D → Store → Res D) : Sp := fun vs H Q E => ∃ φ R S ds, Rs G R φ S H ∧ RvL G R φ H ds vs ∧ ds.length = n ∧ f ds S ≠ .bad ∧
  (∀ d S' φ' v H', f ds S = .ok d S' → Le φ H φ' H' → Rs G R φ' S' H' → Rv G R φ' H' d v → Q v H') ∧
  (∀ er S' φ' H' cl d, f ds S = .exc er S' → Le φ H φ' H' → Rs G R φ' S' H' → Xq G R φ' H' er cl d → E cl d H')
theorem SndE.call {G : Gd} {n : Nat} {f : List D → Store → Res D} {ta : TA} (ha : SndA G E ta mr) (hn : ∀ ρ S ds S', mr ρ S = .ok ds S' → ds.length = n) : SndE G E (tCall (spM G n f) [] E ta) (mCall f mr) := fun σ H ρ φ R S rs rn =>
  Run.bnd (c' := fun vs H1 Q => spM G n f (vs ++ []) H1 Q E) (ha σ H ρ φ R S rs rn) fun ds S1 φ1 xs H1 e l1 rs1 r1 => fun Q hq he hb => by
    refine ⟨φ1, R, S1, ds, rs1, ?_, hn _ _ _ _ e, hb, hq, he⟩
    rw [List.append_nil]
    exact r1
theorem me_call {k : Nat} {f : Addr} {fd : FuncData} {ps : List Str} {x : Str} {n : Nat} {m : List D → Store → Res D} (F : FnOk X.prog X.w X.K X.mg X.base (L2.CX X.prog X.w) k f fd ps (spM (X.gd T) n m)) (hr : Room k X.A) (hg : Gl X x) (hm : X.mg x = some (.ref f)) (hk : PySem.W.keepIn X.K (.ref f) = true) (hb : Binds X.K fd ps [])
    (hx : Passes (L2.CX X.prog X.w) X E) (ha : MAn T X E (e :: es) mr) (hn : (e :: es).length = n := by rfl) (hdb : (x == ("__debug__" : Str)) = false := by decide) (he : starEach (e :: es) X.env = (false, eval e X.env) :: starEach es X.env := by rfl) (hpl : (backTo pos (starEach es X.env)).any (·.1) = false := by rfl) :
    ME T X E (.Call (.Name x p) (e :: es) [] pos) (mCall m mr) := by
  obtain ⟨⟨tr, pr, sr⟩, hl⟩ := ha
  exact ⟨_, pe_call F hr hg hm hk hb .nil hx pr hdb he hpl, SndE.call sr fun ρ S ds S' h => (hl ρ S ds S' h).trans hn⟩
theorem me_call0 {k : Nat} {f : Addr} {fd : FuncData} {ps : List Str} {x : Str} {m : List D → Store → Res D} (F : FnOk X.prog X.w X.K X.mg X.base (L2.CX X.prog X.w) k f fd ps (spM (X.gd T) 0 m)) (hr : Room k X.A) (hg : Gl X x) (hm : X.mg x = some (.ref f)) (hk : PySem.W.keepIn X.K (.ref f) = true) (hb : Binds X.K fd ps [])
    (hx : Passes (L2.CX X.prog X.w) X E) (hdb : (x == ("__debug__" : Str)) = false := by decide) : ME T X E (.Call (.Name x p) [] [] pos) (mCall m mNil) := by
  refine ⟨_, pe_call0 F hr hg hm hk hb .nil hx hdb, fun σ H ρ φ R S rs rn Q hq he hb => ?_⟩
  exact ⟨φ, R, S, [], rs, RvL.nil, rfl, hb, hq, he⟩
end
end MM

/-! The mirror layer's rules: statements, loops, comprehensions, defs. -/
namespace MM
open PySem L2

/-! ### the mirrors of statements -/
def sNx : MS0 := fun ρ S => .ok (.nx, ρ) S
def sBk : MS0 := fun ρ S => .ok (.bk, ρ) S
def sCt : MS0 := fun ρ S => .ok (.ct, ρ) S
def sNever : MS0 := fun _ _ => .bad
def sSeq (a b : MS0) : MS0 := fun ρ S => (a ρ S).bind fun x S1 => match x.1 with
  | .nx => b x.2 S1
  | fl => .ok (fl, x.2) S1
def sExpr (m : ME0) : MS0 := fun ρ S => (m ρ S).bind fun _ S1 => .ok (.nx, ρ) S1
def sRet (m : ME0) : MS0 := fun ρ S => (m ρ S).bind fun d S1 => .ok (.rt d, ρ) S1
def sRetN : MS0 := fun ρ S => .ok (.rt .non, ρ) S
def sIf (c : MT0) (a b : MS0) : MS0 := fun ρ S => (c ρ S).bind fun x S1 => if x = true then a ρ S1 else b ρ S1
/-- targets -/
abbrev MG0 := D → Rho → Store → Res Rho
abbrev MGs0 := List D → Rho → Store → Res Rho
def gN (i : Nat) : MG0 := fun d ρ S => .ok (ρ.set i (some d)) S
def gsNil : MGs0 := fun ds ρ S => match ds with
  | [] => .ok ρ S
  | _ => .bad
def gsCons (g : MG0) (gs : MGs0) : MGs0 := fun ds ρ S => match ds with
  | d :: r => (g d ρ S).bind fun ρ1 S1 => gs r ρ1 S1
  | [] => .bad
def gTp (n : Nat) (gs : MGs0) : MG0 := fun d ρ S => match d with
  | .tup ds => if ds.length = n then gs ds ρ S else .bad
  | _ => .bad
/-- o[i] = value, o a list of the store -/
def gIx (mo mi : ME0) : MG0 := fun d ρ S => (mo ρ S).bind fun o S1 => (mi ρ S1).bind fun i S2 => match o, i with
  | .ref n, .int k => match lstAt S2 n with
    | some ds => match ixN ds.length k with
      | some j => .ok ρ (S2.set n (.lst (ds.set j d)))
      | none => .bad
    | none => .bad
  | _, _ => .bad
def sAsg (m : ME0) (g : MG0) : MS0 := fun ρ S => (m ρ S).bind fun d S1 => (g d ρ S1).bind fun ρ1 S2 => .ok (.nx, ρ1) S2
/-- an iterator: at turn i over a store: none (not told), or at its end, or an item -/
structure ItD where
  get : Nat → Store → Option (Option D)
abbrev MI0 := Rho → Store → Res ItD
def itL (ds : List D) : ItD := ⟨fun i _ => some ds[i]?⟩
def itS (n : Nat) : ItD := ⟨fun i S => (lstAt S n).map fun ds => ds[i]?⟩
def itR (lo : Int) (n : Nat) : ItD := ⟨fun i _ => some (if i < n then some (.int (lo + i)) else none)⟩
def itE (ds : List D) : ItD := ⟨fun i _ => some (ds[i]?.map fun d => .tup [.int i, d])⟩
def BIG : Nat := 2 ^ 40
theorem BIG_eq : BIG = 2 ^ 40 := rfl
def forL (g : MG0) (b : MS0) : Nat → Nat → ItD → Rho → Store → Res (Fl × Rho)
  | 0, _, _, _, _ => .bad
  | f + 1, i, it, ρ, S => match it.get i S with
    | none => .bad
    | some none => .ok (.nx, ρ) S
    | some (some d) => (g d ρ S).bind fun ρ1 S1 => (b ρ1 S1).bind fun x S2 => match x.1 with
      | .nx => forL g b f (i + 1) it x.2 S2
      | .ct => forL g b f (i + 1) it x.2 S2
      | .bk => .ok (.nx, x.2) S2
      | .rt d => .ok (.rt d, x.2) S2
def sFor (mi : MI0) (g : MG0) (b : MS0) : MS0 := fun ρ S => (mi ρ S).bind fun it S1 => forL g b BIG 0 it ρ S1
def whL (c : MT0) (b : MS0) : Nat → Rho → Store → Res (Fl × Rho)
  | 0, _, _ => .bad
  | f + 1, ρ, S => (c ρ S).bind fun k S1 => if k = true then (b ρ S1).bind fun x S2 => match x.1 with
      | .nx => whL c b f x.2 S2
      | .ct => whL c b f x.2 S2
      | .bk => .ok (.nx, x.2) S2
      | .rt d => .ok (.rt d, x.2) S2
    else .ok (.nx, ρ) S1
def sWhile (c : MT0) (b : MS0) : MS0 := whL c b BIG
/-- comprehensions: nothing raised within -/
def Res.calm {α : Type} : Res α → Res α
  | .exc _ _ => .bad
  | r => r
def wipeD (ρ : Rho) : List Nat → Rho
  | [] => ρ
  | v :: vs => (wipeD ρ vs).set v none
def lcL (g : MG0) (tt : MT0) (te : ME0) : Nat → Nat → ItD → Rho → List D → Store → Res (List D)
  | 0, _, _, _, _, _ => .bad
  | f + 1, i, it, ρ, acc, S => match it.get i S with
    | none => .bad
    | some none => .ok acc S
    | some (some d) => (g d ρ S).calm.bind fun ρ1 S1 => (tt ρ1 S1).calm.bind fun b S2 =>
      if b = true then (te ρ1 S2).calm.bind fun y S3 => if acc.length < sizeLine then lcL g tt te f (i + 1) it ρ (acc ++ [y]) S3 else .bad
      else lcL g tt te f (i + 1) it ρ acc S2
def mLcL (mi : MI0) (g : MG0) (tt : MT0) (te : ME0) (vs : List Nat) : Rho → Store → Res (List D) := fun ρ S => (mi ρ S).bind fun it S1 => lcL g tt te BIG 0 it (wipeD ρ vs) [] S1
def mLc (mi : MI0) (g : MG0) (tt : MT0) (te : ME0) (vs : List Nat) : ME0 := fun ρ S => (mLcL mi g tt te vs ρ S).bind fun ds S1 => .ok (.lst ds) S1
/-- .. a list that may be changed -/
def mLcS (mi : MI0) (g : MG0) (tt : MT0) (te : ME0) (vs : List Nat) : ME0 := fun ρ S => (mLcL mi g tt te vs ρ S).bind fun ds S1 => .ok (.ref S1.length) (S1 ++ [.lst ds])
def mYes : MT0 := fun _ S => .ok true S
def mDef (N : Nat) (b : MS0) : List D → Store → Res D := fun ds S => (b (ds.map some ++ List.replicate (N - ds.length) none) S).bind fun x S1 => match x.1 with
  | .nx => .ok .non S1
  | .rt d => .ok d S1
  | _ => .bad

section
variable {T : List Addr} {X : Cx} {E : XK} {st : Stmt} {sts a b : List Stmt} {e c tg iter : Expr} {me : ME0} {mc : MT0} {m m1 m2 mb : MS0} {pos p : Pos}
theorem SndS.nx {G : Gd} : SndS G E tNext sNx := fun σ H ρ φ R S rs rn => Run.ret (v := Out.nx σ) rs (show RelO G R φ H (.nx, ρ) (.nx σ) from rn) fun Q q => q
theorem mss_nil : MSs T X E [] sNx := ⟨_, pss_nil, SndS.nx⟩
theorem mss_one (h : MS T X E st m) : MSs T X E [st] m := by
  obtain ⟨t, pt, s⟩ := h
  exact ⟨_, pss_one pt, s⟩
theorem mss_cons (h1 : MS T X E st m1) (h2 : MSs T X E sts m2) : MSs T X E (st :: sts) (sSeq m1 m2) := by
  obtain ⟨t, pt, s1⟩ := h1
  obtain ⟨u, pu, s2⟩ := h2
  refine ⟨_, pss_cons pt pu, fun σ H ρ φ R S rs rn => Run.bnd (c' := fun (o : Out) H1 (Q : Out → Hp → Prop) => match o with
    | .nx σ1 => u (endsOf Q) σ1 H1
    | o => Q o H1) (s1 σ H ρ φ R S rs rn) (fun x S1 φ1 o H1 _ l1 rs1 r1 => ?_) fun Q q => q⟩
  obtain ⟨fl, ρ1⟩ := x
  cases fl with
  | nx =>
    cases o with
    | nx σ1 => exact s2 σ1 H1 ρ1 φ1 R S1 rs1 r1
    | _ => exact False.elim r1
  | rt d =>
    cases o with
    | rt v => exact Run.ret (v := Out.rt v) rs1 r1 fun Q q => q
    | _ => exact False.elim r1
  | bk =>
    cases o with
    | bk σ1 => exact Run.ret (v := Out.bk σ1) rs1 r1 fun Q q => q
    | _ => exact False.elim r1
  | ct =>
    cases o with
    | ct σ1 => exact Run.ret (v := Out.ct σ1) rs1 r1 fun Q q => q
    | _ => exact False.elim r1
theorem ms_pass : MS T X E (.Pass pos) sNx := ⟨_, ps_pass, SndS.nx⟩
theorem ms_break : MS T X E (.Break pos) sBk := ⟨_, ps_break, fun σ H ρ φ R S rs rn => Run.ret (v := Out.bk σ) rs (show RelO (X.gd T) R φ H (.bk, ρ) (.bk σ) from rn) fun Q q => q⟩
theorem ms_continue : MS T X E (.Continue pos) sCt := ⟨_, ps_continue, fun σ H ρ φ R S rs rn => Run.ret (v := Out.ct σ) rs (show RelO (X.gd T) R φ H (.ct, ρ) (.ct σ) from rn) fun Q q => q⟩
theorem ms_never : MS T X E st sNever := ⟨_, ps_never, fun σ H ρ φ R S rs rn => Run.bad⟩
theorem ms_expr (h : ME T X E e me) (hs : swapsWith e none pos.line X.env = pure false := by rfl) : MS T X E (.Expr e pos) (sExpr me) := by
  obtain ⟨t, pt, s⟩ := h
  exact ⟨_, ps_expr pt hs, fun σ H ρ φ R S rs rn => Run.bnd (c' := fun _ H1 Q => Q (Out.nx σ) H1) (s σ H ρ φ R S rs rn) fun d S1 φ1 v H1 _ l1 rs1 r1 => Run.ret (v := Out.nx σ) rs1 (show RelO (X.gd T) R φ1 H1 (.nx, ρ) (.nx σ) from rn.le l1) fun Q q => q⟩
theorem ms_ret (h : ME T X E e me) : MS T X E (.Return (some e) pos) (sRet me) := by
  obtain ⟨t, pt, s⟩ := h
  exact ⟨_, ps_ret pt, fun σ H ρ φ R S rs rn => Run.bnd (c' := fun v H1 Q => Q (Out.rt v) H1) (s σ H ρ φ R S rs rn) fun d S1 φ1 v H1 _ l1 rs1 r1 => Run.ret (v := Out.rt v) rs1 (show RelO (X.gd T) R φ1 H1 (.rt d, ρ) (.rt v) from r1) fun Q q => q⟩
theorem ms_retN : MS T X E (.Return none pos) sRetN := ⟨_, ps_retN, fun σ H ρ φ R S rs rn => Run.ret (v := Out.rt .non) rs (show RelO (X.gd T) R φ H (.rt .non, ρ) (.rt .non) from (Rv.non : Rv (X.gd T) R φ H .non .non)) fun Q q => q⟩
theorem ms_if (hc : MT T X E c mc) (ha : MSs T X E a m1) (hb : MSs T X E b m2) : MS T X E (.If c a b pos) (sIf mc m1 m2) := by
  obtain ⟨tc, pc, sc⟩ := hc
  obtain ⟨ta, pa, sa⟩ := ha
  obtain ⟨tb, pb, sb⟩ := hb
  refine ⟨_, ps_if pc pa pb, fun σ H ρ φ R S rs rn => Run.bnd (c' := fun k H1 Q => if k = true then ta (endsOf Q) σ H1 else tb (endsOf Q) σ H1) (sc σ H ρ φ R S rs rn) (fun d S1 φ1 x H1 _ l1 rs1 r1 => ?_) fun Q q => q⟩
  have e1 : d = x := r1
  subst e1
  cases d with
  | true => exact Run.conv (sa σ H1 ρ φ1 R S1 rs1 (rn.le l1)) fun Q q => by rw [if_pos rfl]; exact q
  | false => exact Run.conv (sb σ H1 ρ φ1 R S1 rs1 (rn.le l1)) fun Q q => by rw [if_neg Bool.false_ne_true]; exact q
/-! ### targets -/
abbrev RelR (G : Gd) (R : List Addr) : List Addr → Hp → Rho → L2.St → Prop := fun φ H ρ σ => Rn G R φ H ρ σ
def SndG (G : Gd) (E : XK) (t : TG) (g : MG0) : Prop := ∀ d v σ H ρ φ R S, Rs G R φ S H → Rn G R φ H ρ σ → Rv G R φ H d v → Run G E R φ H (RelR G R) (g d ρ S) (fun Q => t v σ H Q)
def SndGs (G : Gd) (E : XK) (t : TGs) (g : MGs0) : Prop := ∀ ds vs σ H ρ φ R S, Rs G R φ S H → Rn G R φ H ρ σ → RvL G R φ H ds vs → Run G E R φ H (RelR G R) (g ds ρ S) (fun Q => t vs σ H Q)
def MG (T : List Addr) (X : Cx) (E : XK) (tg : Expr) (g : MG0) : Prop := ∃ t, PG X tg t ∧ SndG (X.gd T) E t g
def MGs (T : List Addr) (X : Cx) (E : XK) (tgs : List Expr) (g : MGs0) : Prop := ∃ t, PGs X tgs t ∧ SndGs (X.gd T) E t g
theorem SndG.name {G : Gd} {i : Nat} : SndG G E (gName i) (gN i) := fun d v σ H ρ φ R S rs rn r => Run.ret (v := σ.set i (some v)) rs (rn.set r) fun Q q => q
theorem mg_name {i : Nat} {x : Str} (hN : X.N.Nodup) (hi : X.N[i]? = some x) (hx : Loc X.env.scope x := by first | exact Or.inl rfl | exact Or.inr rfl) (hf : X.fn x = true ∨ X.env.scope.names.lookup x = some .local := by first | exact .inl rfl | exact .inr rfl | assumption) : MG T X E (.Name x pos) (gN i) :=
  ⟨_, pg_name hN hi hx hf, SndG.name⟩
theorem mgs_nil : MGs T X E [] gsNil := ⟨_, pgs_nil, fun ds vs σ H ρ φ R S rs rn r => by
  cases ds with
  | nil =>
    unfold RvL at r
    subst r
    exact Run.ret rs rn fun Q q => ⟨rfl, q⟩
  | cons d ds => exact Run.bad⟩
theorem mgs_cons {es : List Expr} {g : MG0} {gs : MGs0} (h1 : MG T X E e g) (h2 : MGs T X E es gs) (hs : (assignEach (e :: es) X.env).map (·.2) = assign e X.env :: (assignEach es X.env).map (·.2) := by rfl) : MGs T X E (e :: es) (gsCons g gs) := by
  obtain ⟨t, pt, s1⟩ := h1
  obtain ⟨u, pu, s2⟩ := h2
  refine ⟨_, pgs_cons pt pu hs, fun ds vs σ H ρ φ R S rs rn r => ?_⟩
  cases ds with
  | nil => exact Run.bad
  | cons d ds =>
    unfold RvL at r
    obtain ⟨v, vr, rfl, r1, r2⟩ := r
    refine Run.bnd (c' := fun σ1 H1 Q => u vr σ1 H1 Q) (s1 d v σ H ρ φ R S rs rn r1) (fun ρ1 S1 φ1 σ1 H1 _ l1 rs1 q1 => s2 ds vr σ1 H1 ρ1 φ1 R S1 rs1 q1 (RvL.le l1 r2)) fun Q q => ⟨v, vr, rfl, q⟩
theorem mg_tup {es : List Expr} {k n : Nat} {gs : MGs0} (hc : X.calm = true) (h : MGs T X E es gs) (hn : (assignEach es X.env).length = n := by rfl) (hst : (assignEach es X.env).findIdx? (·.1) = none := by rfl) : MG T X E (.Tuple es k pos) (gTp n gs) := by
  obtain ⟨t, pt, s⟩ := h
  refine ⟨_, pg_tup hc pt hn hst, fun d v σ H ρ φ R S rs rn r => ?_⟩
  cases d with
  | tup ds =>
    obtain ⟨a, vs, rfl, h1, h2⟩ := Rv.tup_of r
    show Run (X.gd T) E R φ H _ (if ds.length = n then gs ds ρ S else .bad) _
    by_cases hl : ds.length = n
    · rw [if_pos hl]
      exact Run.conv (s ds vs σ H ρ φ R S rs rn h2) fun Q q => ⟨a, vs, rfl, h1, by rw [← RvL.length h2]; exact hl, q⟩
    · rw [if_neg hl]
      exact Run.bad
  | _ => exact Run.bad
theorem mg_ix {o i : Expr} {mo mi : ME0} (ho : ME T X E o mo) (hi : ME T X E i mi)
    (ha : ∀ v, assign (.Subscript o i pos) X.env v = (do
      let ov ← holding [v] (eval o X.env)
      let iv ← holding [v, ov] (eval i X.env)
      standAt pos
      holding [v, ov, iv] (setItem ov iv v)
      release [v, ov, iv] []) := by intro _; rfl) : MG T X E (.Subscript o i pos) (gIx mo mi) := by
  obtain ⟨to, po, so⟩ := ho
  obtain ⟨ti, pi, si⟩ := hi
  refine ⟨_, pg_sub po pi set_list ha, fun d v σ H ρ φ R S rs rn r => ?_⟩
  refine Run.bnd (c' := fun o H1 Q => ti σ H1 fun i H2 => rSetL o i v H2 fun H3 => Q σ H3) (so σ H ρ φ R S rs rn) (fun o S1 φ1 ov H1 _ l1 rs1 r1 => ?_) fun Q q => q
  refine Run.bnd (c' := fun i H2 Q => rSetL ov i v H2 fun H3 => Q σ H3) (si σ H1 ρ φ1 R S1 rs1 (rn.le l1)) (fun i S2 φ2 iv H2 _ l2 rs2 r2 => ?_) fun Q q => q
  have l12 := l1.trans l2
  cases o with
  | ref n =>
    cases i with
    | int k =>
      show Run (X.gd T) E R φ2 H2 _ (match lstAt S2 n with
        | some ds => match ixN ds.length k with
          | some j => .ok ρ (S2.set n (.lst (ds.set j d)))
          | none => .bad
        | none => .bad) _
      split
      · rename_i ds hds
        split
        · rename_i j hj
          obtain ⟨a, vs, rfl, ha, h1, h2⟩ := rs2.lst (Rv.le l2 r1) (lstAt_of hds)
          have lw : Le φ2 H2 φ2 (upd H2 a (.lst (vs.set j v))) := Le.write rs2 ha
          have rw' := rs2.write (ho := .lst (vs.set j v)) (o := .lst (ds.set j d)) ha (Ro.mkL upd_same (RvL.set (RvL.le lw h2) (Rv.le (l12.trans lw) r)))
          intro Q hq _ _
          refine ⟨a, vs, k, j, rfl, Rv.int_of r2, h1, by rw [← RvL.length h2]; exact hj, ?_⟩
          exact hq ρ _ φ2 σ _ rfl lw rw' (rn.le (l12.trans lw))
        · exact Run.bad
      · exact Run.bad
    | _ => exact Run.bad
  | _ => exact Run.bad
theorem SndS.asg {G : Gd} {te : TE} {t : TG} {g : MG0} (se : SndE G E te me) (sg : SndG G E t g) : SndS G E (tAsg te t) (sAsg me g) := fun σ H ρ φ R S rs rn =>
  Run.bnd (c' := fun v H1 Q => t v σ H1 fun σ1 H2 => Q (Out.nx σ1) H2) (se σ H ρ φ R S rs rn) (fun d S1 φ1 v H1 _ l1 rs1 r1 =>
    Run.bnd (c' := fun σ1 H2 Q => Q (Out.nx σ1) H2) (sg d v σ H1 ρ φ1 R S1 rs1 (rn.le l1) r1) (fun ρ1 S2 φ2 σ1 H2 _ l2 rs2 r2 => Run.ret (v := Out.nx σ1) rs2 (show RelO G R φ2 H2 (.nx, ρ1) (.nx σ1) from r2) fun Q q => q) fun Q q => q) fun Q q => q
theorem ms_asg {g : MG0} (he : ME T X E e me) (hg : MG T X E tg g) (hs : swapsWithSole [tg] e pos.line X.env = pure false := by rfl) (hw : swappedStores [tg] e X.env = pure none := by rfl)
    (h1 : (assignEach [tg] X.env).map (·.2) = [assign tg X.env] := by rfl) : MS T X E (.Assign [tg] e pos) (sAsg me g) := by
  obtain ⟨t, pt, s⟩ := he
  obtain ⟨u, pu, sg⟩ := hg
  exact ⟨_, ps_asg pt pu hs hw h1, SndS.asg s sg⟩
theorem ms_set {i : Nat} {x : Str} {pos' : Pos} (hN : X.N.Nodup) (hi : X.N[i]? = some x) (he : ME T X E e me) (hx : Loc X.env.scope x := by first | exact Or.inl rfl | exact Or.inr rfl) (hs : swapsWith e (some (.Name x pos')) pos.line X.env = pure false := by rfl) (hf : X.fn x = true ∨ X.env.scope.names.lookup x = some .local := by first | exact .inl rfl | exact .inr rfl | assumption) :
    MS T X E (.Assign [.Name x pos'] e pos) (sAsg me (gN i)) := by
  obtain ⟨t, pt, s⟩ := he
  exact ⟨_, ps_set hN hi hx pt hs hf, SndS.asg s SndG.name⟩
/-! ### iterators -/
def RelI (G : Gd) (R : List Addr) : List Addr → Hp → ItD → It → Prop := fun φ0 H0 it J => ∀ R', (∀ a ∈ R', a ∈ R ∨ H0 a = none) → ∀ i φ S H, Le φ0 H0 φ H → Rs G R' φ S H →
  (it.get i S = some none → J.stop i H) ∧ ∀ d, it.get i S = some (some d) → J.go i H ∧ ∀ x H', J.yld i H x H' → Le φ H φ H' ∧ Rs G R' φ S H' ∧ Rv G R' φ H' d x
def SndI (G : Gd) (E : XK) (t : TI) (m : MI0) : Prop := ∀ σ H ρ φ R S, Rs G R φ S H → Rn G R φ H ρ σ → Run G E R φ H (RelI G R) (m ρ S) (fun Q => t σ H Q)
def MI (T : List Addr) (X : Cx) (E : XK) (tg iter : Expr) (m : MI0) : Prop := ∃ t, PI X tg iter t ∧ SndI (X.gd T) E t m
/-- a list, by value or of the store -/
def miL (me : ME0) : MI0 := fun ρ S => (me ρ S).bind fun d S1 => match d with
  | .lst ds => .ok (itL ds) S1
  | .frz ds => .ok (itL ds) S1
  | .ref n => match lstAt S1 n with
    | some _ => .ok (itS n) S1
    | none => .bad
  | _ => .bad
def miT (me : ME0) : MI0 := fun ρ S => (me ρ S).bind fun d S1 => match d with
  | .tup ds => .ok (itL ds) S1
  | _ => .bad
theorem Le.new_same {G : Gd} {R φ : List Addr} {S : Store} {H : Hp} (rs : Rs G R φ S H) : Le φ H φ H ∧ Rs G R φ S H := ⟨Le.refl, rs⟩
theorem relI_list {G : Gd} {R φ : List Addr} {H : Hp} {ds : List D} {vs : List V} {a : Addr} (h : ∀ φ' H', Le φ H φ' H' → SqL G.K H' a vs) (r : RvL G R φ H ds vs) : RelI G R φ H (itL ds) (Itl G.K a) := by
  intro R' hR i φ1 S1 H1 l rs
  refine ⟨fun e => ⟨vs, h _ _ l, ?_⟩, fun d e => ?_⟩
  · have e' : ds[i]? = none := Option.some.inj e
    rw [← RvL.length r]
    exact List.getElem?_eq_none_iff.mp e'
  · have e' : ds[i]? = some d := Option.some.inj e
    obtain ⟨v, e1, e2⟩ := RvL.get r e'
    refine ⟨⟨vs, v, h _ _ l, e1⟩, fun x H' hy => ?_⟩
    obtain ⟨rfl, hy⟩ := hy
    have e3 := hy vs (h _ _ l)
    rw [e1] at e3
    cases e3
    exact ⟨Le.refl, rs, Rv.le l (Rv.reR hR e2)⟩
theorem relI_tup {G : Gd} {R φ : List Addr} {H : Hp} {ds : List D} {vs : List V} {a : Addr} (h : H a = some (.tup vs)) (r : RvL G R φ H ds vs) : RelI G R φ H (itL ds) (Itt G.K a) := by
  intro R' hR i φ1 S1 H1 l rs
  refine ⟨fun e => ⟨vs, SqT.le l h, ?_⟩, fun d e => ?_⟩
  · have e' : ds[i]? = none := Option.some.inj e
    rw [← RvL.length r]
    exact List.getElem?_eq_none_iff.mp e'
  · have e' : ds[i]? = some d := Option.some.inj e
    obtain ⟨v, e1, e2⟩ := RvL.get r e'
    refine ⟨⟨vs, v, SqT.le l h, e1⟩, fun x H' hy => ?_⟩
    obtain ⟨rfl, hy⟩ := hy
    have e3 := hy vs (SqT.le l h)
    rw [e1] at e3
    cases e3
    exact ⟨Le.refl, rs, Rv.le l (Rv.reR hR e2)⟩
theorem relI_store {G : Gd} {R φ : List Addr} {H : Hp} {n : Nat} {a : Addr} (h : φ[n]? = some a) : RelI G R φ H (itS n) (Itl G.K a) := by
  intro R' hR i φ1 S1 H1 l rs
  have ha : φ1[n]? = some a := by
    obtain ⟨r, er⟩ := l.pre
    rw [er, List.getElem?_append_left (List.getElem?_eq_some_iff.mp h).1]
    exact h
  have key : ∀ o, (itS n).get i S1 = some o → ∃ ds vs, S1[n]? = some (.lst ds) ∧ ds[i]? = o ∧ H1 a = some (.lst vs) ∧ RvL G R' φ1 H1 ds vs := fun o e => by
    obtain ⟨ds, e1, e2⟩ := Option.map_eq_some_iff.mp (show (lstAt S1 n).map (fun ds => ds[i]?) = some o from e)
    obtain ⟨vs, h1, h2⟩ := (rs.obj n _ a (lstAt_of e1) ha).ofL
    exact ⟨ds, vs, lstAt_of e1, e2, h1, h2⟩
  refine ⟨fun e => ?_, fun d e => ?_⟩
  · obtain ⟨ds, vs, _, e2, h1, h2⟩ := key _ e
    refine ⟨vs, .inl (.inl h1), ?_⟩
    rw [← RvL.length h2]
    exact List.getElem?_eq_none_iff.mp e2
  · obtain ⟨ds, vs, _, e2, h1, h2⟩ := key _ e
    obtain ⟨v, e3, e4⟩ := RvL.get h2 e2
    refine ⟨⟨vs, v, .inl (.inl h1), e3⟩, fun x H' hy => ?_⟩
    obtain ⟨rfl, hy⟩ := hy
    have e5 := hy vs (.inl (.inl h1))
    rw [e3] at e5
    cases e5
    exact ⟨Le.refl, rs, e4⟩
theorem mi_list (h : ME T X E e me) : MI T X E tg e (miL me) := by
  obtain ⟨t, pt, s⟩ := h
  refine ⟨_, pi_list pt, fun σ H ρ φ R S rs rn => Run.bnd (c' := fun (x : V) H1 Q => ∃ a, x = V.ref a ∧ (∃ xs, SqL X.K H1 a xs) ∧ Q (Itl X.K a) H1) (s σ H ρ φ R S rs rn) (fun d S1 φ1 v H1 _ l1 rs1 r1 => ?_) fun Q q => q⟩
  cases d with
  | lst ds =>
    obtain ⟨a, vs, rfl, n1, n2, h1, h2⟩ := Rv.lst_of r1
    exact Run.ret (v := Itl X.K a) rs1 (relI_list (fun φ' H' l => .inl (.inl (l.keep a _ h1 n1 (fun _ z => nomatch z)).1)) h2) fun Q q => ⟨a, rfl, ⟨vs, .inl (.inl h1)⟩, q⟩
  | frz ds =>
    obtain ⟨a, vs, rfl, h1, h2⟩ := Rv.frz_of r1
    exact Run.ret (v := Itl X.K a) rs1 (relI_list (fun φ' H' l => (Fz.le l h1).sq) h2) fun Q q => ⟨a, rfl, ⟨vs, h1.sq⟩, q⟩
  | ref n =>
    show Run (X.gd T) E R φ1 H1 _ (match lstAt S1 n with
      | some _ => .ok (itS n) S1
      | none => .bad) _
    split
    · rename_i ds hds
      obtain ⟨a, vs, rfl, ha, h1, h2⟩ := rs1.lst r1 (lstAt_of hds)
      exact Run.ret (v := Itl X.K a) rs1 (relI_store ha) fun Q q => ⟨a, rfl, ⟨vs, .inl (.inl h1)⟩, q⟩
    · exact Run.bad
  | _ => exact Run.bad
theorem mi_tup (h : ME T X E e me) : MI T X E tg e (miT me) := by
  obtain ⟨t, pt, s⟩ := h
  refine ⟨_, pi_tup pt, fun σ H ρ φ R S rs rn => Run.bnd (c' := fun (x : V) H1 Q => ∃ a, x = V.ref a ∧ (∃ xs, SqT X.K H1 a xs) ∧ Q (Itt X.K a) H1) (s σ H ρ φ R S rs rn) (fun d S1 φ1 v H1 _ l1 rs1 r1 => ?_) fun Q q => q⟩
  cases d with
  | tup ds =>
    obtain ⟨a, vs, rfl, h1, h2⟩ := Rv.tup_at r1
    exact Run.ret (v := Itt X.K a) rs1 (relI_tup h1 h2) fun Q q => ⟨a, rfl, ⟨vs, .inl (.inl h1)⟩, q⟩
  | _ => exact Run.bad
def miR1 (ma : MA0) : MI0 := fun ρ S => (ma ρ S).bind fun ds S1 => match ds with
  | [.int j] => if -(2 ^ 62) ≤ j ∧ j < 2 ^ 62 then .ok (itR 0 j.toNat) S1 else .bad
  | _ => .bad
def miR2 (ma : MA0) : MI0 := fun ρ S => (ma ρ S).bind fun ds S1 => match ds with
  | [.int i, .int j] => if -(2 ^ 62) ≤ i ∧ i < 2 ^ 62 ∧ -(2 ^ 62) ≤ j ∧ j < 2 ^ 62 then .ok (itR i (j - i).toNat) S1 else .bad
  | _ => .bad
theorem relI_range {G : Gd} {R φ : List Addr} {H : Hp} {lo : Int} {n : Nat} : RelI G R φ H (itR lo n) (Itr lo n) := by
  intro R' hR i φ1 S1 H1 l rs
  refine ⟨fun e => ?_, fun d e => ?_⟩
  · have e' : (if i < n then some (D.int (lo + i)) else none) = none := Option.some.inj e
    by_cases h : i < n
    · rw [if_pos h] at e'
      cases e'
    · exact Nat.le_of_not_lt h
  · have e' : (if i < n then some (D.int (lo + i)) else none) = some d := Option.some.inj e
    by_cases h : i < n
    · rw [if_pos h] at e'
      cases e'
      refine ⟨h, fun x H' hy => ?_⟩
      obtain ⟨rfl, rfl⟩ := hy
      exact ⟨Le.refl, rs, Rv.int⟩
    · rw [if_neg h] at e'
      cases e'
theorem RvL.one_of {G : Gd} {R φ : List Addr} {H : Hp} {d : D} {vs : List V} (h : RvL G R φ H [d] vs) : ∃ v, vs = [v] ∧ Rv G R φ H d v := by
  unfold RvL at h
  obtain ⟨v, r, rfl, h1, h2⟩ := h
  unfold RvL at h2
  subst h2
  exact ⟨v, rfl, h1⟩
theorem RvL.two_of {G : Gd} {R φ : List Addr} {H : Hp} {d e : D} {vs : List V} (h : RvL G R φ H [d, e] vs) : ∃ v w, vs = [v, w] ∧ Rv G R φ H d v ∧ Rv G R φ H e w := by
  unfold RvL at h
  obtain ⟨v, r, rfl, h1, h2⟩ := h
  obtain ⟨w, rfl, h3⟩ := RvL.one_of h2
  exact ⟨v, w, rfl, h1, h3⟩
theorem mi_range1 {mr : MA0} (hg : Gl X "range") (hm : X.mg "range" = none) (ha : MAn T X E [e] mr) (hs : starEach [e] X.env = [(false, eval e X.env)] := by rfl) : MI T X E tg (.Call (.Name "range" p) [e] [] pos) (miR1 mr) := by
  obtain ⟨⟨t, pt, s⟩, _⟩ := ha
  refine ⟨_, pi_range1 hg hm pt hs, fun σ H ρ φ R S rs rn => Run.bnd (c' := fun (vs : List V) H1 Q => ∃ j : Int, vs = [V.int j] ∧ -(2 ^ 62) ≤ j ∧ j < 2 ^ 62 ∧ Q (Itr 0 j.toNat) H1) (s σ H ρ φ R S rs rn) (fun ds S1 φ1 vs H1 e0 l1 rs1 r1 => ?_) fun Q q => q⟩
  split
  · rename_i j
    obtain ⟨v, rfl, h1⟩ := RvL.one_of r1
    by_cases hj : -(2 ^ 62) ≤ j ∧ j < 2 ^ 62
    · rw [if_pos hj]
      exact Run.ret (v := Itr 0 j.toNat) rs1 relI_range fun Q q => ⟨j, by rw [Rv.int_of h1], hj.1, hj.2, q⟩
    · rw [if_neg hj]
      exact Run.bad
  · exact Run.bad
theorem mi_range2 {e1 e2 : Expr} {mr : MA0} (hg : Gl X "range") (hm : X.mg "range" = none) (ha : MAn T X E [e1, e2] mr) (hs : starEach [e1, e2] X.env = [(false, eval e1 X.env), (false, eval e2 X.env)] := by rfl) (hs2 : starEach [e2] X.env = [(false, eval e2 X.env)] := by rfl) : MI T X E tg (.Call (.Name "range" p) [e1, e2] [] pos) (miR2 mr) := by
  obtain ⟨⟨t, pt, s⟩, _⟩ := ha
  refine ⟨_, pi_range2 hg hm pt hs hs2, fun σ H ρ φ R S rs rn => Run.bnd (c' := fun (vs : List V) H1 Q => ∃ i j : Int, vs = [V.int i, V.int j] ∧ (-(2 ^ 62) ≤ i ∧ i < 2 ^ 62 ∧ -(2 ^ 62) ≤ j ∧ j < 2 ^ 62) ∧ Q (Itr i (j - i).toNat) H1) (s σ H ρ φ R S rs rn) (fun ds S1 φ1 vs H1 e0 l1 rs1 r1 => ?_) fun Q q => q⟩
  split
  · rename_i i j
    obtain ⟨v, w, rfl, h1, h2⟩ := RvL.two_of r1
    by_cases hj : -(2 ^ 62) ≤ i ∧ i < 2 ^ 62 ∧ -(2 ^ 62) ≤ j ∧ j < 2 ^ 62
    · rw [if_pos hj]
      exact Run.ret (v := Itr i (j - i).toNat) rs1 relI_range fun Q q => ⟨i, j, by rw [Rv.int_of h1, Rv.int_of h2], hj, q⟩
    · rw [if_neg hj]
      exact Run.bad
  · exact Run.bad
end
end MM

/-! The mirror layer's rules: loops, comprehensions, defs. -/
namespace MM
open PySem L2
/-! ### loops -/
section
variable {G : Gd} {E : XK} {R φ : List Addr} {S : Store} {H : Hp}
theorem for_run {t : TG} {tb : TS} {g : MG0} {b : MS0} {it : ItD} {J : It} {ρ : Rho} {σ : L2.St} (rel : RelI G R φ H it J) (sg : SndG G E t g) (sb : SndS G E tb b) (rs : Rs G R φ S H) (rn : Rn G R φ H ρ σ) :
    Run G E R φ H (RelO G R) (forL g b BIG 0 it ρ S) (fun Q => ∃ W : Nat → Nat → L2.St → Hp → Prop, (∃ m, W 0 m σ H) ∧ ∀ i m σ H, W i m σ H →
      (J.stop i H ∧ (endsOf Q).nx σ H) ∨ (J.go i H ∧ ∃ N : L2.St → Hp → Prop, (∀ σ' H', N σ' H' → ∃ m', m' < m ∧ W (i + 1) m' σ' H') ∧ ∀ x H', J.yld i H x H' → t x σ H' fun σ2 H2 => tb { (endsOf Q) with nx := N, ct := N, bk := (endsOf Q).nx } σ2 H2)) := by
  intro Q hq he hb
  refine ⟨fun i m σ' H' => ∃ φ' ρ' S', Le φ H φ' H' ∧ Rs G R φ' S' H' ∧ Rn G R φ' H' ρ' σ' ∧ forL g b m i it ρ' S' = forL g b BIG 0 it ρ S, ⟨BIG, φ, ρ, S, Le.refl, rs, rn, rfl⟩, fun i m σ1 H1 hW => ?_⟩
  obtain ⟨φ1, ρ1, S1, l1, rs1, rn1, e⟩ := hW
  cases m with
  | zero => exact (hb e.symm).elim
  | succ f =>
    obtain ⟨r0, r1⟩ := rel R (fun _ h => .inl h) i φ1 S1 H1 l1 rs1
    cases hg : it.get i S1 with
    | none =>
      have : forL g b (f + 1) i it ρ1 S1 = .bad := by unfold forL; rw [hg]
      exact (hb (e.symm.trans this)).elim
    | some o =>
      cases o with
      | none =>
        have z : forL g b (f + 1) i it ρ1 S1 = .ok (.nx, ρ1) S1 := by unfold forL; rw [hg]
        exact .inl ⟨r0 hg, hq _ S1 φ1 (Out.nx σ1) H1 (e.symm.trans z) l1 rs1 rn1⟩
      | some d =>
        have z : forL g b (f + 1) i it ρ1 S1 = ((g d ρ1 S1).bind fun ρ2 S2 => (b ρ2 S2).bind fun x S3 => match x.1 with
            | .nx => forL g b f (i + 1) it x.2 S3
            | .ct => forL g b f (i + 1) it x.2 S3
            | .bk => .ok (.nx, x.2) S3
            | .rt d => .ok (.rt d, x.2) S3) := by
          conv => lhs; unfold forL
          rw [hg]
          try rfl
        rw [e] at z
        obtain ⟨r2, r3⟩ := r1 d hg
        refine .inr ⟨r2, fun σ' H' => ∃ φ' ρ' S', Le φ H φ' H' ∧ Rs G R φ' S' H' ∧ Rn G R φ' H' ρ' σ' ∧ forL g b f (i + 1) it ρ' S' = forL g b BIG 0 it ρ S, fun σ' H' hN => ⟨f, Nat.lt_succ_self f, hN⟩, fun x H2 hy => ?_⟩
        obtain ⟨l2, rs2, rv⟩ := r3 x H2 hy
        have l12 := l1.trans l2
        refine sg d x σ1 H2 ρ1 φ1 R S1 rs2 (rn1.le l2) rv (fun σ2 H3 => tb _ σ2 H3) (fun ρ2 S2 φ2 σ2 H3 e2 l3 rs3 rn3 => ?_) (fun er S2 φ2 H3 cl dd e2 l3 rs3 xq => he er S2 φ2 H3 cl dd (by rw [z, e2]; rfl) (l12.trans l3) rs3 xq) (fun e2 => hb (by rw [z, e2]; rfl))
        have z2 := z
        rw [e2, Res.bind_ok] at z2
        have l13 := l12.trans l3
        refine sb σ2 H3 ρ2 φ2 R S2 rs3 rn3 (fun o H4 => match o with
          | .nx σ' => ∃ φ' ρ' S', Le φ H φ' H4 ∧ Rs G R φ' S' H4 ∧ Rn G R φ' H4 ρ' σ' ∧ forL g b f (i + 1) it ρ' S' = forL g b BIG 0 it ρ S
          | .ct σ' => ∃ φ' ρ' S', Le φ H φ' H4 ∧ Rs G R φ' S' H4 ∧ Rn G R φ' H4 ρ' σ' ∧ forL g b f (i + 1) it ρ' S' = forL g b BIG 0 it ρ S
          | .bk σ' => Q (.nx σ') H4
          | .rt v => Q (.rt v) H4) (fun y S3 φ3 o H4 e3 l4 rs4 ro => ?_) (fun er S3 φ3 H4 cl dd e3 l4 rs4 xq => he er S3 φ3 H4 cl dd (by rw [z2, e3]; rfl) (l13.trans l4) rs4 xq) (fun e3 => hb (by rw [z2, e3]; rfl))
        obtain ⟨fl, ρ3⟩ := y
        rw [e3, Res.bind_ok] at z2
        cases fl with
        | nx =>
          cases o with
          | nx σ3 => exact ⟨φ3, ρ3, S3, l13.trans l4, rs4, ro, z2.symm⟩
          | _ => exact False.elim ro
        | ct =>
          cases o with
          | ct σ3 => exact ⟨φ3, ρ3, S3, l13.trans l4, rs4, ro, z2.symm⟩
          | _ => exact False.elim ro
        | bk =>
          cases o with
          | bk σ3 => exact hq _ S3 φ3 (Out.nx σ3) H4 z2 (l13.trans l4) rs4 ro
          | _ => exact False.elim ro
        | rt d =>
          cases o with
          | rt v => exact hq _ S3 φ3 (Out.rt v) H4 z2 (l13.trans l4) rs4 ro
          | _ => exact False.elim ro
theorem wh_run {tc : TT} {tb : TS} {c : MT0} {b : MS0} {ρ : Rho} {σ : L2.St} (sc : SndT G E tc c) (sb : SndS G E tb b) (rs : Rs G R φ S H) (rn : Rn G R φ H ρ σ) :
    Run G E R φ H (RelO G R) (whL c b BIG ρ S) (fun Q => tWhile tc tb (endsOf Q) σ H) := by
  intro Q hq he hb
  refine ⟨fun m σ' H' => ∃ φ' ρ' S', Le φ H φ' H' ∧ Rs G R φ' S' H' ∧ Rn G R φ' H' ρ' σ' ∧ whL c b m ρ' S' = whL c b BIG ρ S, ⟨BIG, φ, ρ, S, Le.refl, rs, rn, rfl⟩, fun m σ1 H1 hW => ?_⟩
  obtain ⟨φ1, ρ1, S1, l1, rs1, rn1, e⟩ := hW
  cases m with
  | zero => exact (hb e.symm).elim
  | succ f =>
    have z : whL c b (f + 1) ρ1 S1 = ((c ρ1 S1).bind fun k S2 => if k = true then (b ρ1 S2).bind fun x S3 => match x.1 with
            | .nx => whL c b f x.2 S3
            | .ct => whL c b f x.2 S3
            | .bk => .ok (.nx, x.2) S3
            | .rt d => .ok (.rt d, x.2) S3
          else .ok (.nx, ρ1) S2) := by
      conv => lhs; unfold whL
      try rfl
    rw [e] at z
    refine sc σ1 H1 ρ1 φ1 R S1 rs1 rn1 _ (fun k S2 φ2 k' H2 e2 l2 rs2 ek => ?_) (fun er S2 φ2 H2 cl dd e2 l2 rs2 xq => he er S2 φ2 H2 cl dd (by rw [z, e2]; rfl) (l1.trans l2) rs2 xq) (fun e2 => hb (by rw [z, e2]; rfl))
    have ek' : k = k' := ek
    subst ek'
    have z2 := z
    rw [e2, Res.bind_ok] at z2
    have l12 := l1.trans l2
    cases k with
    | false =>
      rw [if_neg Bool.false_ne_true] at z2 ⊢
      exact hq _ S2 φ2 (Out.nx σ1) H2 z2 l12 rs2 (rn1.le l2)
    | true =>
      rw [if_pos rfl] at z2 ⊢
      refine ⟨fun σ' H' => ∃ φ' ρ' S', Le φ H φ' H' ∧ Rs G R φ' S' H' ∧ Rn G R φ' H' ρ' σ' ∧ whL c b f ρ' S' = whL c b BIG ρ S, fun σ' H' hN => ⟨f, Nat.lt_succ_self f, hN⟩, ?_⟩
      refine sb σ1 H2 ρ1 φ2 R S2 rs2 (rn1.le l2) (fun o H4 => match o with
          | .nx σ' => ∃ φ' ρ' S', Le φ H φ' H4 ∧ Rs G R φ' S' H4 ∧ Rn G R φ' H4 ρ' σ' ∧ whL c b f ρ' S' = whL c b BIG ρ S
          | .ct σ' => ∃ φ' ρ' S', Le φ H φ' H4 ∧ Rs G R φ' S' H4 ∧ Rn G R φ' H4 ρ' σ' ∧ whL c b f ρ' S' = whL c b BIG ρ S
          | .bk σ' => Q (.nx σ') H4
          | .rt v => Q (.rt v) H4) (fun y S3 φ3 o H4 e3 l4 rs4 ro => ?_) (fun er S3 φ3 H4 cl dd e3 l4 rs4 xq => he er S3 φ3 H4 cl dd (by rw [z2, e3]; rfl) (l12.trans l4) rs4 xq) (fun e3 => hb (by rw [z2, e3]; rfl))
      obtain ⟨fl, ρ3⟩ := y
      rw [e3, Res.bind_ok] at z2
      cases fl with
      | nx =>
        cases o with
        | nx σ3 => exact ⟨φ3, ρ3, S3, l12.trans l4, rs4, ro, z2.symm⟩
        | _ => exact False.elim ro
      | ct =>
        cases o with
        | ct σ3 => exact ⟨φ3, ρ3, S3, l12.trans l4, rs4, ro, z2.symm⟩
        | _ => exact False.elim ro
      | bk =>
        cases o with
        | bk σ3 => exact hq _ S3 φ3 (Out.nx σ3) H4 z2 (l12.trans l4) rs4 ro
        | _ => exact False.elim ro
      | rt d =>
        cases o with
        | rt v => exact hq _ S3 φ3 (Out.rt v) H4 z2 (l12.trans l4) rs4 ro
        | _ => exact False.elim ro
end
section
variable {T : List Addr} {X : Cx} {E : XK} {st : Stmt} {body : List Stmt} {c tg iter elt : Expr} {ifs : List Expr} {me : ME0} {mc : MT0} {m mb : MS0} {mi : MI0} {g : MG0} {pos p : Pos}
theorem ms_for (hp : PassesOwn (model X.prog X.w) X.A X.env X.xe) (hc : X.calm = true) (hi : MI T X E tg iter mi) (hg : MG T X E tg g) (hb : MSs T X E body mb) (hs : ∀ x, foldedSetIterable iter X.env x = pure x := by intro _; rfl) : MS T X E (.For tg iter body [] pos) (sFor mi g mb) := by
  obtain ⟨ti, pi, si⟩ := hi
  obtain ⟨t, pt, sg⟩ := hg
  obtain ⟨tb, pb, sb⟩ := hb
  exact ⟨_, ps_for hp hc pi pt pb hs, fun σ H ρ φ R S rs rn => Run.bnd (c' := fun (J : It) H1 (Q : Out → Hp → Prop) => ∃ W : Nat → Nat → L2.St → Hp → Prop, (∃ m, W 0 m σ H1) ∧ ∀ i m σ H, W i m σ H →
      (J.stop i H ∧ (endsOf Q).nx σ H) ∨ (J.go i H ∧ ∃ N : L2.St → Hp → Prop, (∀ σ' H', N σ' H' → ∃ m', m' < m ∧ W (i + 1) m' σ' H') ∧ ∀ x H', J.yld i H x H' → t x σ H' fun σ2 H2 => tb { (endsOf Q) with nx := N, ct := N, bk := (endsOf Q).nx } σ2 H2)) (si σ H ρ φ R S rs rn) (fun it S1 φ1 J H1 e0 l1 rs1 r1 => for_run r1 sg sb rs1 (rn.le l1)) fun Q q => q⟩
theorem ms_while (hp : PassesOwn (model X.prog X.w) X.A X.env X.xe) (hc : MT T X E c mc) (hb : MSs T X E body mb) : MS T X E (.While c body [] pos) (sWhile mc mb) := by
  obtain ⟨tc, pc, sc⟩ := hc
  obtain ⟨tb, pb, sb⟩ := hb
  exact ⟨_, ps_while hp pc pb, fun σ H ρ φ R S rs rn => wh_run sc sb rs rn⟩
/-! ### one reading for many places -/
theorem PE.weak {t t' : TE} {e : Expr} (h : PE X e t) (w : ∀ σ H Q, t' σ H Q → t σ H Q) : PE X e t' := ⟨fun pins s σ H Q I q => h.run pins s σ H Q I (w σ H Q q)⟩
theorem PTs.weak {t t' : TT} {es : List Expr} (h : PTs X es t) (w : ∀ σ H Q, t' σ H Q → t σ H Q) : PTs X es t' := ⟨fun pins s σ H Q I q => h.run pins s σ H Q I (w σ H Q q)⟩
theorem PG.weak {t t' : TG} {e : Expr} (h : PG X e t) (w : ∀ v σ H Q, t' v σ H Q → t v σ H Q) : PG X e t' := ⟨fun pins s σ H v u Q I r q => h.run pins s σ H v u Q I r (w v σ H Q q)⟩
end
section
variable {ι : Type} {XX : ι → Cx} {G : Gd} {E : XK} {e : Expr} {es : List Expr}
theorem Run.all {α β : Type} {R φ : List Addr} {H : Hp} {rel : List Addr → Hp → β → α → Prop} {r : Res β} {c : ι → (α → Hp → Prop) → Prop} (h : ∀ i, Run G E R φ H rel r (c i)) : Run G E R φ H rel r (fun Q => ∀ i, c i Q) :=
  fun Q hq he hb i => h i Q hq he hb
theorem all_E {m : ME0} (h : ∀ i, ∃ t, PE (XX i) e t ∧ SndE G E t m) : ∃ t, (∀ i, PE (XX i) e t) ∧ SndE G E t m := by
  refine ⟨fun σ H Q => ∀ i, Classical.choose (h i) σ H Q, fun i => PE.weak (Classical.choose_spec (h i)).1 fun σ H Q q => q i, fun σ H ρ φ R S rs rn => Run.all fun i => (Classical.choose_spec (h i)).2 σ H ρ φ R S rs rn⟩
theorem all_T {m : MT0} (h : ∀ i, ∃ t, PTs (XX i) es t ∧ SndT G E t m) : ∃ t, (∀ i, PTs (XX i) es t) ∧ SndT G E t m := by
  refine ⟨fun σ H Q => ∀ i, Classical.choose (h i) σ H Q, fun i => PTs.weak (Classical.choose_spec (h i)).1 fun σ H Q q => q i, fun σ H ρ φ R S rs rn => Run.all fun i => (Classical.choose_spec (h i)).2 σ H ρ φ R S rs rn⟩
end
/-! ### comprehensions -/
/-- targets of a comprehension: names, and tuples of names; the slots they store -/
def MTs (T : List Addr) (X : Cx) (E : XK) (ifs : List Expr) (m : MT0) : Prop := ∃ t, PTs X ifs t ∧ SndT (X.gd T) E t m
theorem mts_nil {T : List Addr} {X : Cx} {E : XK} : MTs T X E [] mYes := ⟨_, pts_nil, fun σ H ρ φ R S rs rn => Run.ret rs rfl fun Q q => q⟩
theorem mts_one {T : List Addr} {X : Cx} {E : XK} {c : Expr} {m : MT0} (h : MT T X E c m) : MTs T X E [c] m := by
  obtain ⟨t, pt, s⟩ := h
  exact ⟨_, pts_one pt, s⟩
/-- a target that stores the slots vs alone -/
def WipesG (g : TG) (vs : List Nat) : Prop := ∀ v σ H Q Q', (∀ σ2 H2, wipe σ2 vs = wipe σ vs → Q σ2 H2 → Q' σ2 H2) → g v σ H Q → g v σ H Q'
def WipesGs (g : TGs) (vs : List Nat) : Prop := ∀ us σ H Q Q', (∀ σ2 H2, wipe σ2 vs = wipe σ vs → Q σ2 H2 → Q' σ2 H2) → g us σ H Q → g us σ H Q'
theorem wipe_set {σ : L2.St} {i : Nat} {o : Option V} : ∀ {vs : List Nat}, i ∈ vs → wipe (σ.set i o) vs = wipe σ vs
  | [], h => nomatch h
  | v :: vs, h => by
    show (wipe (σ.set i o) vs).set v none = (wipe σ vs).set v none
    by_cases hm : i ∈ vs
    · rw [wipe_set hm]
    · have e : i = v := (List.mem_cons.mp h).resolve_right hm
      subst e
      clear h
      have key : ∀ (us : List Nat), i ∉ us → wipe (σ.set i o) us = (wipe σ us).set i o := by
        intro us
        induction us with
        | nil => intro _; rfl
        | cons u us ih =>
          intro hu
          have h1 : i ≠ u := fun z => hu (by rw [z]; exact List.mem_cons_self)
          show (wipe (σ.set i o) us).set u none = ((wipe σ us).set u none).set i o
          rw [ih fun z => hu (List.mem_cons_of_mem _ z), List.set_comm _ _ h1]
      rw [key vs hm, List.set_set]
theorem wipe_idem {σ : L2.St} {vs : List Nat} : wipe (wipe σ vs) vs = wipe σ vs := by
  have key : ∀ us : List Nat, (∀ u ∈ us, u ∈ vs) → wipe (wipe σ us) vs = wipe σ vs := by
    intro us
    induction us with
    | nil => intro _; rfl
    | cons u us ih =>
      intro h
      show wipe ((wipe σ us).set u none) vs = wipe σ vs
      rw [wipe_set (h u List.mem_cons_self)]
      exact ih fun w hw => h w (List.mem_cons_of_mem _ hw)
  exact key vs fun _ h => h
theorem Rn.wipe {G : Gd} {R φ : List Addr} {H : Hp} {ρ : Rho} {σ : L2.St} (r : Rn G R φ H ρ σ) : ∀ vs : List Nat, Rn G R φ H (wipeD ρ vs) (L2.wipe σ vs)
  | [] => r
  | v :: vs => (Rn.wipe r vs).set_none
theorem wipes_name {i : Nat} {vs : List Nat} (h : i ∈ vs) : WipesG (gName i) vs := fun v σ H Q Q' hq q => hq _ _ (wipe_set h) q
theorem wipes_nil {vs : List Nat} : WipesGs gNil vs := fun us σ H Q Q' hq q => ⟨q.1, hq _ _ rfl q.2⟩
theorem wipes_cons {t : TG} {u : TGs} {vs : List Nat} (h1 : WipesG t vs) (h2 : WipesGs u vs) : WipesGs (gCons t u) vs := fun us σ H Q Q' hq q => by
  obtain ⟨v, r, e, q⟩ := q
  exact ⟨v, r, e, h1 v σ H _ _ (fun σ2 H2 e2 q2 => h2 r σ2 H2 _ _ (fun σ3 H3 e3 q3 => hq σ3 H3 (e3.trans e2) q3) q2) q⟩
theorem wipes_tup {K : PySem.W.Frag} {n : Nat} {t : TGs} {vs : List Nat} (h : WipesGs t vs) : WipesG (gTup K n t) vs := fun v σ H Q Q' hq q => by
  obtain ⟨a, xs, e, h1, h2, q⟩ := q
  exact ⟨a, xs, e, h1, h2, h xs σ H _ _ hq q⟩
/-- a comprehension's target -/
structure MGc (T : List Addr) (X : Cx) (E : XK) (tg : Expr) (vs : List Nat) (t : TG) (g : MG0) : Prop where
  pg : PG X tg t
  snd : SndG (X.gd T) E t g
  wip : WipesG t vs
structure MGcs (T : List Addr) (X : Cx) (E : XK) (tgs : List Expr) (vs : List Nat) (t : TGs) (g : MGs0) : Prop where
  pg : PGs X tgs t
  snd : SndGs (X.gd T) E t g
  wip : WipesGs t vs
section
variable {T : List Addr} {X : Cx} {E : XK} {pos : Pos} {vs : List Nat}
theorem mgc_name {i : Nat} {x : Str} (hN : X.N.Nodup) (hi : X.N[i]? = some x) (hv : i ∈ vs) (hx : Loc X.env.scope x := by first | exact Or.inl rfl | exact Or.inr rfl) (hf : X.fn x = true ∨ X.env.scope.names.lookup x = some .local := by first | exact .inl rfl | exact .inr rfl | assumption) : MGc T X E (.Name x pos) vs (gName i) (gN i) :=
  ⟨pg_name hN hi hx hf, SndG.name, wipes_name hv⟩
theorem mgcs_nil : MGcs T X E [] vs gNil gsNil := ⟨pgs_nil, fun ds us σ H ρ φ R S rs rn r => by
  cases ds with
  | nil =>
    unfold RvL at r
    subst r
    exact Run.ret rs rn fun Q q => ⟨rfl, q⟩
  | cons d ds => exact Run.bad, wipes_nil⟩
theorem mgcs_cons {e : Expr} {es : List Expr} {t : TG} {u : TGs} {g : MG0} {gs : MGs0} (h1 : MGc T X E e vs t g) (h2 : MGcs T X E es vs u gs) (hs : (assignEach (e :: es) X.env).map (·.2) = assign e X.env :: (assignEach es X.env).map (·.2) := by rfl) : MGcs T X E (e :: es) vs (gCons t u) (gsCons g gs) := by
  refine ⟨pgs_cons h1.pg h2.pg hs, fun ds us σ H ρ φ R S rs rn r => ?_, wipes_cons h1.wip h2.wip⟩
  cases ds with
  | nil => exact Run.bad
  | cons d ds =>
    unfold RvL at r
    obtain ⟨v, vr, rfl, r1, r2⟩ := r
    refine Run.bnd (c' := fun σ1 H1 Q => u vr σ1 H1 Q) (h1.snd d v σ H ρ φ R S rs rn r1) (fun ρ1 S1 φ1 σ1 H1 _ l1 rs1 q1 => h2.snd ds vr σ1 H1 ρ1 φ1 R S1 rs1 q1 (RvL.le l1 r2)) fun Q q => ⟨v, vr, rfl, q⟩
theorem mgc_tup {es : List Expr} {k n : Nat} {t : TGs} {gs : MGs0} (hc : X.calm = true) (h : MGcs T X E es vs t gs) (hn : (assignEach es X.env).length = n := by rfl) (hst : (assignEach es X.env).findIdx? (·.1) = none := by rfl) : MGc T X E (.Tuple es k pos) vs (gTup X.K n t) (gTp n gs) := by
  refine ⟨pg_tup hc h.pg hn hst, fun d v σ H ρ φ R S rs rn r => ?_, wipes_tup h.wip⟩
  cases d with
  | tup ds =>
    obtain ⟨a, us, rfl, h1, h2⟩ := Rv.tup_of r
    show Run (X.gd T) E R φ H _ (if ds.length = n then gs ds ρ S else .bad) _
    by_cases hl : ds.length = n
    · rw [if_pos hl]
      exact Run.conv (h.snd ds us σ H ρ φ R S rs rn h2) fun Q q => ⟨a, us, rfl, h1, by rw [← RvL.length h2]; exact hl, q⟩
    · rw [if_neg hl]
      exact Run.bad
  | _ => exact Run.bad
end
section
variable {G : Gd} {E : XK} {R φ : List Addr} {S : Store} {H : Hp}
theorem Res.calm_ok {α : Type} {r : Res α} {a : α} {S : Store} (h : r.calm = .ok a S) : r = .ok a S := by
  cases r with
  | ok b S' => exact h
  | exc e S' => cases h
  | bad => cases h
/-- nothing raised -/
theorem Run.calm {α β : Type} {rel : List Addr → Hp → β → α → Prop} {r : Res β} {c : (α → Hp → Prop) → Prop} (h : Run G E0 R φ H rel r c) : Run G E R φ H rel r.calm c := by
  intro Q hq he hb
  cases r with
  | ok b S' => exact h Q hq (fun e S' φ' H' cl d z => nomatch z) hb
  | exc e S' => exact (hb rfl).elim
  | bad => exact (hb rfl).elim
theorem lc_run {t : TG} {tt : TT} {te : TE} {g : MG0} {mt : MT0} {me : ME0} {it : ItD} {J : It} {ρ : Rho} {σ : L2.St} {vs : List Nat} (rel : RelI G R φ H it J) (sg : SndG G E0 t g) (wg : WipesG t vs) (st : SndT G E0 tt mt) (se : SndE G E0 te me) (rs : Rs G R φ S H) (rn : Rn G R φ H ρ σ) (Q : VK)
    (hq : ∀ ds S' φ' D us H', lcL g mt me BIG 0 it (wipeD ρ vs) [] S = .ok ds S' → H D = none → Le φ H φ' H' → Rs G (D :: R) φ' S' H' → H' D = some (.lst us) → RvL G (D :: R) φ' H' ds us → Q (.ref D) H') (hb : lcL g mt me BIG 0 it (wipeD ρ vs) [] S ≠ .bad) :
    ∀ D, H D = none → ∃ W : Nat → Nat → Hp → Prop, (∃ m, W 0 m (upd H D (.lst []))) ∧ ∀ i m H, W i m H →
      (J.stop i H ∧ Q (.ref D) H) ∨ (J.go i H ∧ ∃ Nx : Hp → Prop, (∀ H', Nx H' → ∃ m', m' < m ∧ W (i + 1) m' H') ∧ ∀ x H', J.yld i H x H' → t x (wipe σ vs) H' fun σ2 H2 => wipe σ2 vs = wipe σ vs ∧ tt σ2 H2 fun b H3 =>
        if b = true then te σ2 H3 fun y H4 => ∃ acc, H4 D = some (.lst acc) ∧ acc.length < sizeLine ∧ Nx (upd H4 D (.lst (acc ++ [y]))) else Nx H3) := by
  intro D hD
  have hR : ∀ a ∈ D :: R, a ∈ R ∨ H a = none := fun a ha => (List.mem_cons.mp ha).elim (fun z => .inr (by rw [z]; exact hD)) .inl
  have frD := rs.fresh hD
  have rn0 : Rn G (D :: R) φ H (wipeD ρ vs) (wipe σ vs) := (rn.reR hR).wipe vs
  -- the state at a turn
  refine ⟨fun i m H' => ∃ φ' S' ds us, Le φ H φ' H' ∧ Rs G (D :: R) φ' S' H' ∧ H' D = some (.lst us) ∧ RvL G (D :: R) φ' H' ds us ∧ lcL g mt me m i it (wipeD ρ vs) ds S' = lcL g mt me BIG 0 it (wipeD ρ vs) [] S, ⟨BIG, φ, S, [], [], Le.new rs hD, rs.reserve hD, upd_same, RvL.nil, rfl⟩, fun i m H1 hW => ?_⟩
  obtain ⟨φ1, S1, ds, us, l1, rs1, hd1, rv1, e⟩ := hW
  cases m with
  | zero => exact (hb e.symm).elim
  | succ f =>
    obtain ⟨r0, r1⟩ := rel (D :: R) hR i φ1 S1 H1 l1 rs1
    cases hg : it.get i S1 with
    | none =>
      have : lcL g mt me (f + 1) i it (wipeD ρ vs) ds S1 = .bad := by unfold lcL; rw [hg]
      exact (hb (e.symm.trans this)).elim
    | some o =>
      cases o with
      | none =>
        have z : lcL g mt me (f + 1) i it (wipeD ρ vs) ds S1 = .ok ds S1 := by unfold lcL; rw [hg]
        exact .inl ⟨r0 hg, hq ds S1 φ1 D us H1 (e.symm.trans z) hD l1 rs1 hd1 rv1⟩
      | some d =>
        have z : lcL g mt me (f + 1) i it (wipeD ρ vs) ds S1 = ((g d (wipeD ρ vs) S1).calm.bind fun ρ1 S2 => (mt ρ1 S2).calm.bind fun b S3 =>
            if b = true then (me ρ1 S3).calm.bind fun y S4 => if ds.length < sizeLine then lcL g mt me f (i + 1) it (wipeD ρ vs) (ds ++ [y]) S4 else .bad
            else lcL g mt me f (i + 1) it (wipeD ρ vs) ds S3) := by
          conv => lhs; unfold lcL
          rw [hg]
        rw [e] at z
        obtain ⟨r2, r3⟩ := r1 d hg
        refine .inr ⟨r2, fun H' => ∃ φ' S' ds us, Le φ H φ' H' ∧ Rs G (D :: R) φ' S' H' ∧ H' D = some (.lst us) ∧ RvL G (D :: R) φ' H' ds us ∧ lcL g mt me f (i + 1) it (wipeD ρ vs) ds S' = lcL g mt me BIG 0 it (wipeD ρ vs) [] S, fun H' hN => ⟨f, Nat.lt_succ_self f, hN⟩, fun x H2 hy => ?_⟩
        obtain ⟨l2, rs2, rv⟩ := r3 x H2 hy
        have l12 := l1.trans l2
        have k12 : ∀ {φ' H'}, Le φ1 H1 φ' H' → H' D = some (.lst us) := fun {φ' H'} l => (l.keep D _ hd1 (fun z => rs1.apart D z List.mem_cons_self) (fun _ z => nomatch z)).1
        have g1 := Run.calm (E := fun _ _ _ => True) (sg d x (wipe σ vs) H2 (wipeD ρ vs) φ1 (D :: R) S1 rs2 (rn0.le l12) rv)
        refine wg x (wipe σ vs) H2 (fun σ2 H3 => ∃ ρ2 S2 φ2, (g d (wipeD ρ vs) S1).calm = .ok ρ2 S2 ∧ Le φ1 H2 φ2 H3 ∧ Rs G (D :: R) φ2 S2 H3 ∧ Rn G (D :: R) φ2 H3 ρ2 σ2) _ (fun σ2 H3 ew hw => ⟨ew.trans wipe_idem, ?_⟩)
          (g1 _ (fun ρ2 S2 φ2 σ2 H3 e2 l3 rs3 rn3 => ⟨ρ2, S2, φ2, e2, l3, rs3, rn3⟩) (fun _ _ _ _ _ _ _ _ _ _ => trivial) (fun e2 => hb (by rw [z, e2]; rfl)))
        obtain ⟨ρ2, S2, φ2, e2, l3, rs3, rn3⟩ := hw
        have z2 := z
        rw [e2, Res.bind_ok] at z2
        refine Run.calm (E := fun _ _ _ => True) (st σ2 H3 ρ2 φ2 (D :: R) S2 rs3 rn3) _ (fun b S3 φ3 b' H4 e3 l4 rs4 eb => ?_) (fun _ _ _ _ _ _ _ _ _ _ => trivial) (fun e3 => hb (by rw [z2, e3]; rfl))
        have eb' : b = b' := eb
        subst eb'
        have z3 := z2
        rw [e3, Res.bind_ok] at z3
        have l14 : Le φ1 H1 φ3 H4 := l2.trans (l3.trans l4)
        cases b with
        | false =>
          rw [if_neg Bool.false_ne_true] at z3 ⊢
          exact ⟨φ3, S3, ds, us, l1.trans l14, rs4, k12 l14, RvL.le l14 rv1, z3.symm⟩
        | true =>
          rw [if_pos rfl] at z3 ⊢
          refine Run.calm (E := fun _ _ _ => True) (se σ2 H4 ρ2 φ3 (D :: R) S3 rs4 (rn3.le l4)) _ (fun y S4 φ4 w H5 e4 l5 rs5 ry => ?_) (fun _ _ _ _ _ _ _ _ _ _ => trivial) (fun e4 => hb (by rw [z3, e4]; rfl))
          rw [e4, Res.bind_ok] at z3
          have l15 : Le φ1 H1 φ4 H5 := l14.trans l5
          have hd5 := k12 l15
          have np : D ∉ φ4 := fun q => rs5.apart D q List.mem_cons_self
          by_cases hl : ds.length < sizeLine
          · rw [if_pos hl] at z3
            -- the list grows
            have lw : ∀ {o : HO} (b : Addr) (u : HO), H5 b = some u → b ≠ D → (upd H5 D o) b = some u := fun b u e5 nb => by rw [upd_ne nb]; exact e5
            have reLe : Le φ H φ4 (upd H5 D (.lst (us ++ [w]))) := by
              have l05 := l1.trans l15
              refine ⟨l05.pre, fun b u eb nb q => ?_, fun b ws eb => ?_, fun b eb => ?_, fun b tb => ?_⟩
              · have nb' : b ≠ D := ne_of_none eb hD
                exact ⟨lw b u (l05.keep b u eb nb q).1 nb', (l05.keep b u eb nb q).2⟩
              · have q := l05.tups b ws eb
                have nb' : b ≠ D := by
                  rintro rfl
                  rw [hD] at eb
                  cases eb
                exact lw b _ q nb'
              · by_cases nb' : b = D
                · subst nb'
                  exact (eb hD).elim
                · rw [upd_ne nb']
                  exact l05.ne b eb
              · obtain ⟨ps, e9, t9⟩ := l05.tab b tb
                exact ⟨ps, lw b _ e9 (ne_of e9 hd5 (fun z => nomatch z)), t9⟩
            have le5 : ∀ {d : MM.D} {v : V}, Rv G (D :: R) φ4 H5 d v → Rv G (D :: R) φ4 (upd H5 D (.lst (us ++ [w]))) d v := fun {d v} r => Rv.upR (fun b u eb nb => lw b u eb nb) hd5 List.mem_cons_self r
            have le5L : ∀ {d : List MM.D} {v : List V}, RvL G (D :: R) φ4 H5 d v → RvL G (D :: R) φ4 (upd H5 D (.lst (us ++ [w]))) d v := fun {d v} r => RvL.upR (fun b u eb nb => lw b u eb nb) hd5 List.mem_cons_self r
            refine ⟨us, hd5, by rw [← RvL.length rv1]; exact hl, φ4, S4, ds ++ [y], us ++ [w], reLe, ⟨rs5.nd, rs5.len, rs5.apart, fun j u b e6 e7 => ?_, fun b hb' => ?_, fun b hb' => ?_⟩, upd_same, RvL.append (le5L (RvL.le l15 rv1)) (RvL.cons (le5 ry) RvL.nil), z3.symm⟩
            · have ro := rs5.obj j u b e6 e7
              have nb : b ≠ D := by
                rintro rfl
                exact np (List.mem_iff_getElem?.mpr ⟨j, e7⟩)
              obtain ⟨ws, o8, e8, sh8, e9⟩ := ro
              exact ⟨ws, o8, lw b _ e8 nb, sh8, le5L e9⟩
            · by_cases nb : b = D
              · rw [nb, upd_same]
                exact fun q => nomatch q
              · rw [upd_ne nb]
                exact rs5.res b hb'
            · obtain ⟨ps, e9, t9⟩ := rs5.tabs b hb'
              exact ⟨ps, lw b _ e9 (ne_of e9 hd5 (fun z => nomatch z)), t9⟩
          · rw [if_neg hl] at z3
            exact (hb z3).elim
end
end MM

/-! The mirror layer's rules: comprehensions by their syntax, built-ins, defs. -/
namespace MM
open PySem L2 PyProof.Rows
section
variable {G : Gd} {E : XK} {wi : TI} {t : TG} {tt : TT} {te : TE} {mi : MI0} {g : MG0} {mt : MT0} {me : ME0} {vs : List Nat}
theorem lc_snd (si : SndI G E wi mi) (sg : SndG G E0 t g) (wg : WipesG t vs) (st : SndT G E0 tt mt) (se : SndE G E0 te me) : SndE G E (tLc wi t tt te vs) (mLc mi g mt me vs) := by
  intro σ H ρ φ R S rs rn Q hq hx hb
  have e0 : mLc mi g mt me vs ρ S = (mi ρ S).bind fun it S1 => (lcL g mt me BIG 0 it (wipeD ρ vs) [] S1).bind fun ds S2 => .ok (.lst ds) S2 := by
    unfold mLc mLcL
    cases mi ρ S <;> rfl
  rw [e0] at hq hx hb
  refine si σ H ρ φ R S rs rn _ (fun it S1 φ1 J H1 e1 l1 rs1 r1 => ?_) (fun er S' φ' H' cl d er' => hx er S' φ' H' cl d (by rw [er']; rfl)) (fun e1 => hb (by rw [e1]; rfl))
  rw [e1, Res.bind_ok] at hq hx hb
  refine lc_run r1 sg wg st se rs1 (rn.le l1) Q (fun ds S2 φ2 D us H2 e2 hD l2 rs2 h2 rv => ?_) (fun e2 => hb (by rw [e2]; rfl))
  rw [e2, Res.bind_ok] at hq
  have hR : ∀ a ∈ R, a ∈ D :: R ∨ H2 a = none := fun a ha => .inl (List.mem_cons_of_mem _ ha)
  exact hq _ S2 φ2 _ H2 rfl (l1.trans l2) rs2.release (Rv.lst (fun z => rs2.apart D z List.mem_cons_self) (rs1.fresh hD).2 h2 (RvL.reR hR rv))
theorem lcS_snd (si : SndI G E wi mi) (sg : SndG G E0 t g) (wg : WipesG t vs) (st : SndT G E0 tt mt) (se : SndE G E0 te me) : SndE G E (tLc wi t tt te vs) (mLcS mi g mt me vs) := by
  intro σ H ρ φ R S rs rn Q hq hx hb
  have e0 : mLcS mi g mt me vs ρ S = (mi ρ S).bind fun it S1 => (lcL g mt me BIG 0 it (wipeD ρ vs) [] S1).bind fun ds S2 => .ok (.ref S2.length) (S2 ++ [.lst ds]) := by
    unfold mLcS mLcL
    cases mi ρ S <;> rfl
  rw [e0] at hq hx hb
  refine si σ H ρ φ R S rs rn _ (fun it S1 φ1 J H1 e1 l1 rs1 r1 => ?_) (fun er S' φ' H' cl d er' => hx er S' φ' H' cl d (by rw [er']; rfl)) (fun e1 => hb (by rw [e1]; rfl))
  rw [e1, Res.bind_ok] at hq hx hb
  refine lc_run r1 sg wg st se rs1 (rn.le l1) Q (fun ds S2 φ2 D us H2 e2 hD l2 rs2 h2 rv => ?_) (fun e2 => hb (by rw [e2]; rfl))
  rw [e2, Res.bind_ok] at hq
  have l12 := l1.trans l2
  have nH : H D = none := by
    cases h : H D with
    | none => rfl
    | some u => exact ((l1.ne D (by rw [h]; exact fun z => nomatch z)) hD).elim
  refine hq _ _ (φ2 ++ [D]) _ H2 rfl ⟨?_, fun a u ha na q => ⟨(l12.keep a u ha na q).1, fun z => ?_⟩, l12.tups, l12.ne, l12.tab⟩ (rs2.own (rs1.fresh hD).2 (Ro.mkL h2 (RvL.own rv))) ?_
  · obtain ⟨r, er⟩ := l12.pre
    exact ⟨r ++ [D], by rw [er, List.append_assoc]⟩
  · rcases List.mem_append.mp z with z | z
    · exact (l12.keep a u ha na q).2 z
    · rw [List.mem_singleton.mp z, nH] at ha
      cases ha
  · show Rv G R (φ2 ++ [D]) H2 (.ref S2.length) (.ref D)
    unfold Rv
    refine ⟨D, rfl, ?_⟩
    rw [List.getElem?_append_right (by rw [rs2.len]; exact Nat.le_refl _), rs2.len, Nat.sub_self]
    rfl
end
section
variable {T : List Addr} {X : Cx} {E : XK} {elt tg iter : Expr} {ifs : List Expr} {scope : Scope} {own : List (Str × Nat)} {pos : Pos} {mi : MI0} {g : MG0} {mt : MT0} {me : ME0} {t : TG}
/-- what a comprehension's parts are, wherever they stand -/
structure LcOk (T : List Addr) (X : Cx) (elt tg : Expr) (ifs : List Expr) (scope : Scope) (own : List (Str × Nat)) (t : TG) (g : MG0) (mt : MT0) (me : ME0) : Prop where
  tg : ∀ (s : Shared) (H : Hp) (C : Addr) (cl : List (Str × Addr)) (fp : List Addr), MGc T (X.blk s H scope (compEnvC scope cl C X.env) fp) E0 tg (own.map (·.2)) t g
  ifs : ∀ (s : Shared) (H : Hp) (C : Addr) (cl : List (Str × Addr)) (fp : List Addr), MTs T (X.blk s H scope (compEnvC scope cl C X.env) fp) E0 ifs mt
  elt : ∀ (s : Shared) (H : Hp) (C : Addr) (cl : List (Str × Addr)) (fp : List Addr), ME T (X.blk s H scope (compEnvC scope cl C X.env) fp) E0 elt me
theorem LcOk.parts (h : LcOk T X elt tg ifs scope own t g mt me) : ∃ (tt : TT) (te : TE), (∀ (s : Shared) (H : Hp) (C : Addr) (cl : List (Str × Addr)) (fp : List Addr), PTs (X.blk s H scope (compEnvC scope cl C X.env) fp) ifs tt) ∧ (∀ (s : Shared) (H : Hp) (C : Addr) (cl : List (Str × Addr)) (fp : List Addr), PE (X.blk s H scope (compEnvC scope cl C X.env) fp) elt te) ∧
    SndG (X.gd T) E0 t g ∧ WipesG t (own.map (·.2)) ∧ SndT (X.gd T) E0 tt mt ∧ SndE (X.gd T) E0 te me := by
  obtain ⟨tt, pt, st⟩ := all_T (ι := Shared × Hp × Addr × List (Str × Addr) × List Addr) (XX := fun i => X.blk i.1 i.2.1 scope (compEnvC scope i.2.2.2.1 i.2.2.1 X.env) i.2.2.2.2) (G := (X.gd T)) (E := E0) (es := ifs) (m := mt) fun i => h.ifs i.1 i.2.1 i.2.2.1 i.2.2.2.1 i.2.2.2.2
  obtain ⟨te, pe, se⟩ := all_E (ι := Shared × Hp × Addr × List (Str × Addr) × List Addr) (XX := fun i => X.blk i.1 i.2.1 scope (compEnvC scope i.2.2.2.1 i.2.2.1 X.env) i.2.2.2.2) (G := (X.gd T)) (E := E0) (e := elt) (m := me) fun i => h.elt i.1 i.2.1 i.2.2.1 i.2.2.2.1 i.2.2.2.2
  exact ⟨tt, te, fun s H C cl fp => pt (s, H, C, cl, fp), fun s H C cl fp => pe (s, H, C, cl, fp), (h.tg {} (fun _ => none) 0 [] []).snd, (h.tg {} (fun _ => none) 0 [] []).wip, st, se⟩
theorem me_lc (hc : X.calm = true) (hN : X.N.Nodup) (hi : MI T X E tg iter mi) (ok : blkC X.N X.env.scope scope own = true) (h : LcOk T X elt tg ifs scope own t g mt me) (hs : ∀ x, foldedSetIterable iter X.env x = pure x := by intro _; rfl) :
    ME T X E (.ListComp elt [⟨tg, iter, ifs, 0⟩] scope pos) (mLc mi g mt me (own.map (·.2))) := by
  obtain ⟨wi, pi, si⟩ := hi
  obtain ⟨tt, te, pt, pe, sg, wg, st, se⟩ := h.parts
  exact ⟨_, pe_lc hc hN pi (blkOk_by ok) (fun s H C cl fp => (h.tg s H C cl fp).pg) pt pe hs, lc_snd si sg wg st se⟩
theorem me_lcS (hc : X.calm = true) (hN : X.N.Nodup) (hi : MI T X E tg iter mi) (ok : blkC X.N X.env.scope scope own = true) (h : LcOk T X elt tg ifs scope own t g mt me) (hs : ∀ x, foldedSetIterable iter X.env x = pure x := by intro _; rfl) :
    ME T X E (.ListComp elt [⟨tg, iter, ifs, 0⟩] scope pos) (mLcS mi g mt me (own.map (·.2))) := by
  obtain ⟨wi, pi, si⟩ := hi
  obtain ⟨tt, te, pt, pe, sg, wg, st, se⟩ := h.parts
  exact ⟨_, pe_lc hc hN pi (blkOk_by ok) (fun s H C cl fp => (h.tg s H C cl fp).pg) pt pe hs, lcS_snd si sg wg st se⟩
theorem ms_setLc {i : Nat} {y : Str} {py spos : Pos} (hc : X.calm = true) (hN : X.N.Nodup) (hy : X.N[i]? = some y) (hyl : X.env.scope.names.lookup y = some .local) (hsw : swapsWith (.ListComp elt [⟨tg, iter, ifs, 0⟩] scope pos) (some (.Name y py)) spos.line X.env = pure true)
    (hi : MI T X E tg iter mi) (ok : blkC X.N X.env.scope scope own = true) (h : LcOk T X elt tg ifs scope own t g mt me) (hs : ∀ x, foldedSetIterable iter X.env x = pure x := by intro _; rfl) :
    MS T X E (.Assign [.Name y py] (.ListComp elt [⟨tg, iter, ifs, 0⟩] scope pos) spos) (sAsg (mLc mi g mt me (own.map (·.2))) (gN i)) := by
  obtain ⟨wi, pi, si⟩ := hi
  obtain ⟨tt, te, pt, pe, sg, wg, st, se⟩ := h.parts
  exact ⟨_, ps_setLc hc hN hy hyl hsw pi (blkOk_by ok) (fun s H C cl fp => (h.tg s H C cl fp).pg) pt pe hs, SndS.asg (lc_snd si sg wg st se) SndG.name⟩
theorem ms_setLcS {i : Nat} {y : Str} {py spos : Pos} (hc : X.calm = true) (hN : X.N.Nodup) (hy : X.N[i]? = some y) (hyl : X.env.scope.names.lookup y = some .local) (hsw : swapsWith (.ListComp elt [⟨tg, iter, ifs, 0⟩] scope pos) (some (.Name y py)) spos.line X.env = pure true)
    (hi : MI T X E tg iter mi) (ok : blkC X.N X.env.scope scope own = true) (h : LcOk T X elt tg ifs scope own t g mt me) (hs : ∀ x, foldedSetIterable iter X.env x = pure x := by intro _; rfl) :
    MS T X E (.Assign [.Name y py] (.ListComp elt [⟨tg, iter, ifs, 0⟩] scope pos) spos) (sAsg (mLcS mi g mt me (own.map (·.2))) (gN i)) := by
  obtain ⟨wi, pi, si⟩ := hi
  obtain ⟨tt, te, pt, pe, sg, wg, st, se⟩ := h.parts
  exact ⟨_, ps_setLc hc hN hy hyl hsw pi (blkOk_by ok) (fun s H C cl fp => (h.tg s H C cl fp).pg) pt pe hs, SndS.asg (lcS_snd si sg wg st se) SndG.name⟩
end
/-! ### built-ins -/
section
variable {T : List Addr} {X : Cx} {E : XK} {e : Expr} {es : List Expr} {me : ME0} {mr : MA0} {pos p : Pos} {G : Gd}
/-- len -/
def fLen : List D → Store → Res D := fun ds S => match ds with
  | [d] => match seqOf S d with
    | some xs => .ok (.int xs.length) S
    | none => match d with
      | .str z => if z.length ≤ sizeLine then .ok (.int z.length) S else .bad
      | _ => .bad
  | _ => .bad
theorem CallR.orr {f : Value} {r r' : List V → Hp → VK → Prop} (h : CallR X f r) (h' : CallR X f r') : CallR X f (fun xs H Q => r xs H Q ∨ r' xs H Q) := by
  intro pins s σ H xs us Q I rv q
  rcases q with q | q
  · exact h pins s σ H xs us Q I rv q
  · exact h' pins s σ H xs us Q I rv q
theorem o_len : OpL G E (fun xs H Q => (∃ p ys, xs = [V.ref p] ∧ (SqL G.K H p ys ∨ SqT G.K H p ys) ∧ Q (.int ys.length) H) ∨ (∃ z, xs = [V.str z] ∧ z.length ≤ sizeLine ∧ Q (.int z.length) H)) fLen := by
  intro R φ S H ds xs rs rv
  unfold fLen
  split
  · rename_i d
    obtain ⟨v, rfl, h1⟩ := RvL.one_of rv
    split
    · rename_i ys hy
      obtain ⟨a, vs, rfl, h2, h3⟩ := seq_of rs h1 hy
      exact Run.ret rs Rv.int fun Q q => .inl ⟨a, vs, rfl, h2, by rw [← RvL.length h3]; exact q⟩
    · split
      · rename_i z _
        have e := Rv.str_of h1
        subst e
        by_cases hz : z.length ≤ sizeLine
        · rw [if_pos hz]
          exact Run.ret rs Rv.int fun Q q => .inr ⟨z, rfl, hz, q⟩
        · rw [if_neg hz]
          exact Run.bad
      · exact Run.bad
  · exact Run.bad
theorem me_len (hg : Gl X "len") (hm : X.mg "len" = none) (ha : MAn T X E [e] mr) (he : starEach [e] X.env = (false, eval e X.env) :: starEach [] X.env := by rfl) (hpl : (backTo pos (starEach [] X.env)).any (·.1) = false := by rfl) :
    ME T X E (.Call (.Name "len" p) [e] [] pos) (mCall fLen mr) := me_cb (CallR.orr call_len_seq call_len_str) o_len hg hm PySem.boot_len ha (by decide) (by decide) he hpl
/-- all of a list of truth values -/
def blsOf : List D → Option (List Bool)
  | [] => some []
  | .bl b :: r => (blsOf r).map (b :: ·)
  | _ :: _ => none
theorem blsOf_vals {R φ : List Addr} {H : Hp} : ∀ {ds : List D} {vs : List V} {bs : List Bool}, RvL G R φ H ds vs → blsOf ds = some bs → vs = bs.map V.bl
  | [], vs, bs, h, e => by
    unfold RvL at h
    cases e
    exact h
  | .bl b :: r, vs, bs, h, e => by
    unfold RvL at h
    obtain ⟨v, t, rfl, h1, h2⟩ := h
    obtain ⟨cs, e1, rfl⟩ := Option.map_eq_some_iff.mp (show (blsOf r).map (b :: ·) = some bs from e)
    rw [Rv.bl_of h1, blsOf_vals h2 e1]
    rfl
  | .non :: r, vs, bs, h, e => by cases e
  | .int _ :: r, vs, bs, h, e => by cases e
  | .str _ :: r, vs, bs, h, e => by cases e
  | .tup _ :: r, vs, bs, h, e => by cases e
  | .lst _ :: r, vs, bs, h, e => by cases e
  | .frz _ :: r, vs, bs, h, e => by cases e
  | .ref _ :: r, vs, bs, h, e => by cases e
def fAll : List D → Store → Res D := fun ds S => match ds with
  | [d] => match lstOf S d with
    | some xs => match blsOf xs with
      | some bs => .ok (.bl (bs.all id)) S
      | none => .bad
    | none => .bad
  | _ => .bad
theorem o_all : OpL G E (rAll G.K) fAll := by
  intro R φ S H ds xs rs rv
  unfold fAll
  split
  · rename_i d
    obtain ⟨v, rfl, h1⟩ := RvL.one_of rv
    split
    · rename_i ys hy
      obtain ⟨a, vs, rfl, h2, h3⟩ := lst_of rs h1 hy
      split
      · rename_i bs hb
        have e := blsOf_vals h3 hb
        subst e
        exact Run.ret rs Rv.bl fun Q q => ⟨a, bs, rfl, h2, q⟩
      · exact Run.bad
    · exact Run.bad
  · exact Run.bad
theorem me_all (hc : X.calm = true) (hg : Gl X "all") (hm : X.mg "all" = none) (ha : MAn T X E [e] mr) (he : starEach [e] X.env = (false, eval e X.env) :: starEach [] X.env := by rfl) (hpl : (backTo pos (starEach [] X.env)).any (·.1) = false := by rfl) :
    ME T X E (.Call (.Name "all" p) [e] [] pos) (mCall fAll mr) := me_cb (cr_all hc) o_all hg hm (by decide +kernel) ha (by decide) (by decide) he hpl
/-- tuple(xs) -/
def fTuple : List D → Store → Res D := fun ds S => match ds with
  | [.tup xs] => .ok (.tup xs) S
  | [d] => match lstOf S d with
    | some xs => .ok (.tup xs) S
    | none => .bad
  | _ => .bad
theorem o_tuple : OpL G E (fun xs H Q => ∃ p ys, xs = [V.ref p] ∧ ((SqL G.K H p ys ∧ ∀ l, H l = none → Q (.ref l) (upd H l (.tup ys))) ∨ (SqT G.K H p ys ∧ Q (.ref p) H))) fTuple := by
  intro R φ S H ds xs rs rv
  unfold fTuple
  split
  · rename_i ys
    obtain ⟨v, rfl, h1⟩ := RvL.one_of rv
    obtain ⟨a, vs, rfl, h2, h3⟩ := Rv.tup_of h1
    exact Run.ret rs h1 fun Q q => ⟨a, vs, rfl, .inr ⟨h2, q⟩⟩
  · rename_i d _
    obtain ⟨v, rfl, h1⟩ := RvL.one_of rv
    split
    · rename_i ys hy
      obtain ⟨a, vs, rfl, h2, h3⟩ := lst_of rs h1 hy
      exact Run.new (o := .tup vs) rs (fun p hp => Rv.tup upd_same (RvL.le (Le.new rs hp) h3)) fun Q q => ⟨a, vs, rfl, .inl ⟨h2, q⟩⟩
    · exact Run.bad
  · exact Run.bad
theorem me_tuple (hg : Gl X "tuple") (hm : X.mg "tuple" = none) (ha : MAn T X E [e] mr) (he : starEach [e] X.env = (false, eval e X.env) :: starEach [] X.env := by rfl) (hpl : (backTo pos (starEach [] X.env)).any (·.1) = false := by rfl) :
    ME T X E (.Call (.Name "tuple" p) [e] [] pos) (mCall fTuple mr) := me_cty call_tuple_of o_tuple hg hm (by decide +kernel) ha (by decide) (by decide) he hpl
/-- int(x) of an int, of a truth value -/
def fInt : List D → Store → Res D := fun ds S => match ds with
  | [.int i] => .ok (.int i) S
  | [.bl k] => .ok (.int (if k then 1 else 0)) S
  | _ => .bad
theorem o_int : OpL G E (fun xs H Q => (∃ i, xs = [V.int i] ∧ Q (.int i) H) ∨ ∃ k, xs = [V.bl k] ∧ Q (.int (if k then 1 else 0)) H) fInt := by
  intro R φ S H ds xs rs rv
  unfold fInt
  split
  · rename_i i
    obtain ⟨v, rfl, h1⟩ := RvL.one_of rv
    have e := Rv.int_of h1
    subst e
    exact Run.ret rs h1 fun Q q => .inl ⟨i, rfl, q⟩
  · rename_i k
    obtain ⟨v, rfl, h1⟩ := RvL.one_of rv
    have e := Rv.bl_of h1
    subst e
    exact Run.ret rs Rv.int fun Q q => .inr ⟨k, rfl, q⟩
  · exact Run.bad
theorem me_int1 (hg : Gl X "int") (hm : X.mg "int" = none) (ha : MAn T X E [e] mr) (he : starEach [e] X.env = (false, eval e X.env) :: starEach [] X.env := by rfl) (hpl : (backTo pos (starEach [] X.env)).any (·.1) = false := by rfl) :
    ME T X E (.Call (.Name "int" p) [e] [] pos) (mCall fInt mr) := me_cty call_int1 o_int hg hm (by decide +kernel) ha (by decide) (by decide) he hpl
/-- max(i, j), min(i, j) -/
def f2L (g : Int → Int → Int) : List D → Store → Res D := fun ds S => match ds with
  | [.int i, .int j] => .ok (.int (g i j)) S
  | _ => .bad
theorem o_2L {g : Int → Int → Int} : OpL G E (fun xs H Q => ∃ i j, xs = [V.int i, V.int j] ∧ Q (.int (g i j)) H) (f2L g) := by
  intro R φ S H ds xs rs rv
  unfold f2L
  split
  · rename_i i j
    obtain ⟨v, w, rfl, h1, h2⟩ := RvL.two_of rv
    have e := Rv.int_of h1
    have e' := Rv.int_of h2
    subst e
    subst e'
    exact Run.ret rs Rv.int fun Q q => ⟨i, j, rfl, q⟩
  · exact Run.bad
abbrev fMax2 := f2L fun i j => if j > i then j else i
abbrev fMin2 := f2L fun i j => if j < i then j else i
theorem me_max2 {e1 e2 : Expr} (hc : X.calm = true) (hg : Gl X "max") (hm : X.mg "max" = none) (ha : MAn T X E [e1, e2] mr) (he : starEach [e1, e2] X.env = (false, eval e1 X.env) :: starEach [e2] X.env := by rfl) (hpl : (backTo pos (starEach [e2] X.env)).any (·.1) = false := by rfl) :
    ME T X E (.Call (.Name "max" p) [e1, e2] [] pos) (mCall fMax2 mr) := me_cb (call_max2 hc) o_2L hg hm (by decide +kernel) ha (by decide) (by decide) he hpl
theorem me_min2 {e1 e2 : Expr} (hc : X.calm = true) (hg : Gl X "min") (hm : X.mg "min" = none) (ha : MAn T X E [e1, e2] mr) (he : starEach [e1, e2] X.env = (false, eval e1 X.env) :: starEach [e2] X.env := by rfl) (hpl : (backTo pos (starEach [e2] X.env)).any (·.1) = false := by rfl) :
    ME T X E (.Call (.Name "min" p) [e1, e2] [] pos) (mCall fMin2 mr) := me_cb (call_min2 hc) o_2L hg hm (by decide +kernel) ha (by decide) (by decide) he hpl
/-- isinstance(x, T), T a built-in class -/
def tyO : Option O → Option String
  | some (.lst _) => some "list"
  | some (.dct _) => some "dict"
  | _ => none
def tyD (S : Store) : D → Option String
  | .non => some "NoneType"
  | .bl _ => some "bool"
  | .int _ => some "int"
  | .str _ => some "str"
  | .tup _ => some "tuple"
  | .lst _ => some "list"
  | .frz _ => none
  | .ref n => tyO S[n]?
def fIsi (T : String) : D → Store → Res D := fun d S => match tyD S d with
  | some t => match kitB t T with
    | some b => .ok (.bl b) S
    | none => .bad
  | none => .bad
theorem tyD_x {R φ : List Addr} {S : Store} {H : Hp} {d : D} {v : V} {t : String} (rs : Rs G R φ S H) (h : Rv G R φ H d v) (e : tyD S d = some t) : TyX G.K H v (.type t) := by
  cases d with
  | non => cases e; rw [Rv.non_of h]; exact .base .non
  | bl b => cases e; rw [Rv.bl_of h]; exact .base (.bl b)
  | int i => cases e; rw [Rv.int_of h]; exact .base (.int i)
  | str z => cases e; rw [Rv.str_of h]; exact .base (.str z)
  | tup ds =>
    cases e
    obtain ⟨a, vs, rfl, h1, _⟩ := Rv.tup_of h
    rcases h1 with (h1 | ⟨o, h1⟩) | ⟨o, its, n, h1, h2, _⟩
    · exact .base (.tup h1)
    · exact .fTuple h1
    · exact .kTuple h1 h2
  | lst ds =>
    cases e
    obtain ⟨a, vs, rfl, _, _, h1, _⟩ := Rv.lst_of h
    exact .base (.lst h1)
  | frz ds => cases e
  | ref n =>
    change tyO S[n]? = some t at e
    cases ho : S[n]? with
    | none => rw [ho] at e; cases e
    | some o =>
      rw [ho] at e
      cases o with
      | lst ds =>
        cases e
        obtain ⟨a, vs, rfl, _, h1, _⟩ := rs.lst h ho
        exact .base (.lst h1)
      | dct kvs =>
        cases e
        obtain ⟨a, rfl, ha⟩ := Rv.ref_of h
        obtain ⟨vs, u, h1, sh, _⟩ := rs.obj n _ a ho ha
        have sh' : u = .dK _ := sh
        subst sh'
        exact .base (.dK h1)
      | dcT kvs => cases e
      | ins c fs => cases e
theorem me_isi {TT : String} {x : Str} {q : Pos} (hg : Gl X "isinstance") (hm : X.mg "isinstance" = none) (hgT : Gl X x) (hmT : X.mg x = none) (hvT : bootBuiltins x = some (.type TT)) (h : ME T X E e me) (hnT : x ≠ "__name__" := by decide) (hdT : (x == ("__debug__" : Str)) = false := by decide)
    (he : starEach [e, .Name x q] X.env = (false, eval e X.env) :: starEach [.Name x q] X.env := by rfl) (he2 : starEach [.Name x q] X.env = (false, eval (.Name x q) X.env) :: starEach [] X.env := by rfl) (hpl : (backTo pos (starEach [.Name x q] X.env)).any (·.1) = false := by rfl) :
    ME T X E (.Call (.Name "isinstance" p) [e, .Name x q] [] pos) (mUn (fIsi TT) me) := by
  obtain ⟨t, pt, st⟩ := h
  refine ⟨_, pe_callB call_isi hg hm (by decide +kernel) (pa_cons pt (pa_cons (pe_bltn (v := .ty TT) hgT hmT hvT rfl hnT hdT) pa_nil he2) he) (by decide) (by decide) he hpl, fun σ H ρ φ R S rs rn => ?_⟩
  refine Run.bnd (c' := fun (v : V) H1 (Q : VK) => rIsi X.K [v, .ty TT] H1 Q) (st σ H ρ φ R S rs rn) (fun d S1 φ1 v H1 e0 l1 rs1 r1 => ?_) fun Q q => q
  unfold fIsi
  split
  · rename_i ty ht
    split
    · rename_i b hb
      exact Run.ret rs1 Rv.bl fun Q q => ⟨v, .ty TT, .type ty, .type TT, b, rfl, .ty TT, tyD_x rs1 r1 ht, kit_ty hb, q⟩
    · exact Run.bad
  · exact Run.bad
end
/-! ### a def -/
theorem start_rn {G : Gd} {R φ : List Addr} {H : Hp} {N : List Str} {ds : List D} {vs : List V} (r : RvL G R φ H ds vs) : Rn G R φ H (ds.map some ++ List.replicate (N.length - ds.length) none) (L2.start N vs) := by
  unfold L2.start
  have hl := RvL.length r
  refine ⟨by simp [hl], fun i d e => ?_⟩
  by_cases hi : i < ds.length
  · rw [List.getElem?_append_left (by rw [List.length_map]; exact hi), List.getElem?_map] at e
    obtain ⟨d', e1, e2⟩ := Option.map_eq_some_iff.mp e
    cases e2
    obtain ⟨v, e3, e4⟩ := RvL.get r e1
    refine ⟨v, ?_, e4⟩
    rw [List.getElem?_append_left (by rw [List.length_map, ← hl]; exact hi), List.getElem?_map, e3]
    rfl
  · rw [List.getElem?_append_right (by rw [List.length_map]; omega)] at e
    obtain ⟨h1, h2⟩ := List.getElem?_eq_some_iff.mp e
    rw [List.getElem_replicate] at h2
    cases h2
section
variable {T : List Addr} {P : Program} {w : World} {K : PySem.W.Frag} {mg : Str → Option Value} {base : Heap}
theorem fn_ok {x qual : Str} {st : Stmt} {f : Addr} {fd : FuncData} {N ps : List Str} {k n : Nat} {m : MS0} (F : Fun K x qual st f fd) (S : FnScope N ps (defScope st)) (hn : ps.length = n)
    (hbody : ∀ (cdv : Value) (A : Around) (outer : List Env) (s : Shared) (H : Hp) (E : XK), Room k (A.deeper (envOfC qual (defScope st) s.heap.objs.size f cdv)) →
      MSs T (cxOf (L2.CX P w) P w K mg base N qual (defScope st) f cdv A outer s H E) E (defBody st) m) : FnOk P w K mg base (L2.CX P w) (k + 1) f fd ps (spM ⟨K, mg, T⟩ n (mDef N.length m)) := by
  refine F.okX S (fun vs H Q E h => ?_) (fun cdv A outer s H vs Q E hr h => ?_)
  · obtain ⟨φ, R, S, ds, _, h1, h2, _⟩ := h
    rw [← RvL.length h1, h2, hn]
  · obtain ⟨φ, R, S, ds, rs, rv, hl, hb, hq, hx⟩ := h
    obtain ⟨t, pt, st⟩ := hbody cdv A outer s H E hr
    refine ⟨t, pt, ?_⟩
    have e0 : mDef N.length m ds S = (m (ds.map some ++ List.replicate (N.length - ds.length) none) S).bind fun x S1 => match x.1 with
      | .nx => .ok .non S1
      | .rt d => .ok d S1
      | _ => .bad := rfl
    rw [e0] at hb hq hx
    refine st (L2.start N vs) H _ φ R S rs (start_rn rv) (fun o H' => match o with
      | .nx _ => Q .non H'
      | .rt v => Q v H'
      | _ => False) (fun y S' φ' o H' e1 l1 rs1 ro => ?_) (fun er S' φ' H' cl d e1 l1 rs1 xq => hx er S' φ' H' cl d (by rw [e1]; rfl) l1 rs1 xq) (fun e1 => hb (by rw [e1]; rfl))
    obtain ⟨fl, ρ'⟩ := y
    rw [e1, Res.bind_ok] at hb hq
    cases fl with
    | nx =>
      cases o with
      | nx σ => exact hq .non S' φ' .non H' rfl l1 rs1 Rv.non
      | _ => exact False.elim ro
    | rt d =>
      cases o with
      | rt v => exact hq d S' φ' v H' rfl l1 rs1 ro
      | _ => exact False.elim ro
    | bk => exact (hb rfl).elim
    | ct => exact (hb rfl).elim
end
end MM

/-! Walks over what is a list or a tuple; enumerate over both; calls by keywords. -/
namespace MM
open PySem L2 PyProof.Rows
section
variable {T : List Addr} {X : Cx} {tg : Expr}
/-- what iter(x) gives, by the value x -/
def IterR (X : Cx) (tg : Expr) (r : V → Hp → (It → Hp → Prop) → Prop) : Prop := ∀ (pins : List (Addr × Obj)) (s : Shared) (σ : L2.St) (H : Hp) (x : V) (u : Value) (R : It → Hp → Prop), Inv X pins σ H s → RelV x u → r x H R → wpAny (model X.prog X.w) X.A (pyIter u) (PIE X pins σ tg R) X.xe s
theorem IterR.or {r r' : V → Hp → (It → Hp → Prop) → Prop} (h : IterR X tg r) (h' : IterR X tg r') : IterR X tg (fun x H R => r x H R ∨ r' x H R) := fun pins s σ H x u R I rv q => by
  rcases q with q | q
  · exact h pins s σ H x u R I rv q
  · exact h' pins s σ H x u R I rv q
theorem pi_by {e : Expr} {te : TE} {r : V → Hp → (It → Hp → Prop) → Prop} (he : PE X e te) (h : IterR X tg r) : PI X tg e (fun σ H R => te σ H fun x H1 => r x H1 R) :=
  ⟨fun pins s σ H R I q => thn (he.run pins s σ H _ I q) fun v s1 ⟨x, H1, I1, r1, q1⟩ => h pins s1 σ H1 x v R I1 r1 q1⟩
theorem ir_list : IterR X tg (fun x H R => ∃ a xs, x = .ref a ∧ SqL X.K H a xs ∧ R (Itl X.K a) H) := fun pins s1 σ H1 x v R I1 r1 q1 => by
  obtain ⟨a, xs, e, hq, q⟩ := q1
  subst e
  cases r1
  obtain ⟨its, rv, p, hz⟩ := I1.list hq
  refine wpAny_pyIter_list p.isList ?_
  refine ⟨s1.heap.objs.size, [s1.heap.objs.size], _, _, H1, rfl, I1.kept (t' := s1.toks) fun b o e => Heap.get?_push_of_some _ e, turn_list a _, ⟨_, Heap.get?_push_size _ rfl, rfl, rfl⟩, fun b hb => ?_, q⟩
  have e : b = s1.heap.objs.size := by simpa using hb
  subst e
  exact I1.fpOk (Nat.le_refl _) (I1.hok.fresh (Nat.le_refl _))
theorem ir_tup : IterR X tg (fun x H R => ∃ a xs, x = .ref a ∧ SqT X.K H a xs ∧ R (Itt X.K a) H) := fun pins s1 σ H1 x v R I1 r1 q1 => by
  obtain ⟨a, xs, e, hq, q⟩ := q1
  subst e
  cases r1
  obtain ⟨its, rv, p, hz⟩ := I1.tuple hq
  refine wpAny_pyIter_tuple (show s1.heap.IsTuple a its.toArray from p) ?_
  refine ⟨s1.heap.objs.size, [s1.heap.objs.size], _, _, H1, rfl, I1.kept (t' := s1.toks) fun b o e => Heap.get?_push_of_some _ e, turn_tuple a _, ⟨_, Heap.get?_push_size _ rfl, rfl, rfl⟩, fun b hb => ?_, q⟩
  have e : b = s1.heap.objs.size := by simpa using hb
  subst e
  exact I1.fpOk (Nat.le_refl _) (I1.hok.fresh (Nat.le_refl _))
end
section
variable {T : List Addr} {X : Cx} {E : XK} {e tg : Expr} {me : ME0}
def itOf (S : Store) : D → Option ItD
  | .tup ds => some (itL ds)
  | .lst ds => some (itL ds)
  | .frz ds => some (itL ds)
  | .ref n => (lstAt S n).map fun _ => itS n
  | _ => none
/-- what is a list or a tuple, walked -/
def miA (me : ME0) : MI0 := fun ρ S => (me ρ S).bind fun d S1 => match itOf S1 d with
  | some it => .ok it S1
  | none => .bad
theorem itOf_rel {G : Gd} {R φ : List Addr} {S : Store} {H : Hp} {d : D} {v : V} {it : ItD} (rs : Rs G R φ S H) (r : Rv G R φ H d v) (h : itOf S d = some it) : ∃ a, v = .ref a ∧ ((∃ vs, SqL G.K H a vs ∧ RelI G R φ H it (Itl G.K a)) ∨ (∃ vs, SqT G.K H a vs ∧ RelI G R φ H it (Itt G.K a))) := by
  cases d with
  | tup ds =>
    cases h
    obtain ⟨a, vs, rfl, h1, h2⟩ := Rv.tup_at r
    exact ⟨a, rfl, .inr ⟨vs, .inl (.inl h1), relI_tup h1 h2⟩⟩
  | lst ds =>
    cases h
    obtain ⟨a, vs, rfl, n1, n2, h1, h2⟩ := Rv.lst_of r
    exact ⟨a, rfl, .inl ⟨vs, .inl (.inl h1), relI_list (fun φ' H' l => .inl (.inl (l.keep a _ h1 n1 (fun _ z => nomatch z)).1)) h2⟩⟩
  | frz ds =>
    cases h
    obtain ⟨a, vs, rfl, h1, h2⟩ := Rv.frz_of r
    exact ⟨a, rfl, .inl ⟨vs, h1.sq, relI_list (fun φ' H' l => (Fz.le l h1).sq) h2⟩⟩
  | ref n =>
    obtain ⟨ds, e1, e2⟩ := Option.map_eq_some_iff.mp (show (lstAt S n).map (fun _ => itS n) = some it from h)
    subst e2
    obtain ⟨a, vs, rfl, ha, h1, h2⟩ := rs.lst r (lstAt_of e1)
    exact ⟨a, rfl, .inl ⟨vs, .inl (.inl h1), relI_store ha⟩⟩
  | _ => cases h
theorem mi_any (h : ME T X E e me) : MI T X E tg e (miA me) := by
  obtain ⟨t, pt, s⟩ := h
  refine ⟨_, pi_by pt (IterR.or ir_list ir_tup), fun σ H ρ φ R S rs rn => Run.bnd (c' := fun (x : V) H1 Q => (∃ a xs, x = V.ref a ∧ SqL X.K H1 a xs ∧ Q (Itl X.K a) H1) ∨ (∃ a xs, x = V.ref a ∧ SqT X.K H1 a xs ∧ Q (Itt X.K a) H1)) (s σ H ρ φ R S rs rn) (fun d S1 φ1 v H1 e0 l1 rs1 r1 => ?_) fun Q q => q⟩
  split
  · rename_i it hit
    obtain ⟨a, rfl, h1 | h1⟩ := itOf_rel rs1 r1 hit
    · obtain ⟨vs, h2, h3⟩ := h1
      exact Run.ret (v := Itl X.K a) rs1 h3 fun Q q => .inl ⟨a, vs, rfl, h2, q⟩
    · obtain ⟨vs, h2, h3⟩ := h1
      exact Run.ret (v := Itt X.K a) rs1 h3 fun Q q => .inr ⟨a, vs, rfl, h2, q⟩
  · exact Run.bad
end
/-! ### enumerate over a tuple -/
set_option maxHeartbeats 8000000 in
theorem meets_enumerate_newB1 {v : Value} {o : Obj} {H : Heap → Prop} (B : Begins v o H) :
    Meets (Builtin.«enumerate.__new__» ⟨[.type "enumerate", v], []⟩) (fun _ R s => H s.heap ∧
      R (.ok (.ret (.ref (s.heap.push o).objs.size))) { s with heap := (s.heap.push o).push { cls := .type "enumerate", data := .fields #[.none, .bool false, .ref s.heap.objs.size, rawInt 0, .none, .none] } }) :=
  .of_wp fun prog w A R s h => by
    obtain ⟨hp, g, d, tk, os⟩ := s; obtain ⟨h1, h⟩ := h
    have hsub := sub_enumerate
    have q1 : ∀ {A' : Around} {E : Value → Shared → Prop} {Q : Value → Shared → Prop}, Q (.ref hp.objs.size) ⟨hp.push o, g, d, tk, os⟩ → wpAny (model prog w) A' (pyIter v) Q E ⟨hp, g, d, tk, os⟩ :=
      fun q => B.iter prog w _ _ ⟨hp, g, d, tk, os⟩ _ h1 q
    wp_walk using q1
    refine wpAny_stack_any fun st => wpAny_pure ?_
    split
    · rename_i c _ _ _ _ _
      cases (c == Value.type "enumerate")
      · wp_walk using q1
        exact ⟨_, rfl, h⟩
      · wp_walk using q1
        exact ⟨_, rfl, h⟩
    · wp_walk using q1
      exact ⟨_, rfl, h⟩
theorem call_enumerate_B {prog : Program} {w : World} {A : Around} {E : Value → Shared → Prop} {s : Shared} {v : Value} {o : Obj} {H : Heap → Prop} {Q : Value → Shared → Prop} (B : Begins v o H) (h1 : H s.heap)
    (h : ∀ h', IsEnum h' (s.heap.objs.size + 1) s.heap.objs.size 0 .none → h'.get? s.heap.objs.size = some o → h'.objs.size = s.heap.objs.size + 2 →
      (∀ b o, s.heap.get? b = some o → h'.get? b = some o) → Q (.ref (s.heap.objs.size + 1)) { s with heap := h' }) :
    wpAny (model prog w) A (call (.type "enumerate") [v]) Q E s := by
  refine callType_new F.called_enumerate (by decide) (F.typeCall_enumerate_1 _) (F.newCall_enumerate_1 _) (fun obj => F.args_object_init_2 obj _) F.entry_enumerate_new
    (meets_enumerate_newB1 B) ⟨h1, ?_⟩
  have hz : (s.heap.push o).objs.size = s.heap.objs.size + 1 := Heap.size_push ..
  show _ ∧ _
  rw [hz]
  have he : IsEnum ((s.heap.push o).push { cls := .type "enumerate", data := .fields #[.none, .bool false, .ref s.heap.objs.size, rawInt 0, .none, .none] }) (s.heap.objs.size + 1) s.heap.objs.size 0 .none := by
    have := Heap.get?_push_size (s.heap.push o) (o := { cls := .type "enumerate", data := .fields #[.none, .bool false, .ref s.heap.objs.size, rawInt 0, .none, .none] }) rfl
    rw [hz] at this; exact this
  exact ⟨⟨_, he, rfl⟩, h _ he (Heap.get?_push_of_some _ (Heap.get?_push_size _ B.free)) (by rw [Heap.size_push, hz]) fun b o x => Heap.get?_push_of_some _ (Heap.get?_push_of_some _ x)⟩
theorem pyNext_enumT_end {prog : Program} {w : World} {A : Around} {E : Value → Shared → Prop} {s : Shared} {e it l : Addr} {i : Nat} {items : Array Value} {old : Value} {Q : Option Value → Shared → Prop} (hh : A.in1.handled = none)
    (he : IsEnum s.heap e it i old) (hit : s.heap.IsTupleIter it l i) (hl : s.heap.IsTuple l items) (hx : items[i]? = none)
    (hQ : ∀ h', Heap.ExtBut it s.heap h' → Q none { s with heap := h' }) : wpAny (model prog w) A (pyNext (.ref e)) Q E s := by
  have hT : s.TypeIs (.ref e) "enumerate" := ⟨_, he, rfl⟩
  unfold pyNext
  refine wpAny_bind (wpAny_attempt (wpAny_callSpecial?_slot (name := Str.ofString "__next__") hT F.slot_enumerate_next
    (wpAny_call_entry F.slot_enumerate_next hT F.entry_enumerate_next ?_ (F.args_enumerate_next_1 _))))
  show wpAny _ _ (field (.ref e) 2 >>= _) _ _ _
  refine wpAny_bind (wpAny_field he rfl (x := .ref it) rfl ?_)
  refine wpAny_bind (wpAny_nextOf_tuple_end hh hit hl hx fun h' x he' hx' => ?_)
  obtain ⟨o, ho, hc⟩ := hx'
  refine wpAny_bind (wpAny_isInstance (T := "StopIteration") (b := true) ⟨o, ho, hc⟩ isSubtype_stop ?_)
  exact wpAny_pure (hQ _ he')
/-- the tuple at a, each item in a new pair -/
def IteT (K : PySem.W.Frag) (a : Addr) : It :=
  ⟨fun i H => ∃ (xs : List V) (x : V), SqT K H a xs ∧ xs[i]? = some x, fun i H v H' => ∃ T x, v = .ref T ∧ H T = none ∧ H' = upd H T (.tup [.int (i : Nat), x]) ∧ ∀ xs, SqT K H a xs → xs[i]? = some x, fun i H => ∃ xs : List V, SqT K H a xs ∧ xs.length ≤ i⟩
theorem turn_enumT {P : Program} {w : World} {K : PySem.W.Frag} {elts : List Expr} {kk : Nat} {tpos : Pos} (a e it : Addr) :
    Turn P w K (.Tuple elts kk tpos) (IteT K a) [e, it] e (fun i h => (∃ old, IsEnum h e it ((i : Nat) : Int) old) ∧ h.IsTupleIter it a i ∧ e ≠ it) where
  mem := by simp
  obj := fun i h st b hb => by
    obtain ⟨⟨old, he⟩, ⟨o, ho, hc, hd⟩, _⟩ := st
    have e' : b = e ∨ b = it := by simpa using hb
    rcases e' with z | z
    · rw [z]; exact ⟨_, he, fun v q => nomatch q⟩
    · rw [z]; exact ⟨o, ho, fun v q => by rw [hd] at q; cases q⟩
  keep := fun i h h' st k => let ⟨⟨old, he⟩, hi, hne⟩ := st; ⟨⟨old, k e (by simp) _ he⟩, hi.at fun o q => k it (by simp) o q, hne⟩
  item := by
    intro X hP hw hK hc i pins s σ H E I hf st hg
    subst hP hw hK
    obtain ⟨⟨old, he⟩, hit, hne⟩ := st
    obtain ⟨xs, x, hq, hx⟩ := hg
    obtain ⟨its, rv, p, hz⟩ := I.tuple hq
    obtain ⟨u, hu, ru⟩ := rv.get hx
    have hel : e < s.heap.objs.size := Heap.lt_size he
    have hil : it < s.heap.objs.size := by obtain ⟨_, q, _⟩ := hit; exact Heap.lt_size q
    have hta : a ≠ it := by
      rintro rfl
      obtain ⟨o1, e1, c1, _⟩ := hit
      obtain ⟨o2, e2, c2, _⟩ := show s.heap.IsTuple a its.toArray from p
      rw [e1] at e2
      cases e2
      rw [c1] at c2
      exact absurd c2 (by decide)
    have hea : e ≠ a := by
      rintro rfl
      obtain ⟨o2, e2, c2, _⟩ := show s.heap.IsTuple e its.toArray from p
      rw [show s.heap.get? e = some _ from he] at e2
      cases e2
      exact absurd (show (Value.type "enumerate" : Value) = .type "tuple" from c2) (by decide)
    have hil2 : i < its.toArray.size := by
      have := (List.getElem?_eq_some_iff.mp hu).1
      simpa using this
    refine wpAny_pyNext_enum_itemC (Draws.tuple (by simpa using I.ok.hd hc) it a hta its.toArray) he ⟨hit, p⟩ hil2 hne (by simp [hne, hea]) fun x0 h' tk hx0 ho hst' hT hsz hk => ?_
    have ex0 : x0 = u := by
      have h2 : its.toArray[i]? = some u := by simpa using hu
      have h3 : its.toArray[i]? = some x0 := hx0
      rw [h2] at h3
      exact (Option.some.inj h3).symm
    subst ex0
    refine ⟨_, rfl, wpAny_letOwnedTupleGo_enum (s := { s with heap := h', toks := tk + 1 }) ho fun h'' he' sb => ?_⟩
    have hT2 : h''.get? s.heap.objs.size = some { cls := .type "tuple", data := .seq #[.int i tk, x0] } := (sb.2 _ (Nat.ne_of_gt hel)).trans hT
    have new : ObjOk X.prog X.w (upd H s.heap.objs.size (.tup [.int (i : Nat), x])) h'' s.heap.objs.size (.tup [.int (i : Nat), x]) :=
      ⟨by show 2 ≤ sizeLine; decide, [.int i tk, x0], .cons ⟨_, rfl⟩ (.cons ru .nil), ⟨_, hT2, rfl, _, rfl⟩⟩
    have I1 : Inv X pins σ (upd H s.heap.objs.size (.tup [.int (i : Nat), x])) { s with heap := h'', toks := tk + 1 } :=
      I.turnedNew (ch := [e, it]) (fun b ob hb q => (sb.2 b (fun z => hb (by simp [z]))).trans (hk b ob (fun z => hb (by simp [z])) (fun z => hb (by simp [z])) q)) hf (Nat.le_refl _) new
    refine ⟨.ref s.heap.objs.size, _, I1, rfl, ⟨_, x, rfl, I.hok.fresh (Nat.le_refl _), rfl, fun ys hy => by rw [I.tuple_inj hy hq]; exact hx⟩, ⟨⟨x0, ?_⟩, hst'.1.at fun o q => (sb.2 it (Ne.symm hne)).trans q, hne⟩, fun b hb => ?_⟩
    · have e1 : ((i + 1 : Nat) : Int) = (i : Int) + 1 := by omega
      rw [e1]; exact he'
    · have hb' : b < s.heap.objs.size := by
        have e' : b = e ∨ b = it := by simpa using hb
        rcases e' with z | z
        · rw [z]; exact hel
        · rw [z]; exact hil
      rw [upd_ne (Nat.ne_of_lt hb')]
      exact (hf b hb).1
  done := by
    intro X hP hw hK hc i pins s σ H E I hf st hg
    subst hP hw hK
    obtain ⟨⟨old, he⟩, hit, hne⟩ := st
    obtain ⟨xs, hq, hx⟩ := hg
    obtain ⟨its, rv, p, hz⟩ := I.tuple hq
    obtain ⟨f0, f1, f2, f3, f4, f5⟩ := hf it (by simp)
    have hl := rv.length
    exact pyNext_enumT_end (by simpa using I.ok.hd hc) he hit p (by simp; omega) fun h' eb => ⟨rfl, I.turned (t' := s.toks) (fun b o hb q => eb b o hb q) f0 f1 f3 f4 f5⟩
  self := fun A i s Q E st h => let ⟨⟨_, he⟩, _⟩ := st; wpAny_pyIter_enum he h
section
variable {T : List Addr} {X : Cx} {E : XK} {e : Expr} {mr : MA0} {p pos tpos : Pos} {elts : List Expr} {kk : Nat}
def iEnumA (K : PySem.W.Frag) (ta : TA) : TI := fun σ H R => ta σ H fun vs H1 => ∃ a, vs = [.ref a] ∧ ((∃ xs, SqL K H1 a xs ∧ R (Ite K a) H1) ∨ (∃ xs, SqT K H1 a xs ∧ R (IteT K a) H1))
theorem pi_enumA {ta : TA} (hg : Gl X "enumerate") (hm : X.mg "enumerate" = none) (ha : PA X [e] ta) (hs : starEach [e] X.env = [(false, eval e X.env)] := by rfl) :
    PI X (.Tuple elts kk tpos) (.Call (.Name "enumerate" p) [e] [] pos) (iEnumA X.K ta) := by
  refine ⟨fun pins s σ H R I h => ?_⟩
  refine Call_ (ld_blt I hg hm boot_enumerate (PyProof.Rows.callWith_type1 (thn (ha.run pos pins s σ H _ I h) fun us s1 ⟨vs, H1, I1, r1, q1⟩ => ?_) hs rfl))
  obtain ⟨a, ex, hq⟩ := q1
  subst ex
  cases r1 with
  | cons r rr =>
    cases rr
    cases r
    have fin : ∀ b, b ∈ [s1.heap.objs.size + 1, s1.heap.objs.size] → s1.heap.objs.size ≤ b := fun b hb => by
      have e' : b = s1.heap.objs.size + 1 ∨ b = s1.heap.objs.size := by simpa using hb
      rcases e' with z | z
      · rw [z]; exact Nat.le_add_right _ _
      · rw [z]; exact Nat.le_refl _
    rcases hq with ⟨xs, hq, q⟩ | ⟨xs, hq, q⟩
    · obtain ⟨its, rv, p', hz⟩ := I1.list hq
      refine call_enumerate_list p'.isList fun h' he hit hsz hk => wpAny_pyIter_enum he ?_
      have I2 : Inv X pins σ H1 { s1 with heap := h' } := I1.kept (t' := s1.toks) hk
      exact ⟨s1.heap.objs.size + 1, [s1.heap.objs.size + 1, s1.heap.objs.size], _, _, H1, rfl, I2, turn_enum a (s1.heap.objs.size + 1) s1.heap.objs.size, ⟨⟨.none, he⟩, hit, Nat.succ_ne_self _⟩, fun b hb => I1.fpOk (fin b hb) (I1.hok.fresh (fin b hb)), q⟩
    · obtain ⟨its, rv, p', hz⟩ := I1.tuple hq
      refine call_enumerate_B (begins_tuple a its.toArray) p' fun h' he hit hsz hk => wpAny_pyIter_enum he ?_
      have I2 : Inv X pins σ H1 { s1 with heap := h' } := I1.kept (t' := s1.toks) hk
      exact ⟨s1.heap.objs.size + 1, [s1.heap.objs.size + 1, s1.heap.objs.size], _, _, H1, rfl, I2, turn_enumT a (s1.heap.objs.size + 1) s1.heap.objs.size, ⟨⟨.none, he⟩, ⟨_, hit, rfl, rfl⟩, Nat.succ_ne_self _⟩, fun b hb => I1.fpOk (fin b hb) (I1.hok.fresh (fin b hb)), q⟩
/-- enumerate of a list or tuple by value -/
def miE (mr : MA0) : MI0 := fun ρ S => (mr ρ S).bind fun ds S1 => match ds with
  | [.tup xs] => .ok (itE xs) S1
  | [.lst xs] => .ok (itE xs) S1
  | _ => .bad
theorem relI_pair {G : Gd} {R φ : List Addr} {H : Hp} {ds : List D} {vs : List V} (r : RvL G R φ H ds vs) {J : It} (hs : ∀ i φ' H', Le φ H φ' H' → vs.length ≤ i → J.stop i H') (hg : ∀ i φ' H' x, Le φ H φ' H' → vs[i]? = some x → J.go i H' ∧ ∀ v H2, J.yld i H' v H2 → ∃ T, v = .ref T ∧ H' T = none ∧ H2 = upd H' T (.tup [.int (i : Nat), x])) : RelI G R φ H (itE ds) J := by
  intro R' hR i φ1 S1 H1 l rs
  refine ⟨fun e => hs i φ1 H1 l ?_, fun d e => ?_⟩
  · have e' : ds[i]?.map (fun d => D.tup [.int i, d]) = none := Option.some.inj e
    rw [← RvL.length r]
    exact List.getElem?_eq_none_iff.mp (Option.map_eq_none_iff.mp e')
  · have e' : ds[i]?.map (fun d => D.tup [.int i, d]) = some d := Option.some.inj e
    obtain ⟨d0, e1, rfl⟩ := Option.map_eq_some_iff.mp e'
    obtain ⟨v, e2, e3⟩ := RvL.get r e1
    obtain ⟨g1, g2⟩ := hg i φ1 H1 v l e2
    refine ⟨g1, fun x H' hy => ?_⟩
    obtain ⟨T, rfl, hT, rfl⟩ := g2 x H' hy
    have ln := Le.new rs (o := .tup [.int (i : Nat), v]) hT
    exact ⟨ln, rs.new hT, Rv.tup upd_same (RvL.cons Rv.int (RvL.cons (Rv.le ln (Rv.le l (Rv.reR hR e3))) RvL.nil))⟩
theorem mi_enum (hg : Gl X "enumerate") (hm : X.mg "enumerate" = none) (ha : MAn T X E [e] mr) (hs : starEach [e] X.env = [(false, eval e X.env)] := by rfl) :
    MI T X E (.Tuple elts kk tpos) (.Call (.Name "enumerate" p) [e] [] pos) (miE mr) := by
  obtain ⟨⟨t, pt, s⟩, _⟩ := ha
  refine ⟨_, pi_enumA hg hm pt hs, fun σ H ρ φ R S rs rn => Run.bnd (c' := fun (vs : List V) H1 Q => ∃ a, vs = [V.ref a] ∧ ((∃ xs, SqL X.K H1 a xs ∧ Q (Ite X.K a) H1) ∨ (∃ xs, SqT X.K H1 a xs ∧ Q (IteT X.K a) H1))) (s σ H ρ φ R S rs rn) (fun ds S1 φ1 vs H1 e0 l1 rs1 r1 => ?_) fun Q q => q⟩
  split
  · rename_i xs
    obtain ⟨v, rfl, h1⟩ := RvL.one_of r1
    obtain ⟨a, vs, rfl, h2, h3⟩ := Rv.tup_at h1
    have rel : RelI (X.gd T) R φ1 H1 (itE xs) (IteT X.K a) := relI_pair h3 (fun i φ' H' l hl => ⟨vs, SqT.le (G := X.gd T) l h2, hl⟩) fun i φ' H' x l hx => ⟨⟨vs, x, SqT.le (G := X.gd T) l h2, hx⟩, fun v H2 hy => by
      obtain ⟨Ta, y, e1, e2, e3, e4⟩ := hy
      have e5 := e4 vs (SqT.le (G := X.gd T) l h2)
      rw [hx] at e5
      cases e5
      exact ⟨Ta, e1, e2, e3⟩⟩
    exact Run.ret (v := IteT X.K a) rs1 rel fun Q q => ⟨a, rfl, .inr ⟨vs, .inl (.inl h2), q⟩⟩
  · rename_i xs
    obtain ⟨v, rfl, h1⟩ := RvL.one_of r1
    obtain ⟨a, vs, rfl, n1, n2, h2, h3⟩ := Rv.lst_of h1
    have hq : ∀ φ' H', Le φ1 H1 φ' H' → SqL X.K H' a vs := fun φ' H' l => .inl (.inl (l.keep a _ h2 n1 (fun _ z => nomatch z)).1)
    have rel : RelI (X.gd T) R φ1 H1 (itE xs) (Ite X.K a) := relI_pair h3 (fun i φ' H' l hl => ⟨vs, hq φ' H' l, hl⟩) fun i φ' H' x l hx => ⟨⟨vs, x, hq φ' H' l, hx⟩, fun v H2 hy => by
      obtain ⟨Ta, y, e1, e2, e3, e4⟩ := hy
      have e5 := e4 vs (hq φ' H' l)
      rw [hx] at e5
      cases e5
      exact ⟨Ta, e1, e2, e3⟩⟩
    exact Run.ret (v := Ite X.K a) rs1 rel fun Q q => ⟨a, rfl, .inl ⟨vs, .inl (.inl h2), q⟩⟩
  · exact Run.bad
end
/-! ### calls by keywords -/
section
variable {T : List Addr} {X : Cx} {E : XK} {k n : Nat} {f : Addr} {fd : FuncData} {ps ks : List Str} {x : Str} {m : List D → Store → Res D} {p pos kpos : Pos} {e : Expr} {es : List Expr} {kws : List Keyword} {me : ME0} {mr mk : MA0} {nm : Option Str}
/-- n1 by place, then n2 by name, in the order ix -/
def perm {α : Type} (n1 n2 : Nat) (ix : List Nat) (us ws : List α) : List α := if us.length = n1 ∧ ws.length = n2 then ix.filterMap fun i => (us ++ ws)[i]? else []
def MKn (T : List Addr) (X : Cx) (E : XK) (kws : List Keyword) (m : MA0) : Prop := (∃ t, PK X kws t ∧ SndA (X.gd T) E t m) ∧ ∀ ρ S ds S', m ρ S = .ok ds S' → ds.length = kws.length
theorem mk_nil : MKn T X E [] mNil := ⟨⟨_, pk_nil, fun σ H ρ φ R S rs rn => Run.ret rs RvL.nil fun Q q => q⟩, fun ρ S ds S' h => by cases h; rfl⟩
theorem mk_cons (ha : ME T X E e me) (hr : MKn T X E kws mr) : MKn T X E (⟨nm, e, kpos⟩ :: kws) (mCons me mr) := by
  obtain ⟨ta, pa, sa⟩ := ha
  obtain ⟨⟨tr, pr, sr⟩, hl⟩ := hr
  refine ⟨⟨_, pk_cons pa pr, fun σ H ρ φ R S rs rn => Run.bnd (sa σ H ρ φ R S rs rn) fun d S1 φ1 x H1 _ l1 rs1 r1 => Run.bnd (sr σ H1 ρ φ1 R S1 rs1 (rn.le l1)) fun ds S2 φ2 xs H2 _ l2 rs2 r2 => Run.ret rs2 (RvL.cons (Rv.le l2 r1) r2) fun Q q => q⟩, fun ρ S ds S' h => ?_⟩
  unfold mCons at h
  cases h1 : me ρ S with
  | ok x S1 =>
    rw [h1] at h
    cases h2 : mr ρ S1 with
    | ok xs S2 =>
      rw [Res.bind_ok, h2] at h
      cases h
      rw [List.length_cons, List.length_cons, hl _ _ _ _ h2]
    | exc e S2 => rw [Res.bind_ok, h2] at h; cases h
    | bad => rw [Res.bind_ok, h2] at h; cases h
  | exc e S2 => rw [h1] at h; cases h
  | bad => rw [h1] at h; cases h
def mCallK (f : List D → Store → Res D) (n1 n2 : Nat) (ix : List Nat) (ma mk : MA0) : ME0 := fun ρ S => (ma ρ S).bind fun us S1 => (mk ρ S1).bind fun ws S2 => f (perm n1 n2 ix us ws) S2
theorem Vals.pick {vs : List V} {us : List Value} (r : Vals vs us) : ∀ ix : List Nat, Vals (ix.filterMap fun i => vs[i]?) (ix.filterMap fun i => us[i]?)
  | [] => .nil
  | i :: ix => by
    rw [List.filterMap_cons, List.filterMap_cons]
    cases h : vs[i]? with
    | none =>
      rw [Vals.none_of r h]
      exact Vals.pick r ix
    | some v =>
      obtain ⟨u, e1, e2⟩ := Vals.get r h
      rw [e1]
      exact .cons e2 (Vals.pick r ix)
theorem RvL.pick {G : Gd} {R φ : List Addr} {H : Hp} {ds : List D} {vs : List V} (r : RvL G R φ H ds vs) : ∀ ix : List Nat, RvL G R φ H (ix.filterMap fun i => ds[i]?) (ix.filterMap fun i => vs[i]?)
  | [] => RvL.nil
  | i :: ix => by
    rw [List.filterMap_cons, List.filterMap_cons]
    cases h : ds[i]? with
    | none =>
      have h2 : vs[i]? = none := by
        rw [List.getElem?_eq_none_iff] at h ⊢
        rw [← RvL.length r]
        exact h
      rw [h2]
      exact RvL.pick r ix
    | some d =>
      obtain ⟨v, e1, e2⟩ := RvL.get r h
      rw [e1]
      exact RvL.cons e2 (RvL.pick r ix)
/-- how a call with keywords binds -/
def KTo (K : PySem.W.Frag) (fd : FuncData) (ps ks : List Str) (n1 n2 : Nat) (ix : List Nat) : Prop := ∀ (s : Shared) (us ws : List Value), K.In s.heap → us.length = n1 → ws.length = n2 → BindsTo s fd ⟨us, ks.zip ws⟩ (ps.zip (perm n1 n2 ix us ws))
theorem KTo.kb {K : PySem.W.Frag} {n1 n2 : Nat} {ix : List Nat} (h : KTo K fd ps ks n1 n2 ix) (hp : 0 < ps.length) : KBinds K fd ps ks (perm n1 n2 ix) (perm n1 n2 ix) where
  to := fun s us ws hk hl => by
    by_cases hc : us.length = n1 ∧ ws.length = n2
    · exact h s us ws hk hc.1 hc.2
    · unfold perm at hl
      rw [if_neg hc] at hl
      rw [List.length_nil] at hl
      omega
  rel := fun {vs us zs ws} r rz => by
    unfold perm
    rw [Vals.length r, Vals.length rz]
    split
    · exact Vals.pick (Vals.append r rz) ix
    · exact .nil
theorem SndE.callK {G : Gd} {n1 n2 : Nat} {ix : List Nat} {ta tk : TA} (ha : SndA G E ta mr) (hk : SndA G E tk mk) (hn : ∀ ρ S ds S', mr ρ S = .ok ds S' → ds.length = n1) (hn2 : ∀ ρ S ds S', mk ρ S = .ok ds S' → ds.length = n2) (hix : ∀ us ws : List D, us.length = n1 → ws.length = n2 → (perm n1 n2 ix us ws).length = n) :
    SndE G E (tCallK (spM G n m) (perm n1 n2 ix) E ta tk) (mCallK m n1 n2 ix mr mk) := fun σ H ρ φ R S rs rn =>
  Run.bnd (c' := fun us H1 Q => tk σ H1 fun ws H2 => spM G n m (perm n1 n2 ix us ws) H2 Q E) (ha σ H ρ φ R S rs rn) fun ds S1 φ1 xs H1 e l1 rs1 r1 =>
    Run.bnd (c' := fun ws H2 Q => spM G n m (perm n1 n2 ix xs ws) H2 Q E) (hk σ H1 ρ φ1 R S1 rs1 (rn.le l1)) fun es S2 φ2 ys H2 e2 l2 rs2 r2 => fun Q hq he hb => by
      refine ⟨φ2, R, S2, perm n1 n2 ix ds es, rs2, ?_, hix _ _ (hn _ _ _ _ e) (hn2 _ _ _ _ e2), hb, hq, he⟩
      unfold perm
      rw [RvL.length r1, RvL.length r2]
      split
      · exact RvL.pick (RvL.append (RvL.le l2 r1) r2) ix
      · exact RvL.nil
theorem me_callK {n1 n2 : Nat} {ix : List Nat} (F : FnOk X.prog X.w X.K X.mg X.base (L2.CX X.prog X.w) k f fd ps (spM (X.gd T) n m)) (hr : Room k X.A) (hg : Gl X x) (hm : X.mg x = some (.ref f)) (hk : PySem.W.keepIn X.K (.ref f) = true) (hb : KTo X.K fd ps ks n1 n2 ix) (hp : 0 < ps.length)
    (hx : Passes (L2.CX X.prog X.w) X E) (ha : MAn T X E (e :: es) mr) (hkw : MKn T X E kws mk) (hix : ∀ us ws : List D, us.length = n1 → ws.length = n2 → (perm n1 n2 ix us ws).length = n) (hn : (e :: es).length = n1 := by rfl) (hn2 : kws.length = n2 := by rfl)
    (hall : (backToKw pos (keywordEach kws X.env)).all (·.1.isSome) = true := by rfl) (hks : (backToKw pos (keywordEach kws X.env)).filterMap (·.1) = ks := by rfl)
    (hdb : (x == ("__debug__" : Str)) = false := by decide) (he : starEach (e :: es) X.env = (false, eval e X.env) :: starEach es X.env := by rfl)
    (hpl : ((backTo pos (starEach (e :: es) X.env)).any (·.1) || (backToKw pos (keywordEach kws X.env)).any (·.1.isNone)) = false := by rfl) : ME T X E (.Call (.Name x p) (e :: es) kws pos) (mCallK m n1 n2 ix mr mk) := by
  obtain ⟨⟨tr, pr, sr⟩, hl⟩ := ha
  obtain ⟨⟨tk, pk, sk⟩, hl2⟩ := hkw
  exact ⟨_, pe_callK F hr hg hm hk (hb.kb hp) hx pr pk hall hks hdb he hpl, SndE.callK sr sk (fun ρ S ds S' h => (hl ρ S ds S' h).trans hn) (fun ρ S ds S' h => (hl2 ρ S ds S' h).trans hn2) hix⟩
/-- by keywords alone -/
theorem pe_callK0 {CX : CXT} {sp : Sp} {tk : TA} {g : List Value → List Value → List Value} {gV : List V → List V → List V} (F : FnOk X.prog X.w X.K X.mg X.base CX k f fd ps sp) (hr : Room k X.A) (hg : Gl X x) (hm : X.mg x = some (.ref f)) (hk : PySem.W.keepIn X.K (.ref f) = true) (hb : KBinds X.K fd ps ks g gV) (hx : Passes CX X E)
    (hkw : PK X kws tk) (hall : (backToKw pos (keywordEach kws X.env)).all (·.1.isSome) = true := by rfl) (hks : (backToKw pos (keywordEach kws X.env)).filterMap (·.1) = ks := by rfl)
    (hdb : (x == ("__debug__" : Str)) = false := by decide)
    (hpl : ((backTo pos (starEach [] X.env)).any (·.1) || (backToKw pos (keywordEach kws X.env)).any (·.1.isNone)) = false := by rfl) :
    PE X (.Call (.Name x p) [] kws pos) (tCallK sp gV E tNil tk) := by
  refine ⟨fun pins s σ H Q I h => ?_⟩
  refine wpAny_Call_Name_kw (ld_glob I hg hm ?_ hdb)
  refine PySem.W.callWith_KW0 (h₀ := X.base) I.ok.mod.kin hk hall ?_ hpl
  refine thn (hkw.run pos pins s σ H _ I h) fun ws s2 ⟨zs, H2, I2, rz, q2⟩ => ⟨I2.kIn, ?_⟩
  rw [hks]
  exact run_fnk F hr hb hx I2 .nil rz q2
theorem me_callK0 {n2 : Nat} {ix : List Nat} (F : FnOk X.prog X.w X.K X.mg X.base (L2.CX X.prog X.w) k f fd ps (spM (X.gd T) n m)) (hr : Room k X.A) (hg : Gl X x) (hm : X.mg x = some (.ref f)) (hk : PySem.W.keepIn X.K (.ref f) = true) (hb : KTo X.K fd ps ks 0 n2 ix) (hp : 0 < ps.length)
    (hx : Passes (L2.CX X.prog X.w) X E) (hkw : MKn T X E kws mk) (hix : ∀ us ws : List D, us.length = 0 → ws.length = n2 → (perm 0 n2 ix us ws).length = n) (hn2 : kws.length = n2 := by rfl)
    (hall : (backToKw pos (keywordEach kws X.env)).all (·.1.isSome) = true := by rfl) (hks : (backToKw pos (keywordEach kws X.env)).filterMap (·.1) = ks := by rfl)
    (hdb : (x == ("__debug__" : Str)) = false := by decide)
    (hpl : ((backTo pos (starEach [] X.env)).any (·.1) || (backToKw pos (keywordEach kws X.env)).any (·.1.isNone)) = false := by rfl) : ME T X E (.Call (.Name x p) [] kws pos) (mCallK m 0 n2 ix mNil mk) := by
  obtain ⟨⟨tk, pk, sk⟩, hl2⟩ := hkw
  exact ⟨_, pe_callK0 F hr hg hm hk (hb.kb hp) hx pk hall hks hdb hpl, SndE.callK (ta := tNil) (fun σ H ρ φ R S rs rn => Run.ret rs RvL.nil fun Q q => q) sk (fun ρ S ds S' h => by cases h; rfl) (fun ρ S ds S' h => (hl2 ρ S ds S' h).trans hn2) hix⟩
end
end MM

/-! next(elt for target in iter if test, None): a generator expression that is drawn once. -/
namespace MM
open PySem L2 PyProof.Rows
/-- the block of a generator expression, run from s -/
abbrev Cx.gn (X : Cx) (s : Shared) (H : Hp) (cenv : Env) (fp : List Addr) : Cx :=
  { X with A := X.A.in1.in1.deeper cenv, s_0 := s, H_0 := H, env := cenv, outer := X.stack, stack := cenv :: X.stack, ex := fp, fn := fun _ => false, pn := [], xe := fun _ _ => False }
structure GnOk (N : List Str) (sc scope : Scope) (own : List (Str × Nat)) : Prop where
  kind : scope.kind = .function
  co : scope.isCoroutine = false
  cell : ∀ y ∈ scope.names, y.2 ≠ .cell
  dot : scope.names.lookup (".0" : Str) = some NameKind.local
  uniq : ∀ y ∈ scope.names, scope.names.lookup y.1 = some y.2
  ix : ∀ p ∈ own, N[p.2]? = some p.1
  free : ∀ y ∈ scope.names, y.2 = .free → sc.names.lookup y.1 = some .cell ∨ sc.names.lookup y.1 = some .free
  own : ∀ y ∈ scope.names, y.2 = .local → y.1 ∈ own.map (·.1) ∨ y.1 ∉ N
def gnC (N : List Str) (sc scope : Scope) (own : List (Str × Nat)) : Bool :=
  (match scope.kind with | .function => true | _ => false) && !scope.isCoroutine && (scope.names.all fun y => match y.2 with | .cell => false | _ => true) && decide (scope.names.lookup (".0" : Str) = some NameKind.local) &&
    (scope.names.all fun y => decide (scope.names.lookup y.1 = some y.2)) && (own.all fun p => decide (N[p.2]? = some p.1)) &&
    (scope.names.all fun y => match y.2 with
      | .free => (match sc.names.lookup y.1 with | some .cell => true | some .free => true | _ => false)
      | .local => decide (y.1 ∈ own.map (·.1)) || decide (y.1 ∉ N)
      | _ => true)
theorem gnOk_by {N : List Str} {sc scope : Scope} {own : List (Str × Nat)} (h : gnC N sc scope own = true) : GnOk N sc scope own := by
  unfold gnC at h
  simp only [Bool.and_eq_true, List.all_eq_true, decide_eq_true_eq, Bool.not_eq_true'] at h
  obtain ⟨⟨⟨⟨⟨⟨h1, h2⟩, h3⟩, h4⟩, h5⟩, h6⟩, h7⟩ := h
  refine ⟨?_, h2, fun y hy e => ?_, h4, h5, h6, fun y hy e => ?_, fun y hy e => ?_⟩
  · cases hk : scope.kind with
    | function => rfl
    | _ => rw [hk] at h1; cases h1
  · have := h3 y hy
    rw [e] at this
    cases this
  · have := h7 y hy
    rw [e] at this
    cases hl : sc.names.lookup y.1 with
    | none => rw [hl] at this; cases this
    | some k =>
      rw [hl] at this
      cases k with
      | cell => exact .inl rfl
      | free => exact .inr rfl
      | _ => cases this
  · have := h7 y hy
    rw [e] at this
    simpa using this
section
variable {X : Cx} {pins : List (Addr × Obj)} {σ : L2.St} {H : Hp} {s : Shared}
theorem gen_start {scope : Scope} {own : List (Str × Nat)} {fp : List Addr} {code : Value} {h' : Heap} {m0 : Str → Option Value} {g' : Array GenState} {tk : Nat} (I : Inv X pins σ H s) (ok : GnOk X.N X.env.scope scope own) (hN : X.N.Nodup) (hA : X.A.handled = none) (hfp : ∀ b ∈ fp, FpOk X pins H b ∧ b < s.heap.objs.size)
    (kp : ∀ b o, s.heap.get? b = some o → h'.get? b = some o) (hn : h'.Ns s.heap.objs.size m0) (hg : AllBare g') :
    Inv (Cx.gn X s H (genEnv scope (cloFrom X.env.cells scope.names []) s.heap.objs.size code builtinsNs X.env) fp) [] (wipe σ (own.map (·.2))) H { s with heap := h', gens := g', toks := tk } := by
  have hfree : ∀ y ∈ scope.names, y.2 = .free → ∃ c, X.env.cells.lookup y.1 = some c := fun y hy e => by
    rcases ok.free y hy e with k | k
    · exact I.ok.has _ (.inl k)
    · exact I.ok.has _ (.inr k)
  generalize hcenv : genEnv scope (cloFrom X.env.cells scope.names []) s.heap.objs.size code builtinsNs X.env = cenv
  have hL : cenv.locals = s.heap.objs.size := by rw [← hcenv]; rfl
  have hcl : cenv.cells = cloFrom X.env.cells scope.names [] := by rw [← hcenv]; rfl
  have hsc : cenv.scope = scope := by rw [← hcenv]; rfl
  have cm : ∀ {y c}, cenv.cells.lookup y = some c → X.env.cells.lookup y = some c ∧ c < s.heap.objs.size := fun {y c} e => by
    rw [hcl] at e
    rcases cloFrom_mem (PySem.mem_of_lookup e) with hm | ⟨h1, rfl⟩
    · cases hm
    · obtain ⟨c, hc⟩ := hfree _ h1 rfl
      rw [hc]
      obtain ⟨w, z⟩ := I.cell _ _ hc
      exact ⟨rfl, z.lt⟩
  have look : ∀ {y}, scope.names.lookup y = some .free → ∃ c, cenv.cells.lookup y = some c ∧ X.env.cells.lookup y = some c := fun {y} hl => by
    have hy : (y, NameKind.free) ∈ scope.names := PySem.mem_of_lookup hl
    obtain ⟨c', e'⟩ := mem_lookup (cloFrom_has (cells := X.env.cells) (acc := []) hy)
    rw [← hcl] at e'
    exact ⟨c', e', (cm e').1⟩
  have kinds : ∀ {y k}, cenv.kindOf y = some k → scope.names.lookup y = some k := fun {y k} e => by
    unfold Env.kindOf at e
    rw [hsc] at e
    exact e
  have okB : (Cx.gn X s H cenv fp).Ok := by
    refine ⟨I.ok.mod, by show cenv.scope.kind = _; rw [hsc]; exact ok.kind, by show cenv.globals = _; rw [← hcenv]; exact I.ok.glob, by show cenv.builtins = _; rw [← hcenv]; rfl, by show s.heap.objs.size ≤ cenv.locals; rw [hL]; exact Nat.le_refl _,
      fun y z c e1 e2 => I.ok.inj y z c (cm e1).1 (cm e2).1, fun y hy => ?_, fun y c z e => (nomatch z), fun _ => hA, ?_, .inr ⟨rfl, by show cenv.frame = some cenv.locals; rw [← hcenv]; rfl⟩, fun b hb => ⟨?_, fun y c e z => ?_⟩, I.bs, Nat.le_trans I.ok.bsz I.sz, fun b o e hb => ?_, fun b hb z => ?_, I.stack, I.stkFree⟩
    · show ∃ c, cenv.cells.lookup y = some c
      rcases hy with hy | hy
      · exact absurd rfl (ok.cell _ (PySem.mem_of_lookup (kinds hy)))
      · obtain ⟨c, h1, _⟩ := look (kinds hy)
        exact ⟨c, h1⟩
    · show (X.A.in1.in1.deeper cenv).frames = some (cenv :: X.stack)
      show X.A.frames.map (cenv :: ·) = some (cenv :: X.stack)
      rw [I.ok.frames]
      rfl
    · show b ≠ cenv.locals
      rw [hL]; exact Nat.ne_of_lt (hfp b hb).2
    · exact (hfp b hb).1.2.2.2.2.1 y c (cm e).1 z
    · rcases (hfp b hb).1.2.2.2.1 with z | z
      · exact I.ok.noex b o e z
      · exact absurd (Nat.lt_of_lt_of_le (Heap.lt_size e) (Nat.le_trans I.ok.bsz z)) (Nat.lt_irrefl _)
    · rcases List.mem_cons.mp (I.stkSub b z) with z | z
      · exact (hfp b hb).1.2.1 z
      · exact (hfp b hb).1.2.2.1 z
  refine ⟨okB, rfl, hg, Un.kept kp, ⟨m0, ?_, fun i y av e1 e2 e3 => ?_⟩, fun y c e => ?_, ?_, fun y c e => ?_, fun p hp => ?_, I.hok.kept kp, by rw [wipe_length]; exact I.len⟩
  · show Heap.Ns _ cenv.locals _
    rw [hL]
    exact hn
  · obtain ⟨e2, hne⟩ := wipe_some e2
    have hfr : scope.names.lookup y = some .free := by
      have no : ¬ scope.names.lookup y = some .local := fun e => by
        rcases ok.own _ (PySem.mem_of_lookup e) rfl with e' | e'
        · obtain ⟨p, hp, hpy⟩ := List.mem_map.mp e'
          have e3 := ok.ix p hp
          have : p.1 = y := hpy
          rw [this] at e3
          exact hne (List.mem_map.mpr ⟨p, hp, nodup_ix hN e3 e1⟩)
        · exact e' (List.mem_of_getElem? e1)
      have e3 : Vis cenv.scope y := e3
      unfold Vis at e3
      rw [hsc] at e3
      rcases e3 with e3 | e3 | e3
      · exact absurd e3 no
      · exact absurd rfl (ok.cell _ (PySem.mem_of_lookup e3))
      · exact e3
    obtain ⟨m, hn, hl⟩ := I.loc
    have hvis : Vis X.env.scope y := (ok.free _ (PySem.mem_of_lookup hfr) rfl).elim (fun k => .inr (.inl k)) (fun k => .inr (.inr k))
    obtain ⟨w, r, q⟩ := hl i y av e1 e2 hvis
    refine ⟨w, r, .inr ⟨.inr (by show cenv.kindOf y = _; unfold Env.kindOf; rw [hsc]; exact hfr), ?_⟩⟩
    obtain ⟨c, h1, h2⟩ := look hfr
    rcases q with ⟨k, _⟩ | ⟨_, c', e', z⟩
    · have k : X.env.scope.names.lookup y = some .local := k
      rcases ok.free _ (PySem.mem_of_lookup hfr) rfl with k' | k' <;> rw [show X.env.scope.names.lookup y = _ from k'] at k <;> cases k
    · rw [h2] at e'; cases e'
      exact ⟨c, h1, z.keeps kp⟩
  · obtain ⟨w, z⟩ := I.cell y c (cm e).1
    exact ⟨w, z.keeps kp⟩
  · show H cenv.locals = none
    rw [hL]; exact I.hok.fresh (Nat.le_refl _)
  · exact I.freeC y c (cm e).1
  · exact absurd (show p ∈ ([] : List (Addr × Obj)) ++ [] from hp) (by simp)
theorem over_compLoop {A : Around} {elt : Expr} {gens : List Comprehension} {scope : Scope} {pos : Pos} {it acc : Value} {env : Env} : A.over (.compLoop (.GeneratorExp elt gens scope pos) 0 it acc env) [] = A.deeper env := by
  cases A
  rfl
theorem over_compStart {A : Around} {elt : Expr} {gens : List Comprehension} {scope : Scope} {pos : Pos} {it acc : Value} {env : Env} : A.over (.compStart (.GeneratorExp elt gens scope pos) 0 it acc env) [] = A.deeper env := by
  cases A
  rfl
end
section
variable {X : Cx} {σ : L2.St} {H0 : Hp} {sg : Shared} {cenv : Env} {fp : List Addr} {Q : VK} {elt tg iter : Expr} {ifs : List Expr} {scope : Scope} {pos : Pos} {J : It} {it : Addr} {tn : Nat → Heap → Prop} {vs : List Nat} {g : TG} {tt : TT} {te : TE} {W : Nat → Nat → Hp → Prop}
/-- drawn: a value; at the end -/
def YOk (X : Cx) (Q : VK) (v : Value) (s : Shared) : Prop := ∃ pins σ' H' y, Inv X pins σ' H' s ∧ RelV y v ∧ Q y H'
def NOk (X : Cx) (Q : VK) (s : Shared) : Prop := ∃ pins σ' H', Inv X pins σ' H' s ∧ Q .non H'
theorem seg_draw (hc : X.calm = true) (hco : cenv.scope.isCoroutine = false) (pg : PG (Cx.gn X sg H0 cenv fp) tg g) (pt : PTs (Cx.gn X sg H0 cenv fp) ifs tt) (pe : PE (Cx.gn X sg H0 cenv fp) elt te) (Tn : Turn X.prog X.w X.K tg J fp it tn)
    (turn : ∀ i m H, W i m H → (J.stop i H ∧ Q .non H) ∨ (J.go i H ∧ ∃ Nx : Hp → Prop, (∀ H', Nx H' → ∃ m', m' < m ∧ W (i + 1) m' H') ∧ ∀ x H', J.yld i H x H' → g x (wipe σ vs) H' fun σ2 H2 => wipe σ2 vs = wipe σ vs ∧ tt σ2 H2 fun b H3 =>
      if b = true then te σ2 H3 Q else Nx H3)) :
    ∀ (m i : Nat) (H5 : Hp) (s5 s₀ : Shared), Inv (Cx.gn X sg H0 cenv fp) [] (wipe σ vs) H5 s5 → tn i s5.heap → (∀ b ∈ fp, H5 b = none) → W i m H5 →
      Seg (model X.prog X.w) X.A.in1.in1 (fun n s₀ r s₁ => r = .ok .next ∧ NOk (Cx.gn X sg H0 cenv fp) Q s₁) (fun n s₀ v s kap => YOk (Cx.gn X sg H0 cenv fp) Q v s) 1 s₀
        (.compLoop (.GeneratorExp elt [⟨tg, iter, ifs, 0⟩] scope pos) 0 (.ref it) .none cenv)
        ((model X.prog X.w).den (.compLoop (.GeneratorExp elt [⟨tg, iter, ifs, 0⟩] scope pos) 0 (.ref it) .none cenv)) [] s5 := by
  intro m
  induction m using Nat.strongRecOn with
  | ind m ih =>
  intro i H5 s5 s₀ I5 st5 n5 w5
  have stat : ∀ {σ' : L2.St} {H' : Hp} {s' : Shared}, Inv (Cx.gn X sg H0 cenv fp) [] σ' H' s' → (∀ b ∈ fp, H' b = none) → ∀ b ∈ fp, FpOk (Cx.gn X sg H0 cenv fp) [] H' b := fun {σ' H' s'} I' hn b hb =>
    ⟨hn b hb, (I'.ok.exf b hb).1, I'.ok.exfs b hb, .inl hb, fun x c e => (I'.ok.exf b hb).2 x c e, fun p hp => absurd (show p ∈ ([] : List (Addr × Obj)) ++ [] from hp) (by simp)⟩
  show Seg _ _ _ _ _ s₀ _ ((compTurn (.GeneratorExp elt [⟨tg, iter, ifs, 0⟩] scope pos) 0 (.ref it) .none cenv).onRaise (leaving cenv)) [] s5
  rw [compTurn_gen, Sem.onRaise_eq_wrap]
  refine seg_bind_wrap (wpAny_standAt ?_)
  rcases turn i m H5 w5 with ⟨stop, qq⟩ | ⟨go, Nx, hNx, step⟩
  · have td := Tn.done (Cx.gn X sg H0 cenv fp) rfl rfl rfl hc i [] s5 _ H5 (fun _ _ => False) I5 (stat I5 n5) st5 stop
    refine seg_bind_wrap ?_
    rw [over_compLoop]
    refine thnF td fun r s6 ⟨hr, I6⟩ => ?_
    subst hr
    exact seg_end (.ok .next) ⟨rfl, _, _, _, I6, qq⟩
  · have ti := Tn.item (Cx.gn X sg H0 cenv fp) rfl rfl rfl hc i [] s5 _ H5 (fun _ _ => False) I5 (stat I5 n5) st5 go
    refine seg_bind_wrap ?_
    rw [over_compLoop]
    refine thnF ti fun r s6 ⟨u, hr, h6⟩ => ?_
    subst hr
    refine seg_bind_wrap ?_
    rw [over_compLoop]
    refine thnF h6 fun _ s7 ⟨x, H7, I7, r7, y7, st7, n7⟩ => ?_
    have I7' := I7.pinned (stat I7 n7) (Tn.obj _ _ st7)
    refine seg_bind_wrap ?_
    rw [over_compLoop]
    refine thnF (pg.run _ s7 _ H7 x u _ I7' r7 (step x H7 y7)) fun _ s8 ⟨σ8, H8, I8, hw8, q8⟩ => ?_
    refine seg_bind_wrap ?_
    rw [over_compLoop]
    refine thnF (pt.run _ s8 σ8 H8 _ I8 q8) fun b s9 ⟨H9, I9, q9⟩ => ?_
    cases b with
    | false =>
      simp only [Bool.false_eq_true, if_false] at q9 ⊢
      obtain ⟨m', hm, w'⟩ := hNx H9 q9
      have pin' : ∀ b ∈ fp, ∀ o, s7.heap.get? b = some o → s9.heap.get? b = some o ∧ H9 b = none := fun b hb o e =>
        let z := I9.pin (b, o) (List.mem_append_right _ (List.mem_append_right _ (mem_pinsAt hb e)))
        ⟨z.1, z.2.1⟩
      have hl : (wipe σ vs).length = σ8.length := by rw [← hw8, wipe_length]
      refine seg_again rfl (ih m' hm (i + 1) H9 s9 s₀ ((I9.unpinned (pins := [])).weak hl (fun j v e => ?_)) (Tn.keep _ _ _ st7 fun b hb o e => (pin' b hb o e).1) (fun b hb => ?_) w')
      · rw [← hw8] at e
        exact (wipe_some e).1
      · obtain ⟨o, e, _⟩ := Tn.obj _ _ st7 b hb
        exact (pin' b hb o e).2
    | true =>
      simp only [if_true] at q9 ⊢
      have hy : ∀ v, yieldOut cenv v = yieldValue v := fun v => by simp only [yieldOut, hco, Bool.false_eq_true, if_false]
      simp only [hy]
      rw [Sem.bind_eq_wrap', Sem.bind_eq_wrap', Sem.wrap_wrap, Sem.wrap_wrap]
      refine seg_wrap ?_
      rw [over_compLoop]
      refine thnF (pe.run _ s9 σ8 H9 _ I9 q9) fun z s10 ⟨yv, H10, I10, r10, q10⟩ => ?_
      exact seg_at (seg_yield rfl rfl rfl ⟨_, _, _, _, I10, r10, q10⟩)
theorem seg_begin (hc : X.calm = true) (hco : cenv.scope.isCoroutine = false) (pg : PG (Cx.gn X sg H0 cenv fp) tg g) (pt : PTs (Cx.gn X sg H0 cenv fp) ifs tt) (pe : PE (Cx.gn X sg H0 cenv fp) elt te) (Tn : Turn X.prog X.w X.K tg J fp it tn)
    (turn : ∀ i m H, W i m H → (J.stop i H ∧ Q .non H) ∨ (J.go i H ∧ ∃ Nx : Hp → Prop, (∀ H', Nx H' → ∃ m', m' < m ∧ W (i + 1) m' H') ∧ ∀ x H', J.yld i H x H' → g x (wipe σ vs) H' fun σ2 H2 => wipe σ2 vs = wipe σ vs ∧ tt σ2 H2 fun b H3 =>
      if b = true then te σ2 H3 Q else Nx H3))
    (m : Nat) (H5 : Hp) (s5 s₀ : Shared) (I5 : Inv (Cx.gn X sg H0 cenv fp) [] (wipe σ vs) H5 s5) (st5 : tn 0 s5.heap) (n5 : ∀ b ∈ fp, H5 b = none) (w5 : W 0 m H5) :
      Seg (model X.prog X.w) X.A.in1.in1 (fun n s₀ r s₁ => r = .ok .next ∧ NOk (Cx.gn X sg H0 cenv fp) Q s₁) (fun n s₀ v s kap => YOk (Cx.gn X sg H0 cenv fp) Q v s) 1 s₀
        (.compStart (.GeneratorExp elt [⟨tg, iter, ifs, 0⟩] scope pos) 0 (.ref it) .none cenv)
        ((model X.prog X.w).den (.compStart (.GeneratorExp elt [⟨tg, iter, ifs, 0⟩] scope pos) 0 (.ref it) .none cenv)) [] s5 := by
  have loop := seg_draw (iter := iter) (scope := scope) (pos := pos) hc hco pg pt pe Tn turn m 0 H5 s5 s₀ I5 st5 n5 w5
  show Seg _ _ _ _ _ s₀ _ ((compStart (.GeneratorExp elt [⟨tg, iter, ifs, 0⟩] scope pos) 0 (.ref it) .none cenv).onRaise (leaving cenv)) [] s5
  unfold compStart
  rw [Sem.onRaise_eq_wrap]
  show Seg _ _ _ _ _ s₀ _ ((ask >>= _).wrap _ _ _ _) [] s5
  refine seg_bind_wrap (wpAny_askSetting ?_)
  split
  · exact seg_again rfl loop
  · first
      | exact seg_bind_wrap (wpAny_rule (seg_bind_wrap (wpAny_standAt (seg_bind_wrap (Tn.self _ 0 s5 _ _ st5 (seg_again rfl loop))))))
      | (refine seg_bind_wrap (wpAny_rule ?_); show Seg _ _ _ _ _ s₀ _ ((standAt iter.pos >>= _).wrap _ _ _ _) [] s5; exact seg_bind_wrap (wpAny_standAt (seg_bind_wrap (Tn.self _ 0 s5 _ _ st5 (seg_again rfl loop)))))
end
section
variable {X : Cx} {elt tg iter : Expr} {ifs : List Expr} {scope : Scope} {own : List (Str × Nat)} {pos gpos p cp : Pos} {cj k : Nat} {wi : TI} {g : TG} {tt : TT} {te : TE} {c P : Addr}
/-- next(elt for target in iter if .., None): the table of the def's code may have grown -/
def tNext (P : Addr) (wi : TI) (g : TG) (tt : TT) (te : TE) (vs : List Nat) : TE := fun σ H Q => wi σ H fun J H1 => GxR.TabG H1 P ∧ ∀ H2, GxR.Tabbed P H1 H2 → ∃ W : Nat → Nat → Hp → Prop, (∃ m, W 0 m H2) ∧ ∀ i m H, W i m H →
  (J.stop i H ∧ Q .non H) ∨ (J.go i H ∧ ∃ Nx : Hp → Prop, (∀ H', Nx H' → ∃ m', m' < m ∧ W (i + 1) m' H') ∧ ∀ x H', J.yld i H x H' → g x (wipe σ vs) H' fun σ2 H2 => wipe σ2 vs = wipe σ vs ∧ tt σ2 H2 fun b H3 => if b = true then te σ2 H3 Q else Nx H3)
theorem boot_next' : bootBuiltins ("next" : Str) = some (.builtin "next") := by decide +kernel
theorem pe_nextgen (hc : X.calm = true) (hN : X.N.Nodup) (hr : Room (k + 3) X.A) (hg : Gl X "next") (hm : X.mg "next" = none) (TB : GxR.TabB X.base X.mg c P) (hcode : X.env.code = .ref c) (hi : PI X tg iter wi) (ok : GnOk X.N X.env.scope scope own)
    (pgG : ∀ (s : Shared) (H : Hp) (C : Addr) (cl : List (Str × Addr)) (code : Value) (fp : List Addr), PG (Cx.gn X s H (genEnv scope cl C code builtinsNs X.env) fp) tg g) (ptG : ∀ (s : Shared) (H : Hp) (C : Addr) (cl : List (Str × Addr)) (code : Value) (fp : List Addr), PTs (Cx.gn X s H (genEnv scope cl C code builtinsNs X.env) fp) ifs tt)
    (peG : ∀ (s : Shared) (H : Hp) (C : Addr) (cl : List (Str × Addr)) (code : Value) (fp : List Addr), PE (Cx.gn X s H (genEnv scope cl C code builtinsNs X.env) fp) elt te) (hs : ∀ x, genFold iter X.env x = pure x := by intro _; rfl)
    (he : starEach [.GeneratorExp elt [⟨tg, iter, ifs, 0⟩] scope gpos, .Constant .none cj cp] X.env = (false, eval (.GeneratorExp elt [⟨tg, iter, ifs, 0⟩] scope gpos) X.env) :: starEach [.Constant .none cj cp] X.env := by rfl)
    (he2 : starEach [.Constant .none cj cp] X.env = (false, eval (.Constant .none cj cp) X.env) :: starEach [] X.env := by rfl) (hpl : (backTo pos (starEach [.Constant .none cj cp] X.env)).any (·.1) = false := by rfl) :
    PE X (.Call (.Name "next" p) [.GeneratorExp elt [⟨tg, iter, ifs, 0⟩] scope gpos, .Constant .none cj cp] [] pos) (tNext P wi g tt te (own.map (·.2))) := by
  refine ⟨fun pins s σ H Q I h => ?_⟩
  have hfree : ∀ y ∈ scope.names, y.2 = .free → ∃ c, X.env.cells.lookup y.1 = some c := fun y hy e => by
    rcases ok.free y hy e with k | k
    · exact I.ok.has _ (.inl k)
    · exact I.ok.has _ (.inr k)
  refine wpAny_Call_Name_kw (ld_blt I hg hm boot_next' ?_)
  refine PyProof.Rows.callWith_builtin1 ?_ he hpl
  rw [he]
  show wpAny _ _ (spliced ((false, eval (.GeneratorExp elt [⟨tg, iter, ifs, 0⟩] scope gpos) X.env) :: backTo pos (starEach [.Constant .none cj cp] X.env))) _ _ s
  refine Calls.spliced_cons (wpAny_GeneratorExp_make ok.co (closure_ok hfree) ok.cell ok.dot ok.kind hr.depth ?_ hs)
  refine thn (hi.run pins s σ H _ I h) fun xv s1 hx => thn hx fun itv s2 h2 => ?_
  obtain ⟨it, fp, tn, J, H2, e, I2, Tn, st2, f2, ⟨ps, hP, ht⟩, q⟩ := h2
  subst e
  refine ⟨I2.nolimit, ?_⟩
  have hPs : s2.heap.get? P = some { cls := .none, data := .fields ps } := I2.hok P _ hP
  have cd : PySem.W.CodeHd s2.heap c P := TB.code.keeps fun b u e => I2.bk b u e
  have fpP : ∀ b ∈ fp, b ≠ P := fun b hb z => by
    have := (f2 b hb).1
    rw [z, hP] at this
    cases this
  -- behind the code's making
  have cont : ∀ (code : Value) (h3 : Heap) (tk : Nat) (more : Array Value), (∀ b o, b ≠ P → s2.heap.get? b = some o → h3.get? b = some o) → h3.get? P = some { cls := .none, data := .fields (ps ++ more) } → TriplesOk (ps ++ more).toList →
      wpAny (model X.prog X.w) X.A (builtinsFor X.env.globals X.env.builtins) (fun bi s₄ =>
        ∀ h', h'.Ns s₄.heap.objs.size (fun y => if y = ".0" then some (.ref it) else none) → Heap.SameBut s₄.heap.objs.size (s₄.heap.push { cls := .type "frame", data := .dict #[] }) h' →
          wpAny (model X.prog X.w) X.A (spliced (backTo pos (starEach [.Constant .none cj cp] X.env))) (fun vs s₂ => wpAny (model X.prog X.w) X.A (call (.builtin "next") (.ref h'.objs.size :: vs)) (EP X pins σ Q) X.xe s₂) X.xe { s₄ with
            gens := s₄.gens.push (.fresh (.compStart (.GeneratorExp elt [⟨tg, iter, ifs, 0⟩] scope gpos) 0 (.ref it) .none (genEnv scope (cloFrom X.env.cells scope.names []) s₄.heap.objs.size code bi X.env))),
            toks := s₄.toks + 1 + 1 + 1,
            heap := h'.push { cls := .type "generator", data := .fields #[.int s₄.gens.size 0, .str "<genexpr>" (s₄.toks + 1), .str (X.env.qual ++ "<genexpr>") (s₄.toks + 1 + 1)] } }) X.xe { s2 with heap := h3, toks := tk } := by
    intro code h3 tk more hx hP3 ht3
    obtain ⟨bm, ob, e1, e2, e3, e4, e5, e6, e7, e8⟩ := TB.bm
    have I3 : Inv X pins σ (upd H2 P (.tbl (ps ++ more))) { s2 with heap := h3, toks := tk } := GxR.inv_tab (g' := s2.gens) (d' := s2.drawn) I2 hP hx hP3 I2.bare
    have hgP : mainGlobals ≠ P := TB.gP
    refine wpAny_builtinsFor (m := X.mg) (by rw [I3.ok.glob]; exact I3.mod.glob.keeps I3.bk) e1 e2 (I3.bk _ _ e5) e6 e7 e8 ?_
    intro h' hns hsb
    have H3T : GxR.Tabbed P H2 (upd H2 P (.tbl (ps ++ more))) := ⟨⟨_, upd_same, ht3⟩, fun b hb => upd_ne hb⟩
    obtain ⟨W, ⟨m0, w0⟩, turn⟩ := q _ H3T
    generalize hH3 : upd H2 P (.tbl (ps ++ more)) = H3 at I3 w0 H3T
    have n3 : ∀ b ∈ fp, H3 b = none := fun b hb => by
      rw [H3T.2 b (fpP b hb)]
      exact (f2 b hb).1
    have sz2 : ∀ b ∈ fp, b < s2.heap.objs.size := fun b hb => by
      obtain ⟨o, e, _⟩ := Tn.obj _ _ st2 b hb
      exact Heap.lt_size e
    have sz3 : ∀ b ∈ fp, b < h3.objs.size := fun b hb => by
      obtain ⟨o, e, _⟩ := Tn.obj _ _ st2 b hb
      exact Heap.lt_size (hx b o (fpP b hb) e)
    have st3 : tn 0 h3 := Tn.keep _ _ _ st2 fun b hb o e => hx b o (fpP b hb) e
    have f3 : ∀ b ∈ fp, FpOk X pins H3 b ∧ b < ({ s2 with heap := h3, toks := tk } : Shared).heap.objs.size := fun b hb => ⟨⟨n3 b hb, (f2 b hb).2⟩, sz3 b hb⟩
    -- all that stood stands
    have kp' : ∀ b o, h3.get? b = some o → h'.get? b = some o := fun b o e => (hsb.2 b (Nat.ne_of_lt (Heap.lt_size e))).trans (Heap.get?_push_of_some _ e)
    generalize ha : h'.objs.size = a
    generalize hgo : ({ cls := .type "generator", data := .fields #[.int s2.gens.size 0, .str "<genexpr>" (tk + 1), .str (X.env.qual ++ "<genexpr>") (tk + 1 + 1)] } : Obj) = go
    have kp5 : ∀ b o, h3.get? b = some o → (h'.push go).get? b = some o := fun b o e => Heap.get?_push_of_some _ (kp' b o e)
    have hns5 : (h'.push go).Ns h3.objs.size (fun y => if y = ".0" then some (.ref it) else none) := hns.keeps fun b o e => Heap.get?_push_of_some _ e
    have hgen : (h'.push go).IsGen a s2.gens.size := by
      refine ⟨_, _, _, by rw [← ha]; exact Heap.get?_push_size _ (by rw [← hgo]; rfl), by rw [← hgo], by rw [← hgo], by rw [← hgo]⟩
    -- the second argument
    rw [he2]
    show wpAny _ _ (spliced ((false, eval (.Constant .none cj cp) X.env) :: backTo pos (starEach [] X.env))) _ _ _
    refine Calls.spliced_cons (Constant_none ?_)
    refine Calls.spliced_nil ?_
    -- the call
    refine PySem.Calls.call_function_entry (by decide +kernel) (by decide +kernel) PySem.W.kdk_entry_next (PySem.W.kdk_args_next2 _ _) ?_
    unfold Builtin.«next»
    refine wpAny_bind (m := someArgs "next" 1 2 _) (wpAny_of_eq (a := [Value.ref a, Value.none]) (by first | rfl | kernel_rfl!) ?_)
    dsimp only
    refine wpAny_bind (wpAny_specialOf (name := Str.ofString "__next__") hgen.typeIs slot_gen_next.lookup ?_)
    refine wpAny_ite_split (fun hab => absurd hab (by decide)) (fun _ => ?_)
    have hh : X.A.handled = none := I3.ok.hd hc
    have lim : (h'.push go).NoLimit := I3.nolimit.keeps kp5
    have gs0 : (s2.gens.push (.fresh (.compStart (.GeneratorExp elt [⟨tg, iter, ifs, 0⟩] scope gpos) 0 (.ref it) .none (genEnv scope (cloFrom X.env.cells scope.names []) h3.objs.size code builtinsNs X.env))))[s2.gens.size]? = some (.fresh (.compStart (.GeneratorExp elt [⟨tg, iter, ifs, 0⟩] scope gpos) 0 (.ref it) .none (genEnv scope (cloFrom X.env.cells scope.names []) h3.objs.size code builtinsNs X.env))) := by simp
    -- back in the def's context
    have back : ∀ {pins' : List (Addr × Obj)} {σ' : L2.St} {H' : Hp} {s' s'' : Shared}, Inv (Cx.gn X { s2 with heap := h3, toks := tk } H3 (genEnv scope (cloFrom X.env.cells scope.names []) h3.objs.size code builtinsNs X.env) fp) pins' σ' H' s' → s''.os = s'.os → (∀ b o, s'.heap.get? b = some o → s''.heap.get? b = some o) → AllBare s''.gens → Inv X pins σ H' s'' := fun {pins' σ' H' s' s''} I6 ho hk hb =>
      I3.call' (ch := fp) (ho.trans I6.os) (I6.base.trans (Un.kept hk)) (I6.hok.kept hk) hb fun b hb' => ⟨(f2 b hb').2.2.2.1, (f2 b hb').2.1, (f2 b hb').2.2.2.2.1, (f2 b hb').2.2.2.2.2⟩
    refine wpAny_bind (wpAny_pyNext_genexpQ (n := 1) (P := fun _ _ s₁ => NOk (Cx.gn X { s2 with heap := h3, toks := tk } H3 (genEnv scope (cloFrom X.env.cells scope.names []) h3.objs.size code builtinsNs X.env) fp) Q s₁)
      (Y := fun n s₀ v s kap => YOk (Cx.gn X { s2 with heap := h3, toks := tk } H3 (genEnv scope (cloFrom X.env.cells scope.names []) h3.objs.size code builtinsNs X.env) fp) Q v s) hh lim hr.depth hgen gs0 ⟨rfl, ?_⟩ (fun v s₁ gs' hgb hy => ?_) fun s₁ hn h6 hk6 => ?_)
    · refine seg_begin hc ok.co (pgG _ _ _ _ _ _) (ptG _ _ _ _ _ _) (peG _ _ _ _ _ _) Tn turn m0 H3 _ _ ?_ (Tn.keep _ _ _ st3 fun b _ o e => kp5 b o e) n3 w0
      exact gen_start (s := { s2 with heap := h3, toks := tk }) I3 ok hN hh f3 kp5 hns5 (allBare_setGen (s := { s2 with gens := s2.gens.push _ }) (I2.bare.push rfl) rfl)
    · obtain ⟨pins', σ', H', y, I6, ry, qy⟩ := hy
      exact wpAny_pure ⟨_, rfl, y, H', back I6 rfl (fun _ _ e => e) (allBare_setGen I6.bare hgb), ry, qy⟩
    · obtain ⟨pins', σ', H', I6, qy⟩ := hn
      exact wpAny_pure ⟨_, rfl, .non, H', back I6 rfl hk6 (allBare_setGen I6.bare rfl), rfl, qy⟩
  cases hf : codeAmong gpos ps.toList with
  | none =>
    refine wpAny_genexprCodeX hcode (cd.code hPs ht) (cd.tab hPs) hf fun c' h' tk hx hge hlt hco' _ htab' _ => ?_
    obtain ⟨o1, vs, f1, tf, fl, tg, inF, tx, tt', op, _, _, _, _, _, _, _, _, _, htr, _⟩ := hco'
    exact cont _ h' tk _ (fun b o hb e => hx b o hb e) htab'.2 htr
  | some cv =>
    refine wpAny_genexprCode_hit hcode (cd.code hPs ht) hf ?_
    exact cont cv s2.heap s2.toks #[] (fun b o _ e => e) (by simpa using hPs) (by simpa using ht)
end
end MM

/-! The mirror of next(.., None). -/
namespace MM
open PySem L2 PyProof.Rows
def nxL (g : MG0) (tt : MT0) (te : ME0) : Nat → Nat → ItD → Rho → Store → Res D
  | 0, _, _, _, _ => .bad
  | f + 1, i, it, ρ, S => match it.get i S with
    | none => .bad
    | some none => .ok .non S
    | some (some d) => (g d ρ S).calm.bind fun ρ1 S1 => (tt ρ1 S1).calm.bind fun b S2 => if b = true then (te ρ1 S2).calm else nxL g tt te f (i + 1) it ρ S2
def mNext (mi : MI0) (g : MG0) (tt : MT0) (te : ME0) (vs : List Nat) : ME0 := fun ρ S => (mi ρ S).bind fun it S1 => nxL g tt te BIG 0 it (wipeD ρ vs) S1
section
variable {G : Gd} {E : XK} {R φ : List Addr} {S : Store} {H : Hp}
theorem Le.tabbed {P : Addr} {H' : Hp} (rs : Rs G R φ S H) (hP : GxR.TabG H P) (h : GxR.Tabbed P H H') : Le φ H φ H' ∧ Rs G R φ S H' := by
  obtain ⟨ps, eP, tP⟩ := hP
  obtain ⟨qs, eQ, tQ⟩ := h.1
  have l : Le φ H φ H' := by
    refine ⟨⟨[], (List.append_nil _).symm⟩, fun a o e n q => ⟨?_, n⟩, fun a vs e => ?_, fun a e => ?_, fun a ⟨rs, e, t⟩ => ?_⟩
    · rw [h.2 a (fun z => by rw [z, eP] at e; exact q ps (Option.some.inj e).symm)]
      exact e
    · rw [h.2 a (fun z => by rw [z, eP] at e; cases e)]
      exact e
    · by_cases z : a = P
      · rw [z, eQ]
        exact fun q => nomatch q
      · rw [h.2 a z]
        exact e
    · by_cases z : a = P
      · rw [z]
        exact ⟨qs, eQ, tQ⟩
      · exact ⟨rs, by rw [h.2 a z]; exact e, t⟩
  refine ⟨l, rs.nd, rs.len, rs.apart, fun i o a e1 e2 => ?_, fun a ha => l.ne a (rs.res a ha), fun a ha => l.tab a (rs.tabs a ha)⟩
  refine Ro.le l (rs.obj i o a e1 e2) (h.2 a ?_)
  rintro rfl
  obtain ⟨u, hu⟩ := Ro.there (rs.obj i o a e1 e2)
  have ro := rs.obj i o a e1 e2
  obtain ⟨vs, u2, e, sh, _⟩ := ro
  have fr := sh.free
  rw [eP] at e
  cases e
  cases fr
theorem nx_run {t : TG} {tt : TT} {te : TE} {g : MG0} {mt : MT0} {me : ME0} {it : ItD} {J : It} {ρ : Rho} {σ : L2.St} {vs : List Nat} (rel : RelI G R φ H it J) (sg : SndG G E0 t g) (wg : WipesG t vs) (st : SndT G E0 tt mt) (se : SndE G E0 te me) (rs : Rs G R φ S H) (rn : Rn G R φ H ρ σ) (Q : VK)
    (hq : ∀ d S' φ' v H', nxL g mt me BIG 0 it (wipeD ρ vs) S = .ok d S' → Le φ H φ' H' → Rs G R φ' S' H' → Rv G R φ' H' d v → Q v H') (hb : nxL g mt me BIG 0 it (wipeD ρ vs) S ≠ .bad) :
    ∃ W : Nat → Nat → Hp → Prop, (∃ m, W 0 m H) ∧ ∀ i m H, W i m H →
      (J.stop i H ∧ Q .non H) ∨ (J.go i H ∧ ∃ Nx : Hp → Prop, (∀ H', Nx H' → ∃ m', m' < m ∧ W (i + 1) m' H') ∧ ∀ x H', J.yld i H x H' → t x (wipe σ vs) H' fun σ2 H2 => wipe σ2 vs = wipe σ vs ∧ tt σ2 H2 fun b H3 => if b = true then te σ2 H3 Q else Nx H3) := by
  have rn0 : Rn G R φ H (wipeD ρ vs) (wipe σ vs) := rn.wipe vs
  refine ⟨fun i m H' => ∃ φ' S', Le φ H φ' H' ∧ Rs G R φ' S' H' ∧ nxL g mt me m i it (wipeD ρ vs) S' = nxL g mt me BIG 0 it (wipeD ρ vs) S, ⟨BIG, φ, S, Le.refl, rs, rfl⟩, fun i m H1 hW => ?_⟩
  obtain ⟨φ1, S1, l1, rs1, e⟩ := hW
  cases m with
  | zero => exact (hb e.symm).elim
  | succ f =>
    obtain ⟨r0, r1⟩ := rel R (fun _ h => .inl h) i φ1 S1 H1 l1 rs1
    cases hg : it.get i S1 with
    | none =>
      have : nxL g mt me (f + 1) i it (wipeD ρ vs) S1 = .bad := by unfold nxL; rw [hg]
      exact (hb (e.symm.trans this)).elim
    | some o =>
      cases o with
      | none =>
        have z : nxL g mt me (f + 1) i it (wipeD ρ vs) S1 = .ok .non S1 := by unfold nxL; rw [hg]
        exact .inl ⟨r0 hg, hq .non S1 φ1 .non H1 (e.symm.trans z) l1 rs1 Rv.non⟩
      | some d =>
        have z : nxL g mt me (f + 1) i it (wipeD ρ vs) S1 = ((g d (wipeD ρ vs) S1).calm.bind fun ρ1 S2 => (mt ρ1 S2).calm.bind fun b S3 => if b = true then (me ρ1 S3).calm else nxL g mt me f (i + 1) it (wipeD ρ vs) S3) := by
          conv => lhs; unfold nxL
          rw [hg]
        rw [e] at z
        obtain ⟨r2, r3⟩ := r1 d hg
        refine .inr ⟨r2, fun H' => ∃ φ' S', Le φ H φ' H' ∧ Rs G R φ' S' H' ∧ nxL g mt me f (i + 1) it (wipeD ρ vs) S' = nxL g mt me BIG 0 it (wipeD ρ vs) S, fun H' hN => ⟨f, Nat.lt_succ_self f, hN⟩, fun x H2 hy => ?_⟩
        obtain ⟨l2, rs2, rv⟩ := r3 x H2 hy
        have l12 := l1.trans l2
        have g1 := Run.calm (E := fun _ _ _ => True) (sg d x (wipe σ vs) H2 (wipeD ρ vs) φ1 R S1 rs2 (rn0.le l12) rv)
        refine wg x (wipe σ vs) H2 (fun σ2 H3 => ∃ ρ2 S2 φ2, (g d (wipeD ρ vs) S1).calm = .ok ρ2 S2 ∧ Le φ1 H2 φ2 H3 ∧ Rs G R φ2 S2 H3 ∧ Rn G R φ2 H3 ρ2 σ2) _ (fun σ2 H3 ew hw => ⟨ew.trans wipe_idem, ?_⟩)
          (g1 _ (fun ρ2 S2 φ2 σ2 H3 e2 l3 rs3 rn3 => ⟨ρ2, S2, φ2, e2, l3, rs3, rn3⟩) (fun _ _ _ _ _ _ _ _ _ _ => trivial) (fun e2 => hb (by rw [z, e2]; rfl)))
        obtain ⟨ρ2, S2, φ2, e2, l3, rs3, rn3⟩ := hw
        have z2 := z
        rw [e2, Res.bind_ok] at z2
        refine Run.calm (E := fun _ _ _ => True) (st σ2 H3 ρ2 φ2 R S2 rs3 rn3) _ (fun b S3 φ3 b' H4 e3 l4 rs4 eb => ?_) (fun _ _ _ _ _ _ _ _ _ _ => trivial) (fun e3 => hb (by rw [z2, e3]; rfl))
        have eb' : b = b' := eb
        subst eb'
        have z3 := z2
        rw [e3, Res.bind_ok] at z3
        have l14 : Le φ1 H1 φ3 H4 := l2.trans (l3.trans l4)
        cases b with
        | false =>
          rw [if_neg Bool.false_ne_true] at z3 ⊢
          exact ⟨φ3, S3, l1.trans l14, rs4, z3.symm⟩
        | true =>
          rw [if_pos rfl] at z3 ⊢
          refine Run.calm (E := fun _ _ _ => True) (se σ2 H4 ρ2 φ3 R S3 rs4 (rn3.le l4)) _ (fun y S4 φ4 w H5 e4 l5 rs5 ry => ?_) (fun _ _ _ _ _ _ _ _ _ _ => trivial) (fun e4 => hb (by rw [z3, e4]))
          exact hq y S4 φ4 w H5 (z3.trans e4) (l1.trans (l14.trans l5)) rs5 ry
theorem nx_snd {wi : TI} {t : TG} {tt : TT} {te : TE} {mi : MI0} {g : MG0} {mt : MT0} {me : ME0} {vs : List Nat} {P : Addr} (hP : P ∈ G.tabs) (si : SndI G E wi mi) (sg : SndG G E0 t g) (wg : WipesG t vs) (st : SndT G E0 tt mt) (se : SndE G E0 te me) : SndE G E (tNext P wi t tt te vs) (mNext mi g mt me vs) := by
  intro σ H ρ φ R S rs rn Q hq hx hb
  have e0 : mNext mi g mt me vs ρ S = (mi ρ S).bind fun it S1 => nxL g mt me BIG 0 it (wipeD ρ vs) S1 := rfl
  rw [e0] at hq hx hb
  refine si σ H ρ φ R S rs rn _ (fun it S1 φ1 J H1 e1 l1 rs1 r1 => ?_) (fun er S' φ' H' cl d er' => hx er S' φ' H' cl d (by rw [er']; rfl)) (fun e1 => hb (by rw [e1]; rfl))
  rw [e1, Res.bind_ok] at hq hx hb
  have tb := rs1.tabs P hP
  refine ⟨tb, fun H2 hT => ?_⟩
  obtain ⟨l2, rs2⟩ := Le.tabbed rs1 tb hT
  have rel2 : RelI G R φ1 H2 it J := fun R' hR i φ' S' H' l rs' => r1 R' (fun a ha => (hR a ha).imp id fun z => by
    cases h : H1 a with
    | none => rfl
    | some u => exact (l2.ne a (by rw [h]; exact fun q => nomatch q) z).elim) i φ' S' H' (l2.trans l) rs'
  exact nx_run rel2 sg wg st se rs2 (rn.le (l1.trans l2)) Q (fun d S' φ' v H' e l rs' rv => hq d S' φ' v H' e (l1.trans (l2.trans l)) rs' rv) hb
end
section
variable {T : List Addr} {X : Cx} {E : XK} {elt tg iter : Expr} {ifs : List Expr} {scope : Scope} {own : List (Str × Nat)} {pos gpos p cp : Pos} {cj k : Nat} {mi : MI0} {g : MG0} {mt : MT0} {me : ME0} {t : TG} {c P : Addr}
structure GxOk (T : List Addr) (X : Cx) (elt tg : Expr) (ifs : List Expr) (scope : Scope) (own : List (Str × Nat)) (t : TG) (g : MG0) (mt : MT0) (me : ME0) : Prop where
  tg : ∀ (s : Shared) (H : Hp) (C : Addr) (cl : List (Str × Addr)) (code : Value) (fp : List Addr), MGc T (Cx.gn X s H (genEnv scope cl C code builtinsNs X.env) fp) E0 tg (own.map (·.2)) t g
  ifs : ∀ (s : Shared) (H : Hp) (C : Addr) (cl : List (Str × Addr)) (code : Value) (fp : List Addr), MTs T (Cx.gn X s H (genEnv scope cl C code builtinsNs X.env) fp) E0 ifs mt
  elt : ∀ (s : Shared) (H : Hp) (C : Addr) (cl : List (Str × Addr)) (code : Value) (fp : List Addr), ME T (Cx.gn X s H (genEnv scope cl C code builtinsNs X.env) fp) E0 elt me
theorem me_next (hc : X.calm = true) (hN : X.N.Nodup) (hr : Room (k + 3) X.A) (hg : Gl X "next") (hm : X.mg "next" = none) (TB : GxR.TabB X.base X.mg c P) (hcode : X.env.code = .ref c) (hP : P ∈ T) (hi : MI T X E tg iter mi) (ok : gnC X.N X.env.scope scope own = true)
    (h : GxOk T X elt tg ifs scope own t g mt me) (hs : ∀ x, genFold iter X.env x = pure x := by intro _; rfl)
    (he : starEach [.GeneratorExp elt [⟨tg, iter, ifs, 0⟩] scope gpos, .Constant .none cj cp] X.env = (false, eval (.GeneratorExp elt [⟨tg, iter, ifs, 0⟩] scope gpos) X.env) :: starEach [.Constant .none cj cp] X.env := by rfl)
    (he2 : starEach [.Constant .none cj cp] X.env = (false, eval (.Constant .none cj cp) X.env) :: starEach [] X.env := by rfl) (hpl : (backTo pos (starEach [.Constant .none cj cp] X.env)).any (·.1) = false := by rfl) :
    ME T X E (.Call (.Name "next" p) [.GeneratorExp elt [⟨tg, iter, ifs, 0⟩] scope gpos, .Constant .none cj cp] [] pos) (mNext mi g mt me (own.map (·.2))) := by
  obtain ⟨wi, pi, si⟩ := hi
  obtain ⟨tt, pt, st⟩ := all_T (ι := Shared × Hp × Addr × List (Str × Addr) × Value × List Addr) (XX := fun i => Cx.gn X i.1 i.2.1 (genEnv scope i.2.2.2.1 i.2.2.1 i.2.2.2.2.1 builtinsNs X.env) i.2.2.2.2.2) (G := X.gd T) (E := E0) (es := ifs) (m := mt) fun i => h.ifs i.1 i.2.1 i.2.2.1 i.2.2.2.1 i.2.2.2.2.1 i.2.2.2.2.2
  obtain ⟨te, pe, se⟩ := all_E (ι := Shared × Hp × Addr × List (Str × Addr) × Value × List Addr) (XX := fun i => Cx.gn X i.1 i.2.1 (genEnv scope i.2.2.2.1 i.2.2.1 i.2.2.2.2.1 builtinsNs X.env) i.2.2.2.2.2) (G := X.gd T) (E := E0) (e := elt) (m := me) fun i => h.elt i.1 i.2.1 i.2.2.1 i.2.2.2.1 i.2.2.2.2.1 i.2.2.2.2.2
  exact ⟨_, pe_nextgen hc hN hr hg hm TB hcode pi (gnOk_by ok) (fun s H C cl code fp => (h.tg s H C cl code fp).pg) (fun s H C cl code fp => pt (s, H, C, cl, code, fp)) (fun s H C cl code fp => pe (s, H, C, cl, code, fp)) hs he he2 hpl,
    nx_snd hP si (h.tg {} (fun _ => none) 0 [] .none []).snd (h.tg {} (fun _ => none) 0 [] .none []).wip st se⟩
end
end MM

/-! The mirror layer: + and * of all kinds, powers; what is known of the top's defs. -/
namespace MM
open PySem L2 PyProof.Rows
section
variable {T : List Addr} {X : Cx} {E : XK} {G : Gd} {a b : Expr} {ma mb : ME0} {pos : Pos}
theorem Op2.or {r r' : R2} {f : D → D → Store → Res D} (h : ∀ R φ S H d e x y, Rs G R φ S H → Rv G R φ H d x → Rv G R φ H e y → Run G E R φ H (RelV' G R) (f d e S) (r x y H) ∨ Run G E R φ H (RelV' G R) (f d e S) (r' x y H)) : Op2 G E (fun x y H Q => r x y H Q ∨ r' x y H Q) f := by
  intro R φ S H d e x y rs rd re
  rcases h R φ S H d e x y rs rd re with h | h
  · exact Run.conv h fun Q q => .inl q
  · exact Run.conv h fun Q q => .inr q
/-- a + b: ints, an int and a truth value, texts, tuples, lists -/
def fAdd : D → D → Store → Res D := fun x y S => match x, y with
  | .int i, .int j => .ok (.int (i + j)) S
  | .str u, .str v => if u.length + v.length ≤ sizeLine then .ok (.str (u ++ v)) S else .bad
  | .tup us, .tup vs => if us.length + vs.length ≤ sizeLine then .ok (.tup (us ++ vs)) S else .bad
  | .lst us, .lst vs => if us.length + vs.length ≤ sizeLine then .ok (.lst (us ++ vs)) S else .bad
  | _, _ => .bad
theorem o_addA : Op2 G E (fun x y H Q => (rI0 fun i j => .int (i + j)) x y H Q ∨ (∃ i j, x = V.str i ∧ y = V.str j ∧ i.length + j.length ≤ sizeLine ∧ Q (.str (i ++ j)) H) ∨ rCatA G.K x y H Q ∨ rCat x y H Q) fAdd := by
  intro R φ S H d e x y rs rd re
  unfold fAdd
  split
  · have e1 := Rv.int_of rd
    have e2 := Rv.int_of re
    subst e1
    subst e2
    exact Run.ret rs Rv.int fun Q q => .inl ⟨_, _, rfl, rfl, q⟩
  · have e1 := Rv.str_of rd
    have e2 := Rv.str_of re
    subst e1
    subst e2
    split
    · rename_i hl
      exact Run.ret rs Rv.str fun Q q => .inr (.inl ⟨_, _, rfl, rfl, hl, q⟩)
    · exact Run.bad
  · rename_i us vs
    obtain ⟨p, xs, rfl, h1, h2⟩ := Rv.tup_of rd
    obtain ⟨q, ys, rfl, h3, h4⟩ := Rv.tup_of re
    split
    · rename_i hl
      rw [RvL.length h2, RvL.length h4] at hl
      by_cases hx : xs = []
      · subst hx
        have : us = [] := List.length_eq_zero_iff.mp (RvL.length h2)
        subst this
        exact Run.ret rs re fun Q q => .inr (.inr (.inl ⟨_, _, _, ys, rfl, rfl, h1, h3, hl, fun _ => q, fun z => (z rfl).elim, fun z => (z rfl).elim⟩))
      · by_cases hy : ys = []
        · subst hy
          have : vs = [] := List.length_eq_zero_iff.mp (RvL.length h4)
          subst this
          rw [List.append_nil]
          exact Run.ret rs rd fun Q q => .inr (.inr (.inl ⟨_, _, xs, _, rfl, rfl, h1, h3, hl, fun z => (hx z).elim, fun _ _ => q, fun _ z => (z rfl).elim⟩))
        · exact Run.new (o := .tup (xs ++ ys)) rs (fun p hp => Rv.tup upd_same (RvL.append (RvL.le (Le.new rs hp) h2) (RvL.le (Le.new rs hp) h4))) fun Q q => .inr (.inr (.inl ⟨_, _, xs, ys, rfl, rfl, h1, h3, hl, fun z => (hx z).elim, fun _ z => (hy z).elim, fun _ _ => q⟩))
    · exact Run.bad
  · rename_i us vs
    obtain ⟨p, xs, rfl, _, _, h1, h2⟩ := Rv.lst_of rd
    obtain ⟨q, ys, rfl, _, _, h3, h4⟩ := Rv.lst_of re
    split
    · rename_i hl
      rw [RvL.length h2, RvL.length h4] at hl
      exact Run.new (o := .lst (xs ++ ys)) rs (fun p hp => Rv.lst (rs.fresh hp).1 (rs.fresh hp).2 upd_same (RvL.append (RvL.le (Le.new rs hp) h2) (RvL.le (Le.new rs hp) h4))) fun Q q => .inr (.inr (.inr ⟨_, _, xs, ys, rfl, rfl, h1, h3, hl, q⟩))
    · exact Run.bad
  · exact Run.bad
theorem me_add (ha : ME T X E a ma) (hb : ME T X E b mb) : ME T X E (.BinOp a .Add b pos) (mOp fAdd ma mb) := me_bin (OpR.or op_add (OpR.or op_add_str (OpR.or op_catA op_cat))) o_addA ha hb
/-- a * b: ints, a tuple or a list so many times -/
def fMul : D → D → Store → Res D := fun x y S => match x, y with
  | .int i, .int j => if i.natAbs.log2 + j.natAbs.log2 < 1000000 then .ok (.int (i * j)) S else .bad
  | .tup us, .int k => if us ≠ [] ∧ 2 ≤ k ∧ k ≤ 1000 ∧ us.length ≤ 1000 then .ok (.tup (List.replicate k.toNat us).flatten) S else .bad
  | .lst us, .int k => if -(2 ^ 63) ≤ k ∧ k < 2 ^ 63 ∧ us.length * k.toNat ≤ sizeLine then .ok (.lst (List.replicate k.toNat us).flatten) S else .bad
  | _, _ => .bad
theorem RvL.rep {R φ : List Addr} {H : Hp} {ds : List D} {vs : List V} (h : RvL G R φ H ds vs) : ∀ n : Nat, RvL G R φ H (List.replicate n ds).flatten (List.replicate n vs).flatten
  | 0 => RvL.nil
  | n + 1 => by
    rw [List.replicate_succ, List.replicate_succ, List.flatten_cons, List.flatten_cons]
    exact RvL.append h (RvL.rep h n)
theorem o_mulA : Op2 G E (fun x y H Q => (rI CMulW fun i j => .int (i * j)) x y H Q ∨ rRepT G.K x y H Q ∨ rRep x y H Q) fMul := by
  intro R φ S H d e x y rs rd re
  unfold fMul
  split
  · have e1 := Rv.int_of rd
    have e2 := Rv.int_of re
    subst e1
    subst e2
    split
    · rename_i hc
      exact Run.ret rs Rv.int fun Q q => .inl ⟨_, _, rfl, rfl, hc, q⟩
    · exact Run.bad
  · rename_i us k
    obtain ⟨p, xs, rfl, h1, h2⟩ := Rv.tup_of rd
    have e2 := Rv.int_of re
    subst e2
    split
    · rename_i hl
      exact Run.new (o := .tup (List.replicate k.toNat xs).flatten) rs (fun p hp => Rv.tup upd_same (RvL.rep (RvL.le (Le.new rs hp) h2) _)) fun Q q => .inr (.inl ⟨_, k, xs, rfl, rfl, h1, fun z => hl.1 (List.length_eq_zero_iff.mp (by rw [RvL.length h2, z]; rfl)), hl.2.1, hl.2.2.1, by rw [← RvL.length h2]; exact hl.2.2.2, q⟩)
    · exact Run.bad
  · rename_i us k
    obtain ⟨p, xs, rfl, _, _, h1, h2⟩ := Rv.lst_of rd
    have e2 := Rv.int_of re
    subst e2
    split
    · rename_i hl
      exact Run.new (o := .lst (List.replicate k.toNat xs).flatten) rs (fun p hp => Rv.lst (rs.fresh hp).1 (rs.fresh hp).2 upd_same (RvL.rep (RvL.le (Le.new rs hp) h2) _)) fun Q q => .inr (.inr ⟨_, k, xs, rfl, rfl, h1, hl.1, hl.2.1, by rw [← RvL.length h2]; exact hl.2.2, q⟩)
    · exact Run.bad
  · exact Run.bad
theorem me_mulA (ha : ME T X E a ma) (hb : ME T X E b mb) : ME T X E (.BinOp a .Mult b pos) (mOp fMul ma mb) := me_bin (OpR.or op_mulW (OpR.or op_repT op_rep)) o_mulA ha hb
def CPowW (i j : Int) : Prop := 0 ≤ j ∧ (Builtin.Int.intBits i : Int) * j ≤ 2 ^ 27
theorem op_powW : OpR X (binaryOp .Pow) (rI CPowW fun i j => .int (i ^ j.toNat)) := opI fun _ _ _ _ _ _ _ hc q => pow_int hc.1 hc.2 q
abbrev fPowW := f2Ic (fun i j => decide (0 ≤ j ∧ (Builtin.Int.intBits i : Int) * j ≤ 2 ^ 27)) fun i j => .int (i ^ j.toNat)
theorem o_powW : Op2 G E (rI CPowW fun i j => .int (i ^ j.toNat)) fPowW := op2Ic (fun i j h => show 0 ≤ j ∧ (Builtin.Int.intBits i : Int) * j ≤ 2 ^ 27 from of_decide_eq_true h) fun _ _ _ _ _ => Rv.int
theorem me_powW (ha : ME T X E a ma) (hb : ME T X E b mb) : ME T X E (.BinOp a .Pow b pos) (mOp fPowW ma mb) := me_bin op_powW o_powW ha hb
end
/-! ### the top's defs -/
section
variable (T : List Addr) (P : Program) (w : World) (K : PySem.W.Frag) (mg : Str → Option Value) (base : Heap)
/-- the def st stands at f under its name -/
structure DefAt (x : Str) (st : Stmt) (f : Addr) (fd : FuncData) : Prop where
  F : Fun K x x st f fd
  m : mg x = some (.ref f)
/-- a def that keeps the promise of its mirror -/
structure Cl (k : Nat) (x : Str) (ps : List Str) (f : Addr) (fd : FuncData) (n : Nat) (m : List D → Store → Res D) : Prop where
  ok : FnOk P w K mg base (L2.CX P w) k f fd ps (spM ⟨K, mg, T⟩ n m)
  m : mg x = some (.ref f)
  kp : PySem.W.keepIn K (.ref f) = true
  b : Binds K fd ps []
end
end MM

/-! Defs that make generators; calls by name of the top's defs. -/
namespace MM
open PySem L2 PyProof.Rows
section
variable {T : List Addr} {P : Program} {w : World} {K : PySem.W.Frag} {mg : Str → Option Value} {base : Heap}
theorem fn_okC {x qual : Str} {st : Stmt} {f : Addr} {fd : FuncData} {N ps : List Str} {k n : Nat} {m : MS0} {c : Addr} (F : Fun K x qual st f fd) (hc : fd.code = .ref c) (S : FnScope N ps (defScope st)) (hn : ps.length = n)
    (hbody : ∀ (A : Around) (outer : List Env) (s : Shared) (H : Hp) (E : XK), Room k (A.deeper (envOfC qual (defScope st) s.heap.objs.size f (.ref c))) →
      MSs T (cxOf (L2.CX P w) P w K mg base N qual (defScope st) f (.ref c) A outer s H E) E (defBody st) m) : FnOk P w K mg base (L2.CX P w) (k + 1) f fd ps (spM ⟨K, mg, T⟩ n (mDef N.length m)) := by
  obtain ⟨oc, od, kV, doc, pm, an, cdv, ct, osl, rfl, lk, hcd⟩ := F.ex
  have hc' : cdv = .ref c := hc
  subst hc'
  refine fn_of lk hcd S (fun vs H Q E h => ?_) fun A outer s H vs Q E hr h => ?_
  · obtain ⟨φ, R, S, ds, _, h1, h2, _⟩ := h
    rw [← RvL.length h1, h2, hn]
  · obtain ⟨φ, R, S, ds, rs, rv, hl, hb, hq, hx⟩ := h
    obtain ⟨t, pt, st⟩ := hbody A outer s H E hr
    refine ⟨t, pt, ?_⟩
    have e0 : mDef N.length m ds S = (m (ds.map some ++ List.replicate (N.length - ds.length) none) S).bind fun x S1 => match x.1 with
      | .nx => .ok .non S1
      | .rt d => .ok d S1
      | _ => .bad := rfl
    rw [e0] at hb hq hx
    refine st (L2.start N vs) H _ φ R S rs (start_rn rv) (fun o H' => match o with
      | .nx _ => Q .non H'
      | .rt v => Q v H'
      | _ => False) (fun y S' φ' o H' e1 l1 rs1 ro => ?_) (fun er S' φ' H' cl d e1 l1 rs1 xq => hx er S' φ' H' cl d (by rw [e1]; rfl) l1 rs1 xq) (fun e1 => hb (by rw [e1]; rfl))
    obtain ⟨fl, ρ'⟩ := y
    rw [e1, Res.bind_ok] at hb hq
    cases fl with
    | nx =>
      cases o with
      | nx σ => exact hq .non S' φ' .non H' rfl l1 rs1 Rv.non
      | _ => exact False.elim ro
    | rt d =>
      cases o with
      | rt v => exact hq d S' φ' v H' rfl l1 rs1 ro
      | _ => exact False.elim ro
    | bk => exact (hb rfl).elim
    | ct => exact (hb rfl).elim
theorem kto_of {x qual : Str} {st : Stmt} {f : Addr} {fd : FuncData} {ps ks : List Str} {n1 n2 : Nat} {ix : List Nat} (F : Fun K x qual st f fd)
    (h : ∀ (kV doc pm : Value) (an : Option Addr) (cdv ct : Value) (us ws : List Value), us.length = n1 → ws.length = n2 → bindArgs (PySem.W.fnOf x qual (defArgs st) (defBody st) (defScope st) .none kV doc pm an cdv ct) ⟨us, ks.zip ws⟩ = pure (ps.zip (perm n1 n2 ix us ws))) : KTo K fd ps ks n1 n2 ix := by
  obtain ⟨oc, od, kV, doc, pm, an, cdv, ct, osl, rfl, lk, hcd⟩ := F.ex
  exact fun s us ws _ h1 h2 => .of_eq (h kV doc pm an cdv ct us ws h1 h2)
end
end MM

/-! Dicts of the store. -/
namespace MM
open PySem L2 PyProof.Rows
/-! ### association lists -/
section
variable {κ : Type} [DecidableEq κ]
def alook (kvs : List (κ × D)) (k : κ) : Option D := (kvs.find? fun kv => decide (kv.1 = k)).map (·.2)
def aput (kvs : List (κ × D)) (k : κ) (d : D) : List (κ × D) :=
  if (kvs.any fun kv => decide (kv.1 = k)) = true then kvs.map (fun kv => if kv.1 = k then (kv.1, d) else kv) else kvs ++ [(k, d)]
variable {G : Gd} {R φ : List Addr} {H : Hp}
theorem alook_cons {p : κ × D} {r : List (κ × D)} {k : κ} : alook (p :: r) k = if p.1 = k then some p.2 else alook r k := by
  unfold alook
  by_cases e : p.1 = k <;> simp [List.find?_cons, e]
theorem alook_rel (k : κ) : ∀ {kvs : List (κ × D)} {ws : List V}, RvL G R φ H (kvs.map (·.2)) ws → (alook kvs k = none ∧ valV ((kvs.map (·.1)).zip ws) k = none) ∨ ∃ d v, alook kvs k = some d ∧ valV ((kvs.map (·.1)).zip ws) k = some v ∧ Rv G R φ H d v
  | [], ws, h => by
    rw [List.map_nil] at h
    unfold RvL at h
    subst h
    exact .inl ⟨rfl, rfl⟩
  | p :: r, ws, h => by
    rw [List.map_cons] at h
    unfold RvL at h
    obtain ⟨v, t, rfl, h1, h2⟩ := h
    rw [alook_cons, List.map_cons, List.zip_cons_cons]
    by_cases e : p.1 = k
    · rw [if_pos e]
      exact .inr ⟨_, v, rfl, valV_pos e, h1⟩
    · rw [if_neg e, valV_neg (p := (p.1, v)) e]
      exact alook_rel k h2
theorem any_zip (k : κ) : ∀ {kvs : List (κ × D)} {ws : List V}, kvs.length = ws.length → (((kvs.map (·.1)).zip ws).any fun kv => decide (kv.1 = k)) = kvs.any fun kv => decide (kv.1 = k)
  | [], ws, h => by simp
  | p :: r, [], h => by simp at h
  | p :: r, w :: ws, h => by
    rw [List.map_cons, List.zip_cons_cons, List.any_cons, List.any_cons, any_zip k (by simpa using h)]
theorem map_rel (k : κ) {d : D} {v : V} (hv : Rv G R φ H d v) : ∀ {kvs : List (κ × D)} {ws : List V}, RvL G R φ H (kvs.map (·.2)) ws → ∃ us, RvL G R φ H ((kvs.map fun kv => if kv.1 = k then (kv.1, d) else kv).map (·.2)) us ∧
    ((kvs.map (·.1)).zip ws).map (fun kv => if kv.1 = k then (kv.1, v) else kv) = ((kvs.map fun kv => if kv.1 = k then (kv.1, d) else kv).map (·.1)).zip us
  | [], ws, h => by
    rw [List.map_nil] at h
    unfold RvL at h
    subst h
    exact ⟨[], RvL.nil, rfl⟩
  | p :: r, ws, h => by
    rw [List.map_cons] at h
    unfold RvL at h
    obtain ⟨w, t, rfl, h1, h2⟩ := h
    obtain ⟨us, u1, u2⟩ := map_rel k hv h2
    simp only [List.map_cons, List.zip_cons_cons]
    by_cases e : p.1 = k
    · refine ⟨v :: us, ?_, ?_⟩
      · rw [if_pos e]
        exact RvL.cons hv u1
      · rw [List.zip_cons_cons, u2, if_pos e, if_pos e]
    · refine ⟨w :: us, ?_, ?_⟩
      · rw [if_neg e]
        exact RvL.cons h1 u1
      · rw [List.zip_cons_cons, u2, if_neg e, if_neg e]
theorem aput_rel {k : κ} {d : D} {v : V} (hv : Rv G R φ H d v) {kvs : List (κ × D)} {ws : List V} (h : RvL G R φ H (kvs.map (·.2)) ws) : ∃ us, RvL G R φ H ((aput kvs k d).map (·.2)) us ∧ putK ((kvs.map (·.1)).zip ws) k v = ((aput kvs k d).map (·.1)).zip us := by
  have hl : kvs.length = ws.length := by
    have := RvL.length h
    rw [List.length_map] at this
    exact this
  unfold aput putK
  rw [any_zip k hl]
  split
  · exact map_rel k hv h
  · refine ⟨ws ++ [v], ?_, ?_⟩
    · rw [List.map_append]
      exact RvL.append h (RvL.cons hv RvL.nil)
    · rw [List.map_append, List.zip_append (by rw [List.length_map]; exact hl)]
      rfl
end
/-! ### keys -/
def keyOf : D → Option Key
  | .int i => some (.inl i)
  | .str s => some (.inr s)
  | _ => none
def keysOf : List D → Option (List Key)
  | [] => some []
  | d :: ds => match keyOf d, keysOf ds with
    | some k, some ks => some (k :: ks)
    | _, _ => none
section
variable {G : Gd} {E : XK} {R φ : List Addr} {S : Store} {H : Hp}
theorem keyOf_v {d : D} {v : V} {k : Key} (h : Rv G R φ H d v) (e : keyOf d = some k) : v = kV k := by
  cases d with
  | int i => cases e; rw [Rv.int_of h]; rfl
  | str s => cases e; rw [Rv.str_of h]; rfl
  | _ => cases e
theorem keysOf_v : ∀ {ds : List D} {vs : List V} {ks : List Key}, RvL G R φ H ds vs → keysOf ds = some ks → vs = ks.map kV
  | [], vs, ks, h, e => by
    unfold keysOf at e
    unfold RvL at h
    cases e
    exact h
  | d :: ds, vs, ks, h, e => by
    unfold keysOf at e
    unfold RvL at h
    obtain ⟨v, t, rfl, h1, h2⟩ := h
    cases hk : keyOf d with
    | none => rw [hk] at e; cases e
    | some k =>
      cases hs : keysOf ds with
      | none => rw [hk, hs] at e; cases e
      | some l =>
        rw [hk, hs] at e
        cases e
        rw [keyOf_v h1 hk, keysOf_v h2 hs]
        rfl
/-- what a dict of the store holds: none where it is no dict, or the key none of its kind -/
def dget (S : Store) (n : Nat) (y : D) : Option (Option D) := match S[n]? with
  | some (.dct kvs) => (keyOf y).map fun k => alook kvs k
  | some (.dcT kvs) => match y with
    | .tup ds => (keysOf ds).map fun k => alook kvs k
    | _ => none
  | _ => none
theorem dget_v {n : Nat} {x y : V} {d : D} {o : Option D} (rs : Rs G R φ S H) (rx : Rv G R φ H (.ref n) x) (ry : Rv G R φ H d y) (e : dget S n d = some o) : ∃ a r, x = .ref a ∧ DGet H a y r ∧ ((o = none ∧ r = none) ∨ ∃ z v, o = some z ∧ r = some v ∧ Rv G R φ H z v) := by
  obtain ⟨a, rfl, ha⟩ := Rv.ref_of rx
  unfold dget at e
  cases ho : S[n]? with
  | none => rw [ho] at e; cases e
  | some ob =>
    rw [ho] at e
    obtain ⟨vs, u, eu, sh, rl⟩ := rs.obj n ob a ho ha
    cases ob with
    | lst ds => cases e
    | ins c fs => cases e
    | dct kvs =>
      have sh' : u = .dK _ := sh
      subst sh'
      obtain ⟨k, ek, eo⟩ := Option.map_eq_some_iff.mp e
      have ev := keyOf_v ry ek
      subst ev
      refine ⟨a, _, rfl, .inl ⟨_, k, .inl eu, rfl, rfl⟩, ?_⟩
      rw [← eo]
      rcases alook_rel k (kvs := kvs) rl with ⟨h1, h2⟩ | ⟨z, v, h1, h2, h3⟩
      · exact .inl ⟨h1, h2⟩
      · exact .inr ⟨z, v, h1, h2, h3⟩
    | dcT kvs =>
      have sh' : u = .dT _ := sh
      subst sh'
      cases d with
      | tup ds =>
        obtain ⟨k, ek, eo⟩ := Option.map_eq_some_iff.mp e
        obtain ⟨b, ws, rfl, hb, rw'⟩ := Rv.tup_at ry
        have ev := keysOf_v rw' ek
        subst ev
        refine ⟨a, _, rfl, .inr ⟨_, k, b, .inl eu, rfl, hb, rfl⟩, ?_⟩
        rw [← eo]
        rcases alook_rel k (kvs := kvs) rl with ⟨h1, h2⟩ | ⟨z, v, h1, h2, h3⟩
        · exact .inl ⟨h1, h2⟩
        · exact .inr ⟨z, v, h1, h2, h3⟩
      | _ => cases e
/-! ### d[k] -/
def fDGet : D → D → Store → Res D := fun x y S => match x with
  | .ref n => match dget S n y with
    | some (some d) => .ok d S
    | _ => .bad
  | _ => .bad
/-- o[i]: a list, a tuple or a dict -/
def fIxD : D → D → Store → Res D := fun x y S => match x with
  | .ref n => match dget S n y with
    | some (some d) => .ok d S
    | some none => .bad
    | none => fIx x y S
  | _ => fIx x y S
theorem o_dget : Op2 G E (fun x y H Q => ∃ a v, x = .ref a ∧ DGet H a y (some v) ∧ Q v H) fDGet := by
  intro R φ S H d e x y rs rd re
  cases d with
  | ref n =>
    show Run G E R φ H _ (match dget S n e with
      | some (some d) => .ok d S
      | _ => .bad) _
    split
    · rename_i d hd
      obtain ⟨a, r, rfl, g, h⟩ := dget_v rs rd re hd
      rcases h with ⟨h, _⟩ | ⟨z, v, h1, h2, h3⟩
      · cases h
      · cases h1
        subst h2
        exact Run.ret rs h3 fun Q q => ⟨a, v, rfl, g, q⟩
    · exact Run.bad
  | _ => exact Run.bad
theorem fIxD_or (x y : D) (S : Store) : fIxD x y S = fIx x y S ∨ fIxD x y S = fDGet x y S := by
  unfold fIxD fDGet
  cases x with
  | ref n =>
    dsimp only
    cases dget S n y with
    | none => exact .inl rfl
    | some o =>
      cases o with
      | none => exact .inr rfl
      | some d => exact .inr rfl
  | _ => exact .inl rfl
theorem SndE.alt {t1 t2 : TE} {m m1 m2 : ME0} (h1 : SndE G E t1 m1) (h2 : SndE G E t2 m2) (h : ∀ ρ S, m ρ S = m1 ρ S ∨ m ρ S = m2 ρ S) : SndE G E (fun σ H Q => t1 σ H Q ∨ t2 σ H Q) m := by
  intro σ H ρ φ R S rs rn
  rcases h ρ S with e | e
  · rw [e]
    exact Run.conv (h1 σ H ρ φ R S rs rn) fun Q q => .inl q
  · rw [e]
    exact Run.conv (h2 σ H ρ φ R S rs rn) fun Q q => .inr q
theorem mOp_or {f f1 f2 : D → D → Store → Res D} {ma mb : ME0} (h : ∀ x y S, f x y S = f1 x y S ∨ f x y S = f2 x y S) (ρ : Rho) (S : Store) : mOp f ma mb ρ S = mOp f1 ma mb ρ S ∨ mOp f ma mb ρ S = mOp f2 ma mb ρ S := by
  unfold mOp
  cases ma ρ S with
  | ok x S1 =>
    dsimp only [Res.bind_ok]
    cases mb ρ S1 with
    | ok y S2 => exact h x y S2
    | exc e S2 => exact .inl rfl
    | bad => exact .inl rfl
  | exc e S1 => exact .inl rfl
  | bad => exact .inl rfl
theorem PE.or {X : Cx} {e : Expr} {t1 t2 : TE} (h1 : PE X e t1) (h2 : PE X e t2) : PE X e (fun σ H Q => t1 σ H Q ∨ t2 σ H Q) := ⟨fun pins s σ H Q I h => h.elim (h1.run pins s σ H Q I) (h2.run pins s σ H Q I)⟩
end
section
variable {T : List Addr} {X : Cx} {E : XK} {a b : Expr} {ma mb : ME0} {pos : Pos}
theorem me_ixD (hu : X.A.units + 64 < cLine) (ha : ME T X E a ma) (hb : ME T X E b mb) (hs : PlainIx b := by exact fun _ _ => rfl) (hs2 : NoSl b := by exact fun _ _ => rfl) : ME T X E (.Subscript a b pos) (mOp fIxD ma mb) := by
  obtain ⟨ta, pa, sa⟩ := ha
  obtain ⟨tb, pb, sb⟩ := hb
  refine ⟨_, PE.or (pe_ix ix_seq pa pb hs) (pe_dget (Nat.lt_of_le_of_lt (Nat.add_le_add_left (by decide : 1 ≤ 64) _) hu) pa pb hs2), SndE.alt (SndE.op sa sb o_ix) (SndE.op (r := fun x y H Q => ∃ a v, x = .ref a ∧ DGet H a y (some v) ∧ Q v H) sa sb o_dget) (mOp_or fIxD_or)⟩
/-! ### in, not in -/
def fInD (neg : Bool) : D → D → Store → Res D := fun y x S => match x with
  | .ref n => match dget S n y with
    | some o => .ok (.bl (if neg then !o.isSome else o.isSome)) S
    | none => .bad
  | _ => .bad
def rInD (neg : Bool) : R2 := fun y x H Q => ∃ a o, x = .ref a ∧ DGet H a y o ∧ Q (.bl (if neg then !o.isSome else o.isSome)) H
theorem op_inD (hu : X.A.units + 64 < cLine) : OpR X (compareOp .In) (rInD false) := fun pins s σ H x y u v Q I rx ry ⟨a, o, ex, g, q⟩ => by
  subst ex
  obtain rfl : v = Value.ref a := ry
  exact d_in (Nat.lt_of_le_of_lt (Nat.add_le_add_left (by decide : 1 ≤ 64) _) hu) I g rx fun s3 I3 => ⟨.bl o.isSome, H, I3, rfl, q⟩
theorem op_notInD (hu : X.A.units + 64 < cLine) : OpR X (compareOp .NotIn) (rInD true) := fun pins s σ H x y u v Q I rx ry ⟨a, o, ex, g, q⟩ => by
  subst ex
  obtain rfl : v = Value.ref a := ry
  exact d_notIn (Nat.lt_of_le_of_lt (Nat.add_le_add_left (by decide : 1 ≤ 64) _) hu) I g rx fun s3 I3 => ⟨.bl (!o.isSome), H, I3, rfl, q⟩
theorem o_inD {G : Gd} {neg : Bool} : Op2 G E (rInD neg) (fInD neg) := by
  intro R φ S H d e x y rs rd re
  cases e with
  | ref n =>
    show Run G E R φ H _ (match dget S n d with
      | some o => .ok (D.bl (if neg then !o.isSome else o.isSome)) S
      | none => .bad) _
    split
    · rename_i o hd
      obtain ⟨a, r, rfl, g, h⟩ := dget_v rs re rd hd
      have er : r.isSome = o.isSome := by
        rcases h with ⟨h1, h2⟩ | ⟨z, v, h1, h2, h3⟩
        · rw [h1, h2]; rfl
        · rw [h1, h2]; rfl
      exact Run.ret rs (Rv.bl (b := if neg then !o.isSome else o.isSome)) fun Q q => ⟨a, r, rfl, g, by rw [er]; exact q⟩
    · exact Run.bad
  | _ => exact Run.bad
/-! ### {} -/
def mDct0 : ME0 := fun _ S => .ok (.ref S.length) (S ++ [.dct []])
def mDcT0 : ME0 := fun _ S => .ok (.ref S.length) (S ++ [.dcT []])
theorem me_dct0 : ME T X E (.Dict [] [] pos) mDct0 := ⟨_, pe_dnewK, fun σ H ρ φ R S rs rn => Run.alloc (o := .dK []) (o' := .dct []) rs (fun p hp => ⟨[], _, upd_same, rfl, RvL.nil⟩) fun Q q => q⟩
theorem me_dcT0 : ME T X E (.Dict [] [] pos) mDcT0 := ⟨_, pe_dnewT, fun σ H ρ φ R S rs rn => Run.alloc (o := .dT []) (o' := .dcT []) rs (fun p hp => ⟨[], _, upd_same, rfl, RvL.nil⟩) fun Q q => q⟩
end
end MM

/-! o[i] = value: lists and dicts of the store. -/
namespace MM
open PySem L2 PyProof.Rows
def setAt (S : Store) : D → D → D → Option Store := fun o i d => match o with
  | .ref n => match S[n]? with
    | some (.lst ds) => match i with
      | .int k => (ixN ds.length k).map fun j => S.set n (.lst (ds.set j d))
      | _ => none
    | some (.dct kvs) => match keyOf i with
      | some k => if kvs.length < sizeLine then some (S.set n (.dct (aput kvs k d))) else none
      | none => none
    | some (.dcT kvs) => match i with
      | .tup ds => match keysOf ds with
        | some k => if kvs.length < sizeLine then some (S.set n (.dcT (aput kvs k d))) else none
        | none => none
      | _ => none
    | _ => none
  | _ => none
section
variable {G : Gd} {E : XK} {R φ : List Addr} {S S' : Store} {H : Hp}
theorem zip_len {α β : Type} {as : List α} {bs : List β} (h : as.length = bs.length) : (as.zip bs).length = as.length := by
  rw [List.length_zip]
  omega
theorem set_snd {o i d : D} {ov iv v : V} (rs : Rs G R φ S H) (ro : Rv G R φ H o ov) (ri : Rv G R φ H i iv) (rd : Rv G R φ H d v) (e : setAt S o i d = some S') :
    ∃ H', (∀ Q : Hp → Prop, Q H' → rSetL ov iv v H Q ∨ rSetD ov iv v H Q) ∧ Le φ H φ H' ∧ Rs G R φ S' H' := by
  cases o with
  | ref n =>
    obtain ⟨a, rfl, ha⟩ := Rv.ref_of ro
    unfold setAt at e
    dsimp only at e
    cases ho : S[n]? with
    | none => rw [ho] at e; cases e
    | some ob =>
      rw [ho] at e
      obtain ⟨vs, u, eu, sh, rl⟩ := rs.obj n ob a ho ha
      cases ob with
      | ins c fs => cases e
      | lst ds =>
        have sh' : u = .lst vs := sh
        subst sh'
        cases i with
        | int k =>
          obtain ⟨j, hj, ej⟩ := Option.map_eq_some_iff.mp e
          subst ej
          have lw : Le φ H φ (upd H a (.lst (vs.set j v))) := Le.write rs ha
          exact ⟨_, fun Q q => .inl ⟨a, vs, k, j, rfl, Rv.int_of ri, eu, by rw [← RvL.length rl]; exact hj, q⟩, lw, rs.write (o := .lst (ds.set j d)) ha (Ro.mkL upd_same (RvL.set (RvL.le lw rl) (Rv.le lw rd)))⟩
        | _ => cases e
      | dct kvs =>
        have sh' : u = .dK _ := sh
        subst sh'
        dsimp only at e
        cases hk : keyOf i with
        | none => rw [hk] at e; cases e
        | some k =>
          rw [hk] at e
          dsimp only at e
          by_cases hl : kvs.length < sizeLine
          · rw [if_pos hl] at e
            cases e
            have ev := keyOf_v ri hk
            subst ev
            have ll : (kvs.map (·.1)).length = vs.length := by
              have := RvL.length rl
              unfold kids at this
              rw [List.length_map] at this ⊢
              exact this
            have lw : Le φ H φ (upd H a (.dK (putK ((kvs.map (·.1)).zip vs) k v))) := Le.write rs ha
            obtain ⟨us, u1, u2⟩ := aput_rel (k := k) (Rv.le lw rd) (kvs := kvs) (RvL.le lw rl)
            refine ⟨_, fun Q q => .inr ⟨a, _, rfl, .inl ⟨_, k, eu, rfl, by rw [zip_len ll, List.length_map]; exact hl, rfl⟩, q⟩, lw, rs.write (o := .dct (aput kvs k d)) ha ⟨us, _, upd_same, ?_, u1⟩⟩
            show HO.dK _ = HO.dK _
            rw [u2]
          · rw [if_neg hl] at e
            cases e
      | dcT kvs =>
        have sh' : u = .dT _ := sh
        subst sh'
        cases i with
        | tup ds =>
          dsimp only at e
          cases hk : keysOf ds with
          | none => rw [hk] at e; cases e
          | some k =>
            rw [hk] at e
            dsimp only at e
            by_cases hl : kvs.length < sizeLine
            · rw [if_pos hl] at e
              cases e
              obtain ⟨b, ws, rfl, hb, rw'⟩ := Rv.tup_at ri
              have ev := keysOf_v rw' hk
              subst ev
              have ll : (kvs.map (·.1)).length = vs.length := by
                have := RvL.length rl
                unfold kids at this
                rw [List.length_map] at this ⊢
                exact this
              have lw : Le φ H φ (upd H a (.dT (putK ((kvs.map (·.1)).zip vs) k v))) := Le.write rs ha
              obtain ⟨us, u1, u2⟩ := aput_rel (k := k) (Rv.le lw rd) (kvs := kvs) (RvL.le lw rl)
              refine ⟨_, fun Q q => .inr ⟨a, _, rfl, .inr ⟨_, k, b, eu, rfl, hb, by rw [zip_len ll, List.length_map]; exact hl, rfl⟩, q⟩, lw, rs.write (o := .dcT (aput kvs k d)) ha ⟨us, _, upd_same, ?_, u1⟩⟩
              show HO.dT _ = HO.dT _
              rw [u2]
            · rw [if_neg hl] at e
              cases e
        | _ => cases e
  | _ => cases e
end
def gSt (mo mi : ME0) : MG0 := fun d ρ S => (mo ρ S).bind fun o S1 => (mi ρ S1).bind fun i S2 => match setAt S2 o i d with
  | some S3 => .ok ρ S3
  | none => .bad
section
variable {T : List Addr} {X : Cx} {E : XK} {pos : Pos}
theorem set_both (hu : X.A.units + 64 < cLine) : PSet X (fun o i v H Q => rSetL o i v H Q ∨ rSetD o i v H Q) := fun pins s σ H o i v ov iv u Q I ro ri rv h =>
  h.elim (set_list pins s σ H o i v ov iv u Q I ro ri rv) (set_dict (Nat.lt_of_le_of_lt (Nat.add_le_add_left (by decide : 1 ≤ 64) _) hu) pins s σ H o i v ov iv u Q I ro ri rv)
theorem mg_st (hu : X.A.units + 64 < cLine) {o i : Expr} {mo mi : ME0} (ho : ME T X E o mo) (hi : ME T X E i mi)
    (ha : ∀ v, assign (.Subscript o i pos) X.env v = (do
      let ov ← holding [v] (eval o X.env)
      let iv ← holding [v, ov] (eval i X.env)
      standAt pos
      holding [v, ov, iv] (setItem ov iv v)
      release [v, ov, iv] []) := by intro _; rfl) : MG T X E (.Subscript o i pos) (gSt mo mi) := by
  obtain ⟨to, po, so⟩ := ho
  obtain ⟨ti, pi, si⟩ := hi
  refine ⟨_, pg_sub po pi (set_both hu) ha, fun d v σ H ρ φ R S rs rn r => ?_⟩
  refine Run.bnd (c' := fun o H1 Q => ti σ H1 fun i H2 => (rSetL o i v H2 fun H3 => Q σ H3) ∨ rSetD o i v H2 fun H3 => Q σ H3) (so σ H ρ φ R S rs rn) (fun o S1 φ1 ov H1 _ l1 rs1 r1 => ?_) fun Q q => q
  refine Run.bnd (c' := fun i H2 Q => (rSetL ov i v H2 fun H3 => Q σ H3) ∨ rSetD ov i v H2 fun H3 => Q σ H3) (si σ H1 ρ φ1 R S1 rs1 (rn.le l1)) (fun i S2 φ2 iv H2 _ l2 rs2 r2 => ?_) fun Q q => q
  have l12 := l1.trans l2
  split
  · rename_i S3 hS
    obtain ⟨H', h1, h2, h3⟩ := set_snd rs2 (Rv.le l2 r1) r2 (Rv.le l12 r) hS
    intro Q hq _ _
    exact h1 (fun H3 => Q σ H3) (hq ρ _ φ2 σ _ rfl h2 h3 (rn.le (l12.trans h2)))
  · exact Run.bad
end
end MM

/-! Instances of the program's classes: attributes, their setting, making, methods, properties. -/
namespace MM
open PySem L2 PyProof.Rows
/-- the class of that name stands at C and is plain -/
structure ClsAt (K : PySem.W.Frag) (mg : Str → Option Value) (c : Str) (C : Addr) : Prop where
  m : mg c = some (.ref C)
  cls : Cls K C
def fput (f : Str) (d : D) : List (Str × D) → List (Str × D)
  | [] => [(f, d)]
  | (g, x) :: r => if g = f then (g, d) :: r else (g, x) :: fput f d r
section
variable {G : Gd} {E : XK} {R φ : List Addr} {S : Store} {H : Hp}
theorem lookup_rel (f : Str) : ∀ {fs : List (Str × D)} {ws : List V} {d : D}, RvL G R φ H (fs.map (·.2)) ws → fs.lookup f = some d → ∃ v, ((fs.map (·.1)).zip ws).lookup f = some v ∧ Rv G R φ H d v
  | [], ws, d, h, e => by cases e
  | (g, x) :: r, ws, d, h, e => by
    rw [List.map_cons] at h
    unfold RvL at h
    obtain ⟨v, t, rfl, h1, h2⟩ := h
    rw [List.map_cons, List.zip_cons_cons]
    rw [List.lookup_cons] at e ⊢
    cases hb : f == g with
    | true =>
      rw [hb] at e
      cases e
      exact ⟨v, by simp only [hb], h1⟩
    | false =>
      rw [hb] at e
      obtain ⟨u, u1, u2⟩ := lookup_rel f h2 e
      exact ⟨u, by simp only [hb]; exact u1, u2⟩
theorem fput_rel (f : Str) {d : D} {v : V} (hv : Rv G R φ H d v) : ∀ {fs : List (Str × D)} {ws : List V}, RvL G R φ H (fs.map (·.2)) ws → ∃ us, RvL G R φ H ((fput f d fs).map (·.2)) us ∧ putF f v ((fs.map (·.1)).zip ws) = ((fput f d fs).map (·.1)).zip us
  | [], ws, h => ⟨[v], RvL.cons hv RvL.nil, rfl⟩
  | (g, x) :: r, ws, h => by
    rw [List.map_cons] at h
    unfold RvL at h
    obtain ⟨w, t, rfl, h1, h2⟩ := h
    obtain ⟨us, u1, u2⟩ := fput_rel f hv h2
    unfold fput
    rw [List.map_cons, List.zip_cons_cons]
    unfold putF
    by_cases e : g = f
    · rw [if_pos e, if_pos e]
      exact ⟨v :: t, RvL.cons hv h2, by rw [List.map_cons, List.zip_cons_cons]⟩
    · rw [if_neg e, if_neg e]
      exact ⟨w :: us, RvL.cons h1 u1, by rw [List.map_cons, List.zip_cons_cons, u2]⟩
end
/-- the instance of the class c at n: its attributes -/
def insAt (S : Store) (c : Str) (n : Nat) : Option (List (Str × D)) := match S[n]? with
  | some (.ins c' fs) => if c' = c then some fs else none
  | _ => none
theorem insAt_of {S : Store} {c : Str} {n : Nat} {fs : List (Str × D)} (h : insAt S c n = some fs) : S[n]? = some (.ins c fs) := by
  unfold insAt at h
  split at h
  · rename_i c' fs' h'
    split at h
    · rename_i e
      cases h
      rw [h', e]
    · cases h
  · cases h
/-- e.f -/
def fFld (c f : Str) : D → Store → Res D := fun x S => match x with
  | .ref n => match insAt S c n with
    | some fs => match fs.lookup f with
      | some d => .ok d S
      | none => .bad
    | none => .bad
  | _ => .bad
section
variable {T : List Addr} {X : Cx} {E : XK} {e o : Expr} {c f : Str} {C : Addr} {pos pos' : Pos} {me mo : ME0}
theorem Rs.ins {G : Gd} {R φ : List Addr} {S : Store} {H : Hp} {n : Nat} {fs : List (Str × D)} {v : V} {C : Addr} (r : Rs G R φ S H) (h : Rv G R φ H (.ref n) v) (e : insAt S c n = some fs) (hc : G.mg c = some (.ref C)) : ∃ a dx vs, v = .ref a ∧ φ[n]? = some a ∧ H a = some (.ins C dx ((fs.map (·.1)).zip vs)) ∧ RvL G R φ H (fs.map (·.2)) vs := by
  obtain ⟨a, rfl, ha⟩ := Rv.ref_of h
  obtain ⟨vs, u, eu, ⟨C', dx, hC', sh⟩, rl⟩ := r.obj n _ a (insAt_of e) ha
  rw [hc] at hC'
  cases hC'
  subst sh
  exact ⟨a, dx, vs, rfl, ha, eu, rl⟩
theorem me_fld (A : ClsAt X.K X.mg c C) (na : NoAttr X.K C f) (h : ME T X E e me) (hb : attributeBase e f X.env (eval e X.env) = eval e X.env := by rfl) : ME T X E (.Attribute e f pos) (mUn (fFld c f) me) := by
  obtain ⟨t, pt, s⟩ := h
  refine ⟨_, pe_fld pt hb, fun σ H ρ φ R S rs rn => Run.bnd (c' := fun (x : V) H1 (Q : VK) => ∃ a C dx fs v, x = V.ref a ∧ H1 a = some (.ins C dx fs) ∧ Cls X.K C ∧ NoAttr X.K C f ∧ fs.lookup f = some v ∧ Q v H1) (s σ H ρ φ R S rs rn) (fun d S1 φ1 x H1 _ l1 rs1 r1 => ?_) fun Q q => q⟩
  unfold fFld
  split
  · rename_i n
    split
    · rename_i fs hfs
      split
      · rename_i d hd
        obtain ⟨a, dx, vs, rfl, ha, h1, h2⟩ := rs1.ins r1 hfs A.m
        obtain ⟨v, e1, e2⟩ := lookup_rel f h2 hd
        exact Run.ret rs1 e2 fun Q q => ⟨a, C, dx, _, v, rfl, h1, A.cls, na, e1, q⟩
      · exact Run.bad
    · exact Run.bad
  · exact Run.bad
/-- o.f = value -/
def sFld (c f : Str) (mv mo : ME0) : MS0 := fun ρ S => (mv ρ S).bind fun d S1 => (mo ρ S1).bind fun x S2 => match x with
  | .ref n => match insAt S2 c n with
    | some fs => if fs.length < 1000 then .ok (.nx, ρ) (S2.set n (.ins c (fput f d fs))) else .bad
    | none => .bad
  | _ => .bad
theorem ms_fld {value : Expr} {mv : ME0} (A : ClsAt X.K X.mg c C) (na : NoAttr X.K C f) (hv : ME T X E value mv) (ho : ME T X E o mo) (hs : swapsWith value (some (.Attribute o f pos')) pos.line X.env = pure false := by rfl) : MS T X E (.Assign [.Attribute o f pos'] value pos) (sFld c f mv mo) := by
  obtain ⟨tv, pv, sv⟩ := hv
  obtain ⟨to, po, so⟩ := ho
  refine ⟨_, ps_fld po pv hs, fun σ H ρ φ R S rs rn => ?_⟩
  refine Run.bnd (c' := fun (y : V) H1 (Q : Out → Hp → Prop) => to σ H1 fun x H2 => ∃ a C dx fs, x = V.ref a ∧ H2 a = some (.ins C dx fs) ∧ Cls X.K C ∧ NoAttr X.K C f ∧ fs.length < 1000 ∧ Q (.nx σ) (upd H2 a (.ins C dx (putF f y fs)))) (sv σ H ρ φ R S rs rn) (fun d S1 φ1 y H1 _ l1 rs1 r1 => ?_) fun Q q => q
  refine Run.bnd (c' := fun (x : V) H2 (Q : Out → Hp → Prop) => ∃ a C dx fs, x = V.ref a ∧ H2 a = some (.ins C dx fs) ∧ Cls X.K C ∧ NoAttr X.K C f ∧ fs.length < 1000 ∧ Q (.nx σ) (upd H2 a (.ins C dx (putF f y fs)))) (so σ H1 ρ φ1 R S1 rs1 (rn.le l1)) (fun x S2 φ2 xv H2 _ l2 rs2 r2 => ?_) fun Q q => q
  split
  · rename_i n
    split
    · rename_i fs hfs
      split
      · rename_i hl
        obtain ⟨a, dx, vs, rfl, ha, h1, h2⟩ := rs2.ins r2 hfs A.m
        have ll : (fs.map (·.1)).length = vs.length := by
          have := RvL.length h2
          rw [List.length_map] at this ⊢
          exact this
        have lw : Le φ2 H2 φ2 (upd H2 a (.ins C dx (putF f y ((fs.map (·.1)).zip vs)))) := Le.write rs2 ha
        obtain ⟨us, u1, u2⟩ := fput_rel f (Rv.le (l2.trans lw) r1) (RvL.le lw h2)
        have rw' := rs2.write (ho := .ins C dx (putF f y ((fs.map (·.1)).zip vs))) (o := .ins c (fput f d fs)) ha ⟨us, _, upd_same, ⟨C, dx, A.m, by rw [u2]⟩, u1⟩
        intro Q hq _ _
        refine ⟨a, C, dx, _, rfl, h1, A.cls, na, by rw [zip_len ll, List.length_map]; exact hl, ?_⟩
        exact hq (.nx, ρ) _ φ2 (.nx σ) _ rfl lw rw' (rn.le (l1.trans (l2.trans lw)))
      · exact Run.bad
    · exact Run.bad
  · exact Run.bad
end
end MM

/-! Making, methods, properties. -/
namespace MM
open PySem L2 PyProof.Rows
/-- constants, whatever the heap -/
def Consts (ds : List D) (vs : List V) : Prop := ∀ (G : Gd) (R φ : List Addr) (H : Hp), RvL G R φ H ds vs
theorem Consts.nil : Consts [] [] := fun _ _ _ _ => RvL.nil
def mMake (c : Str) (m : List D → Store → Res D) (cds : List D) (ma : MA0) : ME0 := fun ρ S => (ma ρ S).bind fun us S1 => (m (.ref S1.length :: (us ++ cds)) (S1 ++ [.ins c []])).bind fun r S2 => match r with
  | .non => .ok (.ref S1.length) S2
  | _ => .bad
/-- a method by values -/
def mMeth (c : Str) (x : Str) (m : List D → Store → Res D) (cds : List D) (mo : ME0) (ma : MA0) : ME0 := fun ρ S => (mo ρ S).bind fun o S1 => match o with
  | .ref n => match insAt S1 c n with
    | some fs => match fs.lookup x with
      | none => (ma ρ S1).bind fun us S2 => m (o :: (us ++ cds)) S2
      | some _ => .bad
    | none => .bad
  | _ => .bad
def mProp (c : Str) (m : List D → Store → Res D) (mo : ME0) : ME0 := fun ρ S => (mo ρ S).bind fun o S1 => match o with
  | .ref n => match insAt S1 c n with
    | some _ => m [o] S1
    | none => .bad
  | _ => .bad
section
variable {G : Gd} {E : XK} {R φ : List Addr} {S : Store} {H : Hp}
theorem lookup_none (f : Str) : ∀ {fs : List (Str × D)} {ws : List V}, fs.length = ws.length → fs.lookup f = none → ((fs.map (·.1)).zip ws).lookup f = none
  | [], ws, h, e => rfl
  | (g, x) :: r, [], h, e => by cases h
  | (g, x) :: r, w :: ws, h, e => by
    rw [List.map_cons, List.zip_cons_cons]
    rw [List.lookup_cons] at e ⊢
    cases hb : f == g with
    | true => rw [hb] at e; cases e
    | false =>
      rw [hb] at e
      simp only [hb]
      exact lookup_none f (by simpa using h) e
/-- a new instance, without attributes -/
theorem made {c : Str} {C x dx : Addr} (rs : Rs G R φ S H) (hc : G.mg c = some (.ref C)) (hx : H x = none) (hd : H dx = none) (hne : dx ≠ x) :
    Le φ H (φ ++ [x]) (upd (upd H dx (.own x)) x (.ins C dx [])) ∧ Rs G R (φ ++ [x]) (S ++ [.ins c []]) (upd (upd H dx (.own x)) x (.ins C dx [])) ∧ Rv G R (φ ++ [x]) (upd (upd H dx (.own x)) x (.ins C dx [])) (.ref S.length) (.ref x) := by
  have l1 := Le.new rs (o := .own x) hd
  have rs1 := rs.new (o := .own x) hd
  have hx1 : (upd H dx (.own x)) x = none := by rw [upd_ne hne.symm]; exact hx
  refine ⟨l1.trans (Le.alloc rs1 hx1), rs1.alloc hx1 ⟨[], _, upd_same, ⟨C, dx, hc, rfl⟩, RvL.nil⟩, ?_⟩
  unfold Rv
  refine ⟨x, rfl, ?_⟩
  rw [← rs.len, List.getElem?_append_right (Nat.le_refl _), Nat.sub_self]
  rfl
end
section
variable {T : List Addr} {X : Cx} {E : XK} {e o : Expr} {es : List Expr} {c x : Str} {C f : Addr} {fd : FuncData} {ps : List Str} {k n : Nat} {m : List D → Store → Res D} {ds : List Value} {dvs : List V} {cds : List D} {pos p apos : Pos} {mo : ME0} {ma : MA0}
theorem SndE.make {ta : TA} (hm : X.mg c = some (.ref C)) (hcd : Consts cds dvs) (ha : SndA (X.gd T) E ta ma) (hn : ∀ ρ S ds S', ma ρ S = .ok ds S' → ds.length + cds.length + 1 = n) : SndE (X.gd T) E (tMake C (spM (X.gd T) n m) dvs E ta) (mMake c m cds ma) := fun σ H ρ φ R S rs rn =>
  Run.bnd (c' := fun vs H1 (Q : VK) => ∀ x dx, H1 x = none → H1 dx = none → dx ≠ x → spM (X.gd T) n m (.ref x :: (vs ++ dvs)) (upd (upd H1 dx (.own x)) x (.ins C dx [])) (fun v H2 => v = .non ∧ Q (.ref x) H2) E) (ha σ H ρ φ R S rs rn) (fun us S1 φ1 vs H1 e0 l1 rs1 r1 => by
    intro Q hq he hb x dx hx hd hne
    obtain ⟨l2, rs2, rx⟩ := made (c := c) (C := C) rs1 hm hx hd hne
    refine ⟨φ1 ++ [x], R, S1 ++ [.ins c []], .ref S1.length :: (us ++ cds), rs2, RvL.cons rx (RvL.append (RvL.le l2 r1) (hcd _ _ _ _)), ?_, fun z => hb (by rw [z]; rfl), fun d S' φ' v H' e1 l3 rs3 r3 => ?_, fun er S' φ' H' cl d e1 l3 rs3 xq => he er S' φ' H' cl d (by rw [e1]; rfl) (l2.trans l3) rs3 xq⟩
    · rw [List.length_cons, List.length_append]
      exact hn _ _ _ _ e0
    · rw [e1, Res.bind_ok] at hb hq
      cases d with
      | non => exact ⟨Rv.non_of r3, hq (.ref S1.length) S' φ' (.ref x) H' rfl (l2.trans l3) rs3 (Rv.le l3 rx)⟩
      | _ => exact (hb rfl).elim) fun Q q => q
theorem me_make (A : ClsAt X.K X.mg c C) (M : Mk X.K C f) (F : FnOk X.prog X.w X.K X.mg X.base (L2.CX X.prog X.w) k f fd ps (spM (X.gd T) n m)) (hr : Room (k + 1) X.A) (hg : Gl X c) (hb : Binds X.K fd ps ds) (hd : Vals dvs ds) (hcd : Consts cds dvs) (hx : Passes (L2.CX X.prog X.w) X E)
    (ha : MAn T X E (e :: es) ma) (hn : (e :: es).length + cds.length + 1 = n := by rfl) (hdb : (c == ("__debug__" : Str)) = false := by decide) (he : starEach (e :: es) X.env = (false, eval e X.env) :: starEach es X.env := by rfl) (hpl : (backTo pos (starEach es X.env)).any (·.1) = false := by rfl) :
    ME T X E (.Call (.Name c p) (e :: es) [] pos) (mMake c m cds ma) := by
  obtain ⟨⟨ta, pa, sa⟩, hl⟩ := ha
  exact ⟨_, pe_make M F hr hg A.m hb hd hx pa hdb he hpl, SndE.make A.m hcd sa fun ρ S ds S' h => by rw [hl ρ S ds S' h]; exact hn⟩
theorem SndE.meth {ta : TE} {t : TA} (hm : X.mg c = some (.ref C)) (hcd : Consts cds dvs) (ho : SndE (X.gd T) E ta mo) (ha : SndA (X.gd T) E t ma) (hn : ∀ ρ S ds S', ma ρ S = .ok ds S' → ds.length + cds.length + 1 = n) : SndE (X.gd T) E (tMeth C x (spM (X.gd T) n m) dvs E ta t) (mMeth c x m cds mo ma) := by
  intro σ H ρ φ R S rs rn
  refine Run.bnd (c' := fun (y : V) H1 (Q : VK) => ∃ a dx fs, y = .ref a ∧ H1 a = some (.ins C dx fs) ∧ fs.lookup x = none ∧ t σ H1 fun vs H2 => spM (X.gd T) n m (y :: (vs ++ dvs)) H2 Q E) (ho σ H ρ φ R S rs rn) (fun d S1 φ1 y H1 e0 l1 rs1 r1 => ?_) fun Q q => q
  split
  · rename_i i
    split
    · rename_i fs hfs
      split
      · rename_i hlk
        obtain ⟨a, dx, vs, rfl, hai, h1, h2⟩ := rs1.ins r1 hfs hm
        have ll : fs.length = vs.length := by
          have := RvL.length h2
          rw [List.length_map] at this
          exact this
        refine Run.bnd (c' := fun (us : List V) H2 (Q : VK) => spM (X.gd T) n m (.ref a :: (us ++ dvs)) H2 Q E) (ha σ H1 ρ φ1 R S1 rs1 (rn.le l1)) (fun us S2 φ2 ws H2 e1 l2 rs2 r2 => ?_) fun Q q => ⟨a, dx, _, rfl, h1, lookup_none x ll hlk, q⟩
        intro Q hq he hb
        exact ⟨φ2, R, S2, .ref i :: (us ++ cds), rs2, RvL.cons (Rv.le l2 r1) (RvL.append r2 (hcd _ _ _ _)), by rw [List.length_cons, List.length_append]; exact hn _ _ _ _ e1, hb, hq, he⟩
      · exact Run.bad
    · exact Run.bad
  · exact Run.bad
theorem me_meth (A : ClsAt X.K X.mg c C) (M : Meth X.K C x f) (F : FnOk X.prog X.w X.K X.mg X.base (L2.CX X.prog X.w) k f fd ps (spM (X.gd T) n m)) (hr : Room k X.A) (hb : Binds X.K fd ps ds) (hd : Vals dvs ds) (hcd : Consts cds dvs) (hx : Passes (L2.CX X.prog X.w) X E)
    (ho : ME T X E o mo) (ha : MAn T X E (e :: es) ma) (hn : (e :: es).length + cds.length + 1 = n := by rfl) {pl : Sem Bool} (hst : starEach (e :: es) X.env = (false, eval e X.env) :: starEach es X.env := by rfl) (hpl : (backTo pos (starEach es X.env)).any (·.1) = false := by rfl)
    (ht : eval (.Call (.Attribute o x apos) (e :: es) [] pos) X.env = (do
      let ov ← eval o X.env
      standAt apos.atName
      let (f, first) ← holding [ov] (getMethod ov x pl)
      callWith pos f first (backTo pos (starEach (e :: es) X.env)) (backToKw pos (keywordEach [] X.env))) := by rfl) :
    ME T X E (.Call (.Attribute o x apos) (e :: es) [] pos) (mMeth c x m cds mo ma) := by
  obtain ⟨to, po, so⟩ := ho
  obtain ⟨⟨ta, pa, sa⟩, hl⟩ := ha
  exact ⟨_, pe_meth po A.cls M F hr hb hd hx pa hst hpl ht, SndE.meth A.m hcd so sa fun ρ S ds S' h => by rw [hl ρ S ds S' h]; exact hn⟩
theorem me_meth0 (A : ClsAt X.K X.mg c C) (M : Meth X.K C x f) (F : FnOk X.prog X.w X.K X.mg X.base (L2.CX X.prog X.w) k f fd ps (spM (X.gd T) n m)) (hr : Room k X.A) (hb : Binds X.K fd ps ds) (hd : Vals dvs ds) (hcd : Consts cds dvs) (hx : Passes (L2.CX X.prog X.w) X E)
    (ho : ME T X E o mo) (hn : 0 + cds.length + 1 = n := by rfl) {pl : Sem Bool}
    (ht : eval (.Call (.Attribute o x apos) [] [] pos) X.env = (do
      let ov ← eval o X.env
      standAt apos.atName
      let (f, first) ← holding [ov] (getMethod ov x pl)
      callWith pos f first (backTo pos (starEach [] X.env)) (backToKw pos (keywordEach [] X.env))) := by rfl) :
    ME T X E (.Call (.Attribute o x apos) [] [] pos) (mMeth c x m cds mo mNil) := by
  obtain ⟨to, po, so⟩ := ho
  exact ⟨_, pe_meth0 po A.cls M F hr hb hd hx ht, SndE.meth (t := tNil) A.m hcd so (fun σ H ρ φ R S rs rn => Run.ret rs RvL.nil fun Q q => q) fun ρ S ds S' h => by cases h; exact hn⟩
theorem me_prop {pr : Addr} (A : ClsAt X.K X.mg c C) (hp : PropOf X.K C x pr f) (F : FnOk X.prog X.w X.K X.mg X.base (L2.CX X.prog X.w) k f fd ps (spM (X.gd T) 1 m)) (hr : Room (k + 1) X.A) (hb : Binds X.K fd ps []) (hx : Passes (L2.CX X.prog X.w) X.nox E)
    (ho : ME T X E o mo) (hab : attributeBase o x X.env (eval o X.env) = eval o X.env := by rfl) : ME T X E (.Attribute o x pos) (mProp c m mo) := by
  obtain ⟨to, po, so⟩ := ho
  refine ⟨_, pe_prop po A.cls hp F hr hb .nil hx hab, fun σ H ρ φ R S rs rn => ?_⟩
  refine Run.bnd (c' := fun (y : V) H1 (Q : VK) => ∃ a dx fs, y = V.ref a ∧ H1 a = some (.ins C dx fs) ∧ spM (X.gd T) 1 m [.ref a] H1 Q E) (so σ H ρ φ R S rs rn) (fun d S1 φ1 y H1 e0 l1 rs1 r1 => ?_) fun Q q => q
  split
  · rename_i i
    split
    · rename_i fs hfs
      obtain ⟨a, dx, vs, rfl, hai, h1, h2⟩ := rs1.ins r1 hfs A.m
      intro Q hq he hb
      exact ⟨a, dx, _, rfl, h1, φ1, R, S1, [.ref i], rs1, RvL.cons r1 RvL.nil, rfl, hb, hq, he⟩
    · exact Run.bad
  · exact Run.bad
end
end MM

/-! Slices. -/
namespace MM
open PySem L2 PyProof.Rows
abbrev MO0 := Rho → Store → Res (Option Int)
def mNoPart : MO0 := fun _ S => .ok none S
def mPart (me : ME0) : MO0 := fun ρ S => (me ρ S).bind fun d S1 => match d with
  | .int i => .ok (some i) S1
  | _ => .bad
abbrev RelP : List Addr → Hp → Option Int → Option Int → Prop := fun _ _ a b => a = b
def SndO (G : Gd) (E : XK) (t : TO) (m : MO0) : Prop := ∀ σ H ρ φ R S, Rs G R φ S H → Rn G R φ H ρ σ → Run G E R φ H RelP (m ρ S) (fun Q => t σ H Q)
def MO (T : List Addr) (X : Cx) (E : XK) (e : Option Expr) (m : MO0) : Prop := ∃ t, PO X e t ∧ SndO (X.gd T) E t m
def cutD {α : Type} (xs : List α) (lo hi : Option Int) : List α := (xs.drop (HT.sIx xs.length 0 lo)).take (HT.sIx xs.length xs.length hi - HT.sIx xs.length 0 lo)
def fSl : D → Option Int → Option Int → Store → Res D := fun x lo hi S => match x with
  | .tup ds => .ok (.tup (cutD ds lo hi)) S
  | .str z => if z.length ≤ sizeLine then .ok (.str (cutS z lo hi)) S else .bad
  | d => match lstOf S d with
    | some ds => .ok (.lst (cutD ds lo hi)) S
    | none => .bad
def mSl (me : ME0) (ml mh : MO0) : ME0 := fun ρ S => (me ρ S).bind fun x S1 => (ml ρ S1).bind fun lo S2 => (mh ρ S2).bind fun hi S3 => fSl x lo hi S3
section
variable {G : Gd} {E : XK} {R φ : List Addr} {S : Store} {H : Hp}
theorem RvL.cut {ds : List D} {vs : List V} (h : RvL G R φ H ds vs) (lo hi : Option Int) : RvL G R φ H (cutD ds lo hi) (cutV vs lo hi) := by
  unfold cutD cutV
  rw [RvL.length h]
  exact RvL.take _ (RvL.drop _ h)
theorem cutD_all {α : Type} {xs : List α} {lo hi : Option Int} (h : HT.sIx xs.length 0 lo = 0 ∧ HT.sIx xs.length xs.length hi = xs.length) : cutD xs lo hi = xs := by
  unfold cutD
  rw [h.1, h.2, List.drop_zero, Nat.sub_zero, List.take_length]
end
section
variable {T : List Addr} {X : Cx} {E : XK} {e : Expr} {me : ME0} {lo hi : Option Expr} {ml mh : MO0} {pos p2 : Pos}
theorem mo_none : MO T X E none mNoPart := ⟨_, po_none, fun σ H ρ φ R S rs rn => Run.ret rs rfl fun Q q => q⟩
theorem mo_some (h : ME T X E e me) : MO T X E (some e) (mPart me) := by
  obtain ⟨t, pt, s⟩ := h
  refine ⟨_, po_some pt, fun σ H ρ φ R S rs rn => Run.bnd (c' := fun (x : V) H1 (Q : Option Int → Hp → Prop) => ∃ i, x = .int i ∧ Q (some i) H1) (s σ H ρ φ R S rs rn) (fun d S1 φ1 x H1 _ l1 rs1 r1 => ?_) fun Q q => q⟩
  cases d with
  | int i => exact Run.ret rs1 rfl fun Q q => ⟨i, Rv.int_of r1, q⟩
  | _ => exact Run.bad
def rSlB3 (K : PySem.W.Frag) : V → Option Int → Option Int → Hp → VK → Prop := fun x lo hi H Q => (rSlL K x lo hi H Q ∨ rSlA K x lo hi H Q) ∨ rSlS x lo hi H Q
theorem sl_all : SlR X (rSlB3 X.K) := SlR.or (SlR.or sl_list sl_tupA) sl_str
theorem o_sl {G : Gd} (lo hi : Option Int) : Op1 G E (fun x H Q => rSlB3 G.K x lo hi H Q) (fun d S => fSl d lo hi S) := by
  intro R φ S H d x rs rd
  have viaL : ∀ ds, lstOf S d = some ds → Run G E R φ H (RelV' G R) (.ok (.lst (cutD ds lo hi)) S) (fun Q => rSlB3 G.K x lo hi H Q) := fun ds hds => by
    obtain ⟨a, vs, rfl, h1, h2⟩ := lst_of rs rd hds
    exact Run.new (o := .lst (cutV vs lo hi)) rs (fun p hp => Rv.lst (rs.fresh hp).1 (rs.fresh hp).2 upd_same (RvL.le (Le.new rs hp) (RvL.cut h2 lo hi))) fun Q q => .inl (.inl ⟨a, vs, rfl, h1, q⟩)
  cases d with
  | tup ds =>
    obtain ⟨a, vs, rfl, h1, h2⟩ := Rv.tup_at rd
    show Run G E R φ H _ (.ok (D.tup (cutD ds lo hi)) S) _
    by_cases hc : HT.sIx vs.length 0 lo = 0 ∧ HT.sIx vs.length vs.length hi = vs.length
    · have ec : cutD ds lo hi = ds := cutD_all (by rw [RvL.length h2]; exact hc)
      rw [ec]
      exact Run.ret rs rd fun Q q => .inl (.inr ⟨a, vs, rfl, .inl (.inl h1), fun _ => q, fun z => (z hc).elim⟩)
    · exact Run.new (o := .tup (cutV vs lo hi)) rs (fun p hp => Rv.tup upd_same (RvL.le (Le.new rs hp) (RvL.cut h2 lo hi))) fun Q q => .inl (.inr ⟨a, vs, rfl, .inl (.inl h1), fun z => (hc z).elim, fun _ => q⟩)
  | str z =>
    have ez := Rv.str_of rd
    subst ez
    show Run G E R φ H _ (if z.length ≤ sizeLine then .ok (D.str (cutS z lo hi)) S else .bad) _
    by_cases hl : z.length ≤ sizeLine
    · rw [if_pos hl]
      exact Run.ret rs Rv.str fun Q q => .inr ⟨z, rfl, hl, q⟩
    · rw [if_neg hl]
      exact Run.bad
  | lst ds => exact viaL ds rfl
  | frz ds => exact viaL ds rfl
  | ref n =>
    show Run G E R φ H _ (match lstOf S (.ref n) with
      | some ds => .ok (D.lst (cutD ds lo hi)) S
      | none => .bad) _
    split
    · rename_i ds hds
      exact viaL ds hds
    · exact Run.bad
  | _ => exact Run.bad
theorem me_sl (he : ME T X E e me) (hl : MO T X E lo ml) (hh : MO T X E hi mh) : ME T X E (.Subscript e (.Slice lo hi none p2) pos) (mSl me ml mh) := by
  obtain ⟨t, pt, s⟩ := he
  obtain ⟨tl, pl, sl⟩ := hl
  obtain ⟨th, ph, sh⟩ := hh
  refine ⟨_, pe_slice sl_all pt pl ph, fun σ H ρ φ R S rs rn => ?_⟩
  refine Run.bnd (c' := fun (x : V) H1 (Q : VK) => tl σ H1 fun l H2 => th σ H2 fun u H3 => rSlB3 X.K x l u H3 Q) (s σ H ρ φ R S rs rn) (fun d S1 φ1 x H1 _ l1 rs1 r1 => ?_) fun Q q => q
  refine Run.bnd (c' := fun (l : Option Int) H2 (Q : VK) => th σ H2 fun u H3 => rSlB3 X.K x l u H3 Q) (sl σ H1 ρ φ1 R S1 rs1 (rn.le l1)) (fun lo S2 φ2 lo' H2 _ l2 rs2 r2 => ?_) fun Q q => q
  refine Run.bnd (c' := fun (u : Option Int) H3 (Q : VK) => rSlB3 X.K x lo' u H3 Q) (sh σ H2 ρ φ2 R S2 rs2 (rn.le (l1.trans l2))) (fun hi S3 φ3 hi' H3 _ l3 rs3 r3 => ?_) fun Q q => q
  have e2 : lo = lo' := r2
  have e3 : hi = hi' := r3
  subst e2 e3
  exact o_sl (G := X.gd T) lo hi R φ3 S3 H3 d x rs3 (Rv.le (l2.trans l3) r1)
end
end MM

/-! Lists: append; bit_length. -/
namespace MM
open PySem L2 PyProof.Rows
def mApp (mo me : ME0) : ME0 := fun ρ S => (mo ρ S).bind fun o S1 => match o with
  | .ref n => match lstAt S1 n with
    | some _ => (me ρ S1).bind fun d S2 => match lstAt S2 n with
      | some ds => if ds.length < sizeLine then .ok .non (S2.set n (.lst (ds ++ [d]))) else .bad
      | none => .bad
    | none => .bad
  | _ => .bad
def fBits : D → Store → Res D := fun x S => match x with
  | .int i => .ok (.int (Builtin.Int.intBits i : Nat)) S
  | _ => .bad
section
variable {T : List Addr} {X : Cx} {E : XK} {e o : Expr} {me mo : ME0} {pos apos cpos : Pos}
theorem me_append (ho : ME T X E o mo) (he : ME T X E e me) (hbase : attributeBase o "append" X.env (eval o X.env) = eval o X.env := by rfl)
    (hfew : ((backTo cpos (starEach [e] X.env)).all (fun x => !x.1) && (backToKw cpos (keywordEach [] X.env)).all (fun x => x.1.isSome)
      && decide ([e].length + ([] : List Keyword).length + (if ([] : List Keyword).isEmpty then 0 else 1) < 30)) = true := by rfl)
    (hline : (apos.endLine == cpos.line) = true := by rfl) (hs : starEach [e] X.env = (false, eval e X.env) :: starEach [] X.env := by rfl) (hplain : (backTo cpos (starEach [] X.env)).any (·.1) = false := by rfl) :
    ME T X E (.Call (.Attribute o "append" apos) [e] [] cpos) (mApp mo me) := by
  obtain ⟨to, po, so⟩ := ho
  obtain ⟨te, pe, se⟩ := he
  refine ⟨_, pe_bm PySem.F.plainAttrs_list PySem.F.slot_list_append PySem.F.type_list_append mt_append po (pa_cons pe pa_nil hs) hbase hfew hline hs hplain, fun σ H ρ φ R S rs rn => ?_⟩
  refine Run.bnd (c' := fun (x : V) H1 (Q : VK) => tyV X.K "list" x H1 ∧ te σ H1 fun y H2 => rAppend x [y] H2 Q) (so σ H ρ φ R S rs rn) (fun d S1 φ1 x H1 _ l1 rs1 r1 => ?_) fun Q q => q
  split
  · rename_i n
    split
    · rename_i ds0 h0
      obtain ⟨a, vs0, rfl, ha, h1, h2⟩ := rs1.lst r1 (lstAt_of h0)
      refine Run.bnd (c' := fun (y : V) H2 (Q : VK) => rAppend (.ref a) [y] H2 Q) (se σ H1 ρ φ1 R S1 rs1 (rn.le l1)) (fun d S2 φ2 y H2 _ l2 rs2 r2 => ?_) fun Q q => ⟨.inl ⟨rfl, vs0, .inl (.inl h1)⟩, q⟩
      split
      · rename_i ds hds
        split
        · rename_i hl
          obtain ⟨a2, vs, ea, ha2, h3, h4⟩ := rs2.lst (Rv.le l2 r1) (lstAt_of hds)
          cases ea
          have lw : Le φ2 H2 φ2 (upd H2 a (.lst (vs ++ [y]))) := Le.write rs2 ha2
          have rw' := rs2.write (ho := .lst (vs ++ [y])) (o := .lst (ds ++ [d])) ha2 (Ro.mkL upd_same (RvL.append (RvL.le lw h4) (RvL.cons (Rv.le lw r2) RvL.nil)))
          intro Q hq _ _
          exact ⟨a, vs, y, rfl, rfl, h3, by rw [← RvL.length h4]; exact hl, hq .non _ φ2 .non _ rfl lw rw' Rv.non⟩
        · exact Run.bad
      · exact Run.bad
    · exact Run.bad
  · exact Run.bad
theorem me_bits (ho : ME T X E o mo) (hbase : attributeBase o "bit_length" X.env (eval o X.env) = eval o X.env := by rfl) (hline : (apos.endLine == pos.line) = true := by rfl) : ME T X E (.Call (.Attribute o "bit_length" apos) [] [] pos) (mUn fBits mo) := by
  obtain ⟨to, po, so⟩ := ho
  refine ⟨_, pe_bits po hbase hline, fun σ H ρ φ R S rs rn => Run.bnd (c' := fun (x : V) H1 (Q : VK) => ∃ i, x = .int i ∧ Q (.int (Builtin.Int.intBits i : Nat)) H1) (so σ H ρ φ R S rs rn) (fun d S1 φ1 x H1 _ l1 rs1 r1 => ?_) fun Q q => q⟩
  cases d with
  | int i => exact Run.ret rs1 Rv.int fun Q q => ⟨i, Rv.int_of r1, q⟩
  | _ => exact Run.bad
end
end MM

/-! Calls that make a new list: list(..), sorted(..); by value or of the store. -/
namespace MM
open PySem L2 PyProof.Rows
/-- r makes a new list, that of f -/
def Fresh (G : Gd) (r : List V → Hp → VK → Prop) (f : List D → Store → Option (List D)) : Prop := ∀ R φ S H ds xs es, Rs G R φ S H → RvL G R φ H ds xs → f ds S = some es →
  ∃ vs, RvL G R φ H es vs ∧ ∀ Q : VK, (∀ p, H p = none → Q (.ref p) (upd H p (.lst vs))) → r xs H Q
def frL (f : List D → Store → Option (List D)) : List D → Store → Res D := fun ds S => match f ds S with
  | some es => .ok (.lst es) S
  | none => .bad
def frS (f : List D → Store → Option (List D)) : List D → Store → Res D := fun ds S => match f ds S with
  | some es => .ok (.ref S.length) (S ++ [.lst es])
  | none => .bad
section
variable {G : Gd} {E : XK} {r : List V → Hp → VK → Prop} {f : List D → Store → Option (List D)}
theorem Fresh.l (h : Fresh G r f) : OpL G E r (frL f) := by
  intro R φ S H ds xs rs rv
  unfold frL
  split
  · rename_i es he
    obtain ⟨vs, h1, h2⟩ := h R φ S H ds xs es rs rv he
    exact Run.new (o := .lst vs) rs (fun p hp => Rv.lst (rs.fresh hp).1 (rs.fresh hp).2 upd_same (RvL.le (Le.new rs hp) h1)) h2
  · exact Run.bad
theorem Fresh.s (h : Fresh G r f) : OpL G E r (frS f) := by
  intro R φ S H ds xs rs rv
  unfold frS
  split
  · rename_i es he
    obtain ⟨vs, h1, h2⟩ := h R φ S H ds xs es rs rv he
    exact Run.alloc (o := .lst vs) (o' := .lst es) rs (fun p hp => Ro.mkL upd_same (RvL.le (Le.alloc rs hp) h1)) h2
  · exact Run.bad
theorem Fresh.or {r' : List V → Hp → VK → Prop} {g : List D → Store → Option (List D)} (h : Fresh G r f) (h' : Fresh G r' g) : Fresh G (fun xs H Q => r xs H Q ∨ r' xs H Q) (fun ds S => match f ds S with | some es => some es | none => g ds S) := by
  intro R φ S H ds xs es rs rv he
  dsimp only at he
  cases hf : f ds S with
  | some e1 =>
    rw [hf] at he
    cases he
    obtain ⟨vs, h1, h2⟩ := h R φ S H ds xs _ rs rv hf
    exact ⟨vs, h1, fun Q q => .inl (h2 Q q)⟩
  | none =>
    rw [hf] at he
    obtain ⟨vs, h1, h2⟩ := h' R φ S H ds xs _ rs rv he
    exact ⟨vs, h1, fun Q q => .inr (h2 Q q)⟩
/-! list(..) -/
def keyD : Key → D
  | .inl i => .int i
  | .inr s => .str s
theorem keys_rv {R φ : List Addr} {H : Hp} : ∀ ks : List Key, RvL G R φ H (ks.map keyD) (ks.map kV)
  | [] => RvL.nil
  | .inl i :: ks => RvL.cons Rv.int (keys_rv ks)
  | .inr i :: ks => RvL.cons Rv.str (keys_rv ks)
def lSeq : List D → Store → Option (List D) := fun ds S => match ds with
  | [d] => seqOf S d
  | _ => none
def dctAt (S : Store) : D → Option (List (Key × D))
  | .ref n => match S[n]? with
    | some (.dct kvs) => some kvs
    | _ => none
  | _ => none
theorem dct_of {R φ : List Addr} {S : Store} {H : Hp} {d : D} {v : V} {kvs : List (Key × D)} (rs : Rs G R φ S H) (r : Rv G R φ H d v) (e : dctAt S d = some kvs) : ∃ n a vs, d = .ref n ∧ v = .ref a ∧ φ[n]? = some a ∧ H a = some (.dK ((kvs.map (·.1)).zip vs)) ∧ RvL G R φ H (kvs.map (·.2)) vs := by
  cases d with
  | ref n =>
    unfold dctAt at e
    dsimp only at e
    cases ho : S[n]? with
    | none => rw [ho] at e; cases e
    | some ob =>
      rw [ho] at e
      cases ob with
      | dct k =>
        cases e
        obtain ⟨a, rfl, ha⟩ := Rv.ref_of r
        obtain ⟨vs, u, eu, sh, rl⟩ := rs.obj n _ a ho ha
        have sh' : u = .dK _ := sh
        subst sh'
        exact ⟨n, a, vs, rfl, rfl, ha, eu, rl⟩
      | _ => cases e
  | _ => cases e
def lDct : List D → Store → Option (List D) := fun ds S => match ds with
  | [d] => (dctAt S d).map fun kvs => kvs.map fun kv => keyD kv.1
  | _ => none
theorem fr_seq : Fresh G (fun xs H Q => ∃ p ys, xs = [V.ref p] ∧ (SqL G.K H p ys ∨ SqT G.K H p ys) ∧ ∀ l, H l = none → Q (.ref l) (upd H l (.lst ys))) lSeq := by
  intro R φ S H ds xs es rs rv he
  unfold lSeq at he
  split at he
  · obtain ⟨v, rfl, h1⟩ := RvL.one_of rv
    obtain ⟨a, vs, rfl, h2, h3⟩ := seq_of rs h1 he
    exact ⟨vs, h3, fun Q q => ⟨a, vs, rfl, h2, q⟩⟩
  · cases he
theorem fst_zip {κ : Type} : ∀ {kvs : List (κ × D)} {vs : List V}, kvs.length = vs.length → ((kvs.map (·.1)).zip vs).map (·.1) = kvs.map (·.1)
  | [], vs, h => rfl
  | p :: r, [], h => by cases h
  | p :: r, v :: vs, h => by
    rw [List.map_cons, List.zip_cons_cons, List.map_cons, fst_zip (by simpa using h)]
theorem fr_dct : Fresh G (fun xs H Q => ∃ (a : Addr) (kvs : List (Key × V)), xs = [V.ref a] ∧ Rd H a (.dK kvs) ∧ ∀ p, H p = none → Q (.ref p) (upd H p (.lst (kvs.map fun kv => kV kv.1)))) lDct := by
  intro R φ S H ds xs es rs rv he
  unfold lDct at he
  split at he
  · obtain ⟨kvs, e1, e2⟩ := Option.map_eq_some_iff.mp he
    obtain ⟨v, rfl, h1⟩ := RvL.one_of rv
    obtain ⟨n, a, vs, rfl, rfl, ha, h2, h3⟩ := dct_of rs h1 e1
    have hl : kvs.length = vs.length := by
      have := RvL.length h3
      rw [List.length_map] at this
      exact this
    refine ⟨(kvs.map (·.1)).map kV, ?_, fun Q q => ⟨a, _, rfl, .inl h2, ?_⟩⟩
    · rw [← e2]
      have := keys_rv (G := G) (R := R) (φ := φ) (H := H) (kvs.map (·.1))
      rw [List.map_map] at this
      exact this
    · rw [← fst_zip hl, List.map_map] at q
      exact q
  · cases he
def lList : List D → Store → Option (List D) := fun ds S => match lSeq ds S with | some es => some es | none => lDct ds S
end
section
variable {T : List Addr} {X : Cx} {E : XK} {e : Expr} {mr : MA0} {p pos : Pos}
theorem me_list (hc : X.calm = true) (hg : Gl X "list") (hm : X.mg "list" = none) (ha : MAn T X E [e] mr) (he : starEach [e] X.env = (false, eval e X.env) :: starEach [] X.env := by rfl) (hpl : (backTo pos (starEach [] X.env)).any (·.1) = false := by rfl) :
    ME T X E (.Call (.Name "list" p) [e] [] pos) (mCall (frL lList) mr) := me_cty (CallR.or call_list_of (call_listD hc)) (Fresh.or fr_seq fr_dct).l hg hm (by decide +kernel) ha (by decide) (by decide) he hpl
theorem me_listS (hc : X.calm = true) (hg : Gl X "list") (hm : X.mg "list" = none) (ha : MAn T X E [e] mr) (he : starEach [e] X.env = (false, eval e X.env) :: starEach [] X.env := by rfl) (hpl : (backTo pos (starEach [] X.env)).any (·.1) = false := by rfl) :
    ME T X E (.Call (.Name "list" p) [e] [] pos) (mCall (frS lList) mr) := me_cty (CallR.or call_list_of (call_listD hc)) (Fresh.or fr_seq fr_dct).s hg hm (by decide +kernel) ha (by decide) (by decide) he hpl
end
end MM

/-! sorted(..) of ints and of texts. -/
namespace MM
open PySem PySem.Spec L2 PyProof.Rows
theorem sorted_uniq {α : Type} {le : α → α → Prop} (anti : ∀ a b, le a b → le b a → a = b) : ∀ {l m : List α}, l.Perm m → l.Pairwise le → m.Pairwise le → l = m
  | [], m, p, _, _ => (List.nil_perm.mp p).symm
  | a :: l, [], p, _, _ => absurd (List.Perm.length_eq p) (by simp)
  | a :: l, b :: m, p, h1, h2 => by
    obtain ⟨a1, a2⟩ := List.pairwise_cons.mp h1
    obtain ⟨b1, b2⟩ := List.pairwise_cons.mp h2
    have e : a = b := by
      rcases List.mem_cons.mp (p.mem_iff.mp List.mem_cons_self) with q | q
      · exact q
      · rcases List.mem_cons.mp (p.mem_iff.mpr (List.mem_cons_self (a := b) (l := m))) with z | z
        · exact z.symm
        · exact anti a b (a1 b z) (b1 a q)
    subst e
    rw [sorted_uniq anti (List.Perm.cons_inv p) a2 b2]
theorem lt_asym : ∀ a b : List Nat, ltCps a b = true → ltCps b a = false
  | [], [], h => by cases h
  | [], _ :: _, _ => rfl
  | _ :: _, [], h => by cases h
  | a :: r, b :: t, h => by
    unfold ltCps at h ⊢
    simp only [Bool.or_eq_true, Bool.and_eq_true, decide_eq_true_eq, beq_iff_eq] at h
    simp only [Bool.or_eq_false_iff, Bool.and_eq_false_iff, decide_eq_false_iff_not, beq_eq_false_iff_ne]
    rcases h with h | ⟨h1, h2⟩
    · exact ⟨by omega, .inl (by omega)⟩
    · exact ⟨by omega, .inr (lt_asym r t h2)⟩
theorem lt_anti : ∀ a b : List Nat, ltCps a b = false → ltCps b a = false → a = b
  | [], [], _, _ => rfl
  | [], _ :: _, h, _ => by cases h
  | _ :: _, [], _, h => by cases h
  | a :: r, b :: t, h, h' => by
    unfold ltCps at h h'
    simp only [Bool.or_eq_false_iff, Bool.and_eq_false_iff, decide_eq_false_iff_not, beq_eq_false_iff_ne] at h h'
    have e : a = b := by omega
    subst e
    rw [lt_anti r t (h.2.resolve_left (by simp)) (h'.2.resolve_left (by simp))]
/-- a is not above b -/
def leC (a b : List Nat) : Bool := !ltCps b a
theorem leC_trans : ∀ a b c : List Nat, leC a b = true → leC b c = true → leC a c = true
  | [], b, c, _, _ => by unfold leC; cases c <;> rfl
  | _ :: _, [], _, h, _ => by cases h
  | _ :: _, _ :: _, [], _, h => by cases h
  | x :: a, y :: b, z :: c, h, h' => by
    unfold leC ltCps at h h' ⊢
    simp only [Bool.not_eq_true', Bool.or_eq_false_iff, Bool.and_eq_false_iff, decide_eq_false_iff_not, beq_eq_false_iff_ne] at h h' ⊢
    refine ⟨by omega, ?_⟩
    by_cases e : z = x
    · have e1 : y = x := by omega
      have e2 : z = y := by omega
      refine .inr ?_
      have i1 := h.2.resolve_left (by simpa using e1)
      have i2 := h'.2.resolve_left (by simpa using e2)
      have := leC_trans a b c (by unfold leC; rw [i1]; rfl) (by unfold leC; rw [i2]; rfl)
      unfold leC at this
      simpa using this
    · exact .inl e
theorem leC_total (a b : List Nat) : (leC a b || leC b a) = true := by
  unfold leC
  cases h : ltCps b a with
  | false => rfl
  | true => rw [lt_asym b a h]; rfl
def leS (a b : Str) : Bool := leC a.cps.toList b.cps.toList
def sortS (xs : List Str) : List Str := xs.mergeSort leS
def sortI (xs : List Int) : List Int := xs.mergeSort (fun a b => decide (a ≤ b))
theorem sortI_perm (xs : List Int) : (sortI xs).Perm xs := List.mergeSort_perm _ _
theorem sortI_le (xs : List Int) : (sortI xs).Pairwise (· ≤ ·) := by
  have := List.pairwise_mergeSort (le := fun a b : Int => decide (a ≤ b)) (fun a b c h1 h2 => by simp only [decide_eq_true_eq] at *; omega) (fun a b => by simp only [Bool.or_eq_true, decide_eq_true_eq]; omega) xs
  exact this.imp fun h => by simpa using h
theorem sortS_perm (xs : List Str) : (sortS xs).Perm xs := List.mergeSort_perm _ _
theorem sortS_le (xs : List Str) : (sortS xs).Pairwise (fun a b => leS a b = true) := List.pairwise_mergeSort (le := leS) (fun a b c h1 h2 => leC_trans a.cps.toList b.cps.toList c.cps.toList h1 h2) (fun a b => leC_total a.cps.toList b.cps.toList) xs
theorem str_ext {a b : Str} (h : a.cps.toList = b.cps.toList) : a = b := by
  cases a with
  | mk x =>
    cases b with
    | mk y =>
      congr 1
      exact Array.toList_inj.mp h
theorem leS_anti (a b : Str) (h1 : leS a b = true) (h2 : leS b a = true) : a = b := str_ext (lt_anti _ _ (by unfold leS leC at h2; simpa using h2) (by unfold leS leC at h1; simpa using h1))
theorem rising_le : ∀ (p : Str) (l : List Str), risingS p l = true → (p :: l).Pairwise (fun a b => leS a b = true)
  | p, [], _ => by simp
  | p, x :: r, h => by
    have h' : (!ltCps x.cps.toList p.cps.toList && risingS x r) = true := h
    obtain ⟨h1, h2⟩ := Bool.and_eq_true_iff.mp h'
    have ih := rising_le x r h2
    refine List.pairwise_cons.mpr ⟨fun y hy => ?_, ih⟩
    rcases List.mem_cons.mp hy with rfl | hy
    · exact h1
    · exact leC_trans _ _ _ h1 (List.rel_of_pairwise_cons ih hy)
theorem sortedS_le : ∀ {l : List Str}, sortedS l = true → l.Pairwise (fun a b => leS a b = true)
  | [], _ => List.Pairwise.nil
  | x :: r, h => rising_le x r h
theorem sortS_uniq {xs ys : List Str} (p : ys.Perm xs) (h : sortedS ys = true) : ys = sortS xs := sorted_uniq leS_anti (p.trans (sortS_perm xs).symm) (sortedS_le h) (sortS_le xs)
theorem sortI_uniq {xs ys : List Int} (p : ys.Perm xs) (h : ys.Pairwise (· ≤ ·)) : ys = sortI xs := sorted_uniq (fun a b h1 h2 => Int.le_antisymm h1 h2) (p.trans (sortI_perm xs).symm) h (sortI_le xs)
end MM

/-! sorted(..), by value or of the store. -/
namespace MM
open PySem PySem.Spec L2 PyProof.Rows
def intsOf : List D → Option (List Int)
  | [] => some []
  | .int i :: r => (intsOf r).map (i :: ·)
  | _ :: _ => none
def strsOf : List D → Option (List Str)
  | [] => some []
  | .str i :: r => (strsOf r).map (i :: ·)
  | _ :: _ => none
section
variable {G : Gd} {R φ : List Addr} {S : Store} {H : Hp}
theorem ints_v : ∀ {ds : List D} {vs : List V} {ns : List Int}, RvL G R φ H ds vs → intsOf ds = some ns → vs = ns.map V.int
  | [], vs, ns, h, e => by
    unfold RvL at h
    cases e
    exact h
  | .int i :: r, vs, ns, h, e => by
    unfold intsOf at e
    obtain ⟨ms, e1, e2⟩ := Option.map_eq_some_iff.mp e
    unfold RvL at h
    obtain ⟨v, t, rfl, h1, h2⟩ := h
    rw [Rv.int_of h1, ints_v h2 e1, ← e2]
    rfl
  | .non :: r, vs, ns, h, e => by cases e
  | .bl _ :: r, vs, ns, h, e => by cases e
  | .str _ :: r, vs, ns, h, e => by cases e
  | .tup _ :: r, vs, ns, h, e => by cases e
  | .lst _ :: r, vs, ns, h, e => by cases e
  | .frz _ :: r, vs, ns, h, e => by cases e
  | .ref _ :: r, vs, ns, h, e => by cases e
theorem strs_v : ∀ {ds : List D} {vs : List V} {ns : List Str}, RvL G R φ H ds vs → strsOf ds = some ns → vs = ns.map V.str
  | [], vs, ns, h, e => by
    unfold RvL at h
    cases e
    exact h
  | .str i :: r, vs, ns, h, e => by
    unfold strsOf at e
    obtain ⟨ms, e1, e2⟩ := Option.map_eq_some_iff.mp e
    unfold RvL at h
    obtain ⟨v, t, rfl, h1, h2⟩ := h
    rw [Rv.str_of h1, strs_v h2 e1, ← e2]
    rfl
  | .non :: r, vs, ns, h, e => by cases e
  | .bl _ :: r, vs, ns, h, e => by cases e
  | .int _ :: r, vs, ns, h, e => by cases e
  | .tup _ :: r, vs, ns, h, e => by cases e
  | .lst _ :: r, vs, ns, h, e => by cases e
  | .frz _ :: r, vs, ns, h, e => by cases e
  | .ref _ :: r, vs, ns, h, e => by cases e
theorem rv_ints : ∀ ns : List Int, RvL G R φ H (ns.map D.int) (ns.map V.int)
  | [] => RvL.nil
  | n :: ns => RvL.cons Rv.int (rv_ints ns)
theorem rv_strs : ∀ ns : List Str, RvL G R φ H (ns.map D.str) (ns.map V.str)
  | [] => RvL.nil
  | n :: ns => RvL.cons Rv.str (rv_strs ns)
def keysS : List Key → Option (List Str)
  | [] => some []
  | .inr s :: r => (keysS r).map (s :: ·)
  | _ :: _ => none
theorem keysS_eq : ∀ {ks : List Key} {ss : List Str}, keysS ks = some ss → ks = ss.map Sum.inr
  | [], ss, e => by cases e; rfl
  | .inr s :: r, ss, e => by
    unfold keysS at e
    obtain ⟨ms, e1, e2⟩ := Option.map_eq_some_iff.mp e
    rw [keysS_eq e1, ← e2]
    rfl
  | .inl _ :: r, ss, e => by cases e
def oSortI : List D → Store → Option (List D) := fun ds S => match ds with
  | [d] => (lstOf S d).bind fun xs => (intsOf xs).map fun ns => (sortI ns).map .int
  | _ => none
def oSortS : List D → Store → Option (List D) := fun ds S => match ds with
  | [d] => (lstOf S d).bind fun xs => (strsOf xs).bind fun ns => if ns.length < 64 then some ((sortS ns).map .str) else none
  | _ => none
def oSortD : List D → Store → Option (List D) := fun ds S => match ds with
  | [d] => (dctAt S d).bind fun kvs => (keysS (kvs.map (·.1))).bind fun ns => if ns.length < 64 then some ((sortS ns).map .str) else none
  | _ => none
theorem fr_sortI : Fresh G (rSortedI G.K) oSortI := by
  intro R φ S H ds xs es rs rv he
  unfold oSortI at he
  split at he
  · obtain ⟨v, rfl, h1⟩ := RvL.one_of rv
    obtain ⟨ys, e1, e2⟩ := Option.bind_eq_some_iff.mp he
    obtain ⟨ns, e3, e4⟩ := Option.map_eq_some_iff.mp e2
    obtain ⟨a, vs, rfl, h2, h3⟩ := lst_of rs h1 e1
    have ev := ints_v h3 e3
    subst ev
    refine ⟨(sortI ns).map V.int, ?_, fun Q q => ⟨a, ns, rfl, h2, fun ns' p hp hs hn => ?_⟩⟩
    · rw [← e4]
      exact rv_ints _
    · rw [sortI_uniq hp hs]
      exact q p hn
  · cases he
theorem fr_sortS : Fresh G (rSortedS G.K) oSortS := by
  intro R φ S H ds xs es rs rv he
  unfold oSortS at he
  split at he
  · obtain ⟨v, rfl, h1⟩ := RvL.one_of rv
    obtain ⟨ys, e1, e2⟩ := Option.bind_eq_some_iff.mp he
    obtain ⟨ns, e3, e4⟩ := Option.bind_eq_some_iff.mp e2
    split at e4
    · rename_i hl
      obtain ⟨a, vs, rfl, h2, h3⟩ := lst_of rs h1 e1
      have ev := strs_v h3 e3
      subst ev
      refine ⟨(sortS ns).map V.str, ?_, fun Q q => ⟨a, ns, rfl, h2, hl, fun ns' p hp hs hn => ?_⟩⟩
      · cases e4
        exact rv_strs _
      · rw [sortS_uniq hp hs]
        exact q p hn
    · cases e4
  · cases he
theorem fr_sortD : Fresh G (fun xs H Q => ∃ (a : Addr) (kvs : List (Key × V)) (ks : List Str), xs = [V.ref a] ∧ Rd H a (.dK kvs) ∧ kvs.map (·.1) = ks.map Sum.inr ∧ ks.length < 64 ∧ ∀ ys p, ys.Perm ks → sortedS ys = true → H p = none → Q (.ref p) (upd H p (.lst (ys.map V.str)))) oSortD := by
  intro R φ S H ds xs es rs rv he
  unfold oSortD at he
  split at he
  · obtain ⟨v, rfl, h1⟩ := RvL.one_of rv
    obtain ⟨kvs, e1, e2⟩ := Option.bind_eq_some_iff.mp he
    obtain ⟨ns, e3, e4⟩ := Option.bind_eq_some_iff.mp e2
    split at e4
    · rename_i hl
      obtain ⟨n, a, vs, rfl, rfl, ha, h2, h3⟩ := dct_of rs h1 e1
      have ll : kvs.length = vs.length := by
        have := RvL.length h3
        rw [List.length_map] at this
        exact this
      refine ⟨(sortS ns).map V.str, ?_, fun Q q => ⟨a, _, ns, rfl, .inl h2, ?_, hl, fun ys p hp hs hn => ?_⟩⟩
      · cases e4
        exact rv_strs _
      · rw [fst_zip ll]
        exact keysS_eq e3
      · rw [sortS_uniq hp hs]
        exact q p hn
    · cases e4
  · cases he
def oSorted : List D → Store → Option (List D) := fun ds S => match (match oSortI ds S with | some es => some es | none => oSortS ds S) with | some es => some es | none => oSortD ds S
end
section
variable {T : List Addr} {X : Cx} {E : XK} {e : Expr} {mr : MA0} {p pos : Pos}
theorem me_sorted (hc : X.calm = true) (hg : Gl X "sorted") (hm : X.mg "sorted" = none) (ha : MAn T X E [e] mr) (he : starEach [e] X.env = (false, eval e X.env) :: starEach [] X.env := by rfl) (hpl : (backTo pos (starEach [] X.env)).any (·.1) = false := by rfl) :
    ME T X E (.Call (.Name "sorted" p) [e] [] pos) (mCall (frL oSorted) mr) := me_cb (CallR.or (CallR.or cr_sortedI cr_sortedS) (call_sortedD hc)) (Fresh.or (Fresh.or fr_sortI fr_sortS) fr_sortD).l hg hm (by decide +kernel) ha (by decide) (by decide) he hpl
theorem me_sortedS (hc : X.calm = true) (hg : Gl X "sorted") (hm : X.mg "sorted" = none) (ha : MAn T X E [e] mr) (he : starEach [e] X.env = (false, eval e X.env) :: starEach [] X.env := by rfl) (hpl : (backTo pos (starEach [] X.env)).any (·.1) = false := by rfl) :
    ME T X E (.Call (.Name "sorted" p) [e] [] pos) (mCall (frS oSorted) mr) := me_cb (CallR.or (CallR.or cr_sortedI cr_sortedS) (call_sortedD hc)) (Fresh.or (Fresh.or fr_sortI fr_sortS) fr_sortD).s hg hm (by decide +kernel) ha (by decide) (by decide) he hpl
end
end MM

/-! Walking texts. -/
namespace MM
open PySem PySem.Spec L2 PyProof.Rows
theorem PI.or {X : Cx} {tg e : Expr} {t1 t2 : TI} (h1 : PI X tg e t1) (h2 : PI X tg e t2) : PI X tg e (fun σ H R => t1 σ H R ∨ t2 σ H R) := ⟨fun pins s σ H R I h => h.elim (h1.run pins s σ H R I) (h2.run pins s σ H R I)⟩
theorem SndI.alt {G : Gd} {E : XK} {t1 t2 : TI} {m m1 m2 : MI0} (h1 : SndI G E t1 m1) (h2 : SndI G E t2 m2) (h : ∀ ρ S, m ρ S = m1 ρ S ∨ m ρ S = m2 ρ S) : SndI G E (fun σ H Q => t1 σ H Q ∨ t2 σ H Q) m := by
  intro σ H ρ φ R S rs rn
  rcases h ρ S with e | e
  · rw [e]
    exact Run.conv (h1 σ H ρ φ R S rs rn) fun Q q => .inl q
  · rw [e]
    exact Run.conv (h2 σ H ρ φ R S rs rn) fun Q q => .inr q
/-- the signs of a text -/
def signsD (z : Str) : List D := z.cps.toList.map fun c => .str ⟨#[c]⟩
def miS (me : ME0) : MI0 := fun ρ S => (me ρ S).bind fun d S1 => match d with
  | .str z => .ok (itL (signsD z)) S1
  | _ => .bad
section
variable {T : List Addr} {X : Cx} {E : XK} {e tg : Expr} {me : ME0}
theorem signs_get (z : Str) (i : Nat) : (signsD z)[i]? = z.cps[i]?.map fun c => D.str ⟨#[c]⟩ := by
  unfold signsD
  rw [List.getElem?_map, Array.getElem?_toList]
theorem relI_str {G : Gd} {R φ : List Addr} {H : Hp} {z : Str} : RelI G R φ H (itL (signsD z)) (Its z) := by
  intro R' hR i φ1 S1 H1 l rs
  refine ⟨fun e => ?_, fun d e => ?_⟩
  · have e' : (signsD z)[i]? = none := Option.some.inj e
    rw [signs_get] at e'
    have := Option.map_eq_none_iff.mp e'
    exact Array.getElem?_eq_none_iff.mp this
  · have e' : (signsD z)[i]? = some d := Option.some.inj e
    rw [signs_get] at e'
    obtain ⟨c, e1, e2⟩ := Option.map_eq_some_iff.mp e'
    refine ⟨(Array.getElem?_eq_some_iff.mp e1).1, fun x H' hy => ?_⟩
    obtain ⟨rfl, c', e3, rfl⟩ := hy
    rw [e1] at e3
    cases e3
    rw [← e2]
    exact ⟨Le.refl, rs, Rv.str⟩
theorem mi_str (h : ME T X E e me) : MI T X E tg e (miS me) := by
  obtain ⟨t, pt, s⟩ := h
  refine ⟨_, pi_str pt, fun σ H ρ φ R S rs rn => Run.bnd (c' := fun (x : V) H1 Q => ∃ z, x = V.str z ∧ Q (Its z) H1) (s σ H ρ φ R S rs rn) (fun d S1 φ1 v H1 e0 l1 rs1 r1 => ?_) fun Q q => q⟩
  cases d with
  | str z => exact Run.ret (v := Its z) rs1 relI_str fun Q q => ⟨z, Rv.str_of r1, q⟩
  | _ => exact Run.bad
end
end MM

/-! in, not in: texts, lists and tuples of flat values, lists of nested data, dicts. -/
namespace MM
open PySem PySem.Spec L2 PyProof.Rows
def flatD : D → Bool
  | .non => true
  | .bl _ => true
  | .int _ => true
  | .str _ => true
  | _ => false
def eqF : D → D → Bool
  | .non, .non => true
  | .bl a, .bl b => a == b
  | .bl a, .int b => (if a then 1 else 0) == b
  | .int a, .bl b => a == (if b then 1 else 0)
  | .int a, .int b => a == b
  | .str a, .str b => a == b
  | _, _ => false
def neg? (neg : Bool) (b : Bool) : Bool := if neg then !b else b
def fInS (neg : Bool) : D → D → Store → Res D := fun x y S => match x, y with
  | .str s, .str z => match s.cps.toList with
    | [c] => .ok (.bl (neg? neg (decide (c ∈ z.cps.toList)))) S
    | _ => .bad
  | _, _ => .bad
def fInF (neg : Bool) : D → D → Store → Res D := fun x y S => match seqOf S y with
  | some ys => if flatD x = true ∧ ys.all flatD = true then .ok (.bl (neg? neg (ys.any fun z => eqF z x))) S else .bad
  | none => .bad
def fIn (neg : Bool) : D → D → Store → Res D := fun x y S => match y with
  | .str _ => fInS neg x y S
  | .ref n => match dget S n x with
    | some _ => fInD neg x y S
    | none => fInF neg x y S
  | _ => fInF neg x y S
section
variable {G : Gd} {E : XK}
theorem flat_v {R φ : List Addr} {H : Hp} {d : D} {v : V} (h : Rv G R φ H d v) (f : flatD d = true) : flatV v = true ∧ ∀ e w, Rv G R φ H e w → flatD e = true → eqV v w = eqF d e := by
  cases d with
  | non =>
    rw [Rv.non_of h]
    refine ⟨rfl, fun e w r fe => ?_⟩
    cases e with
    | non => rw [Rv.non_of r]; rfl
    | bl b => rw [Rv.bl_of r]; rfl
    | int b => rw [Rv.int_of r]; rfl
    | str b => rw [Rv.str_of r]; rfl
    | _ => cases fe
  | bl b =>
    rw [Rv.bl_of h]
    refine ⟨rfl, fun e w r fe => ?_⟩
    cases e with
    | non => rw [Rv.non_of r]; rfl
    | bl b => rw [Rv.bl_of r]; rfl
    | int b => rw [Rv.int_of r]; rfl
    | str b => rw [Rv.str_of r]; rfl
    | _ => cases fe
  | int b =>
    rw [Rv.int_of h]
    refine ⟨rfl, fun e w r fe => ?_⟩
    cases e with
    | non => rw [Rv.non_of r]; rfl
    | bl b => rw [Rv.bl_of r]; rfl
    | int b => rw [Rv.int_of r]; rfl
    | str b => rw [Rv.str_of r]; rfl
    | _ => cases fe
  | str b =>
    rw [Rv.str_of h]
    refine ⟨rfl, fun e w r fe => ?_⟩
    cases e with
    | non => rw [Rv.non_of r]; rfl
    | bl b => rw [Rv.bl_of r]; rfl
    | int b => rw [Rv.int_of r]; rfl
    | str b => rw [Rv.str_of r]; rfl
    | _ => cases fe
  | _ => cases f
theorem flat_all {R φ : List Addr} {H : Hp} {x : D} {xv : V} (rx : Rv G R φ H x xv) (fx : flatD x = true) : ∀ {ds : List D} {vs : List V}, RvL G R φ H ds vs → ds.all flatD = true → vs.all flatV = true ∧ inV xv vs = ds.any fun z => eqF z x
  | [], vs, h, _ => by
    unfold RvL at h
    subst h
    exact ⟨rfl, rfl⟩
  | d :: ds, vs, h, f => by
    unfold RvL at h
    obtain ⟨v, t, rfl, h1, h2⟩ := h
    rw [List.all_cons] at f
    obtain ⟨f1, f2⟩ := Bool.and_eq_true_iff.mp f
    obtain ⟨a1, a2⟩ := flat_v h1 f1
    obtain ⟨b1, b2⟩ := flat_all rx fx h2 f2
    refine ⟨by rw [List.all_cons, a1, b1]; rfl, ?_⟩
    unfold inV at b2 ⊢
    rw [List.any_cons, List.any_cons, b2, a2 x xv rx fx]
theorem o_inF {neg : Bool} : Op2 G E (rIn G.K neg) (fInF neg) := by
  intro R φ S H d e x y rs rd re
  unfold fInF
  split
  · rename_i ys hys
    split
    · rename_i hf
      obtain ⟨a, vs, rfl, h1, h2⟩ := seq_of rs re hys
      obtain ⟨f1, f2⟩ := flat_all rd hf.1 h2 hf.2
      exact Run.ret rs Rv.bl fun Q q => ⟨a, vs, rfl, h1, (flat_v rd hf.1).1, f1, by rw [f2]; exact q⟩
    · exact Run.bad
  · exact Run.bad
def rInSg (neg : Bool) : R2 := fun x y H Q => ∃ (c : Nat) (z : Str), x = .str ⟨#[c]⟩ ∧ y = .str z ∧ Q (.bl (neg? neg (decide (c ∈ z.cps.toList)))) H
theorem o_inS {neg : Bool} : Op2 G E (rInSg neg) (fInS neg) := by
  intro R φ S H d e x y rs rd re
  unfold fInS
  split
  · rename_i s z
    split
    · rename_i c hc
      have es := Rv.str_of rd
      have ez := Rv.str_of re
      subst es ez
      have : s = ⟨#[c]⟩ := by
        cases s with
        | mk cps => congr 1; exact Array.toList_inj.mp hc
      exact Run.ret rs Rv.bl fun Q q => ⟨c, z, by rw [this], rfl, q⟩
    · exact Run.bad
  · exact Run.bad
theorem fIn_or (neg : Bool) (x y : D) (S : Store) : fIn neg x y S = fInS neg x y S ∨ fIn neg x y S = fInD neg x y S ∨ fIn neg x y S = fInF neg x y S := by
  unfold fIn
  cases y with
  | str z => exact .inl rfl
  | ref n =>
    dsimp only
    cases dget S n x with
    | none => exact .inr (.inr rfl)
    | some o => exact .inr (.inl rfl)
  | _ => exact .inr (.inr rfl)
theorem o_in {neg : Bool} : Op2 G E (fun x y H Q => (rInSg neg x y H Q ∨ rInD neg x y H Q) ∨ rIn G.K neg x y H Q) (fIn neg) := by
  intro R φ S H d e x y rs rd re
  rcases fIn_or neg d e S with h | h | h <;> rw [h]
  · exact Run.conv (o_inS R φ S H d e x y rs rd re) fun Q q => .inl (.inl q)
  · exact Run.conv (o_inD R φ S H d e x y rs rd re) fun Q q => .inl (.inr q)
  · exact Run.conv (o_inF R φ S H d e x y rs rd re) fun Q q => .inr q
end
section
variable {X : Cx}
theorem op_in (hu : X.A.units + 64 < cLine) : OpR X (compareOp .In) (fun x y H Q => (rInSg false x y H Q ∨ rInD false x y H Q) ∨ rIn X.K false x y H Q) := OpR.or (OpR.or op_in_sign (op_inD hu)) op_in_seq
theorem op_notIn (hu : X.A.units + 64 < cLine) : OpR X (compareOp .NotIn) (fun x y H Q => (rInSg true x y H Q ∨ rInD true x y H Q) ∨ rIn X.K true x y H Q) := OpR.or (OpR.or op_notIn_sign (op_notInD hu)) op_notIn_seq
end
end MM

/-! x[::-1] of tuples and lists. -/
namespace MM
open PySem PySem.Spec L2 PyProof.Rows HT
section
variable {prog : Program} {w : World} {A : Around} {E : Value → Shared → Prop} {s : Shared}
theorem rev_places (n : Nat) : Builtin.Slice.sliceAdjust none none (-1) (n : Int) = ((n : Int) - 1, -1) ∧ Builtin.Slice.slicePlaces ((n : Int) - 1) (-1) (-1) = n := by
  constructor
  · unfold Builtin.Slice.sliceAdjust
    rfl
  · unfold Builtin.Slice.slicePlaces
    rw [if_neg (by decide)]
    simp only [Int.neg_neg, Int.ediv_one]
    split <;> omega
theorem fm_map {α β : Type} {f : α → Option β} {g : α → β} : ∀ {l : List α}, (∀ m ∈ l, f m = some (g m)) → l.filterMap f = l.map g
  | [], _ => rfl
  | a :: l, h => by
    rw [List.filterMap_cons, h a List.mem_cons_self, List.map_cons, fm_map fun m hm => h m (List.mem_cons_of_mem _ hm)]
theorem rev_pick (xs : Array Value) : ((List.range xs.size).filterMap fun (m : Nat) => xs[(((xs.size : Int) - 1) + (m : Int) * (-1)).toNat]?).toArray = xs.toList.reverse.toArray := by
  congr 1
  apply List.ext_getElem?
  intro i
  have e : ((List.range xs.size).filterMap fun (m : Nat) => xs[(((xs.size : Int) - 1) + (m : Int) * (-1)).toNat]?) = (List.range xs.size).map fun m => xs.toList.reverse.getD m .none := by
    refine fm_map fun m hm => ?_
    have hm' := List.mem_range.mp hm
    have h1 : (((xs.size : Int) - 1) + (m : Int) * (-1)).toNat = xs.size - 1 - m := by omega
    have h2 : m < xs.toList.reverse.length := by rw [List.length_reverse, Array.length_toList]; exact hm'
    rw [h1]
    show _ = some (xs.toList.reverse.getD m .none)
    rw [List.getD_eq_getElem?_getD, List.getElem?_eq_getElem h2]
    rw [List.getElem_reverse, Array.getElem?_eq_getElem (by omega)]
    simp
  rw [e, List.getElem?_map]
  by_cases hi : i < xs.size
  · rw [List.getElem?_range hi]
    have h2 : i < xs.toList.reverse.length := by rw [List.length_reverse, Array.length_toList]; exact hi
    rw [List.getElem?_eq_getElem h2]
    show some (xs.toList.reverse.getD i .none) = _
    rw [List.getD_eq_getElem?_getD, List.getElem?_eq_getElem h2]
    rfl
  · rw [List.getElem?_eq_none (by rw [List.length_range]; omega), List.getElem?_eq_none (by rw [List.length_reverse, Array.length_toList]; omega)]
    rfl
theorem sliceApplied_rev {sl : Addr} {vl vu vs : Value} {n : Nat} {Q : Int × Int × Nat → Shared → Prop} (hs : s.heap.IsSliceOf sl vl vu vs) (pl : IsPart vl none) (pu : IsPart vu none) (ps : IsPart vs (some (-1)))
    (h : Q ((n : Int) - 1, -1, n) s) : wpAny (model prog w) A (Builtin.Slice.sliceApplied (.ref sl) (pure (n : Int))) Q E s := by
  obtain ⟨os, hos, hcs, hds⟩ := id hs
  unfold Builtin.Slice.sliceApplied Builtin.Slice.sliceFields
  refine wpAny_bind (wpAny_bind (wpAny_field hos hds (x := vl) rfl (wpAny_bind (wpAny_field hos hds (x := vu) rfl (wpAny_bind (wpAny_field hos hds (x := vs) rfl (wpAny_pure ?_)))))))
  refine wpAny_bind (slicePart_ ps ?_)
  show wpAny _ _ (if ((-1 : Int) == 0) = true then _ else _) _ _ s
  rw [if_neg (by decide)]
  refine wpAny_bind (slicePart_ pl (wpAny_bind (slicePart_ pu (wpAny_bind (wpAny_pure ?_)))))
  show wpAny _ _ (match Builtin.Slice.sliceAdjust none none (-1) (n : Int) with | (lo, hi) => pure (lo, (-1 : Int), Builtin.Slice.slicePlaces lo hi (-1))) _ _ s
  rw [(rev_places n).1]
  show wpAny _ _ (pure ((n : Int) - 1, (-1 : Int), Builtin.Slice.slicePlaces ((n : Int) - 1) (-1) (-1))) _ _ s
  rw [(rev_places n).2]
  exact wpAny_pure h
theorem getItem_tuple_rev {t sl : Addr} {items : Array Value} {vl vu vs : Value} {Q : Value → Shared → Prop} (ht : IsTup s.heap t items) (hs : s.heap.IsSliceOf sl vl vu vs) (pl : IsPart vl none) (pu : IsPart vu none) (ps : IsPart vs (some (-1)))
    (h : Q (.ref s.heap.objs.size) { s with heap := s.heap.push { cls := .type "tuple", data := .seq items.toList.reverse.toArray } })
    (hsz : items.size ≤ sizeLine) : wpAny (model prog w) A (getItem (.ref t) (.ref sl)) Q E s := by
  have htake : sizeOk (.seq items.toList.reverse.toArray) := by
    show items.toList.reverse.toArray.size ≤ sizeLine
    rw [List.size_toArray, List.length_reverse, Array.length_toList]
    exact hsz
  obtain ⟨os, hos, hcs, hds⟩ := id hs
  have hTs : s.TypeIs (.ref sl) "slice" := ⟨os, hos, hcs⟩
  unfold getItem
  try with_reducible refine wpAny_holding ?_
  first | refine wpAny_bind (wpAny_pure ?_) | skip
  refine wpAny_bind (wpAny_sequenceKey ht.typeIs (by decide) ?_)
  refine wpAny_bind (wpAny_callSpecial?_slot (name := Str.ofString "__getitem__") ht.typeIs PyProof.Rows.slot_tuple_getitem
    (wpAny_call_entry PyProof.Rows.slot_tuple_getitem ht.typeIs entry_tuple_getitem ?_ (args_tuple_getitem _ _)))
  show wpAny _ _ (Builtin.Tuple.tupleItemsOf (.ref t) >>= _) _ _ s
  refine wpAny_bind (tupleItemsOf_ ht ?_)
  refine wpAny_bind (wpAny_typeOf hTs ?_)
  rw [if_pos (by decide)]
  refine wpAny_bind (sliceApplied_rev hs pl pu ps ?_)
  have hno : ¬ ((((items.size : Int) - 1) == 0 && (-1 : Int) == 1 && items.size == items.size) = true) := by
    intro q
    rw [Bool.and_eq_true, Bool.and_eq_true] at q
    exact absurd (eq_of_beq q.1.2) (by decide)
  show wpAny _ _ (if (((items.size : Int) - 1) == 0 && (-1 : Int) == 1 && items.size == items.size) = true then _ else _) _ _ s
  rw [if_neg hno, rev_pick]
  first
    | exact wpAny_bind (m := Builtin.Tuple.tupleExact _) (wpAny_newObj_type (wpAny_pure ⟨_, rfl, wpAny_pure h⟩) htake)
    | exact wpAny_bind (m := Builtin.Tuple.tupleExact _) (wpAny_newObj_type (wpAny_bind (wpAny_pure (wpAny_pure ⟨_, rfl, wpAny_pure h⟩))) htake)
    | exact wpAny_bind (wpAny_bind (m := Builtin.Tuple.tupleExact _) (wpAny_newObj_type (wpAny_pure (wpAny_pure ⟨_, rfl, wpAny_pure h⟩)) htake))
    | exact wpAny_bind (wpAny_bind (m := Builtin.Tuple.tupleExact _) (wpAny_newObj_type (wpAny_pure ⟨_, rfl, wpAny_pure h⟩) htake))
end
end MM

/-! x[::-1] as a rule. -/
namespace MM
open PySem PySem.Spec L2 PyProof.Rows
def tRevT (K : PySem.W.Frag) (te : TE) : TE := fun σ H Q => te σ H fun x H1 => ∃ a xs, x = .ref a ∧ SqT K H1 a xs ∧ ∀ p, H1 p = none → Q (.ref p) (upd H1 p (.tup xs.reverse))
section
variable {X : Cx}
theorem pe_revT {e : Expr} {te : TE} {k : Nat} {p1 p2 p3 pos : Pos} (he : PE X e te) : PE X (.Subscript e (.Slice none none (some (.UnaryOp .USub (.Constant (.int 1) k p1) p2)) p3) pos) (tRevT X.K te) := by
  refine ⟨fun pins s σ H Q I h => ?_⟩
  refine Subscript_ (thn (he.run pins s σ H _ I h) fun v s1 ⟨x, H1, I1, r1, q1⟩ => ?_)
  obtain ⟨a, xs, ex, hx, q⟩ := q1
  subst ex
  cases r1
  have hst : PO X (some (.UnaryOp .USub (.Constant (.int 1) k p1) p2)) (tPart (tUn (rU fun i => .int (-i)) (tC (.int 1)))) := po_some (pe_un un_neg pe_int)
  refine wpAny_Slice (thn (po_none.run pins s1 σ H1 (fun o H2 => o = none ∧ H2 = H1) I1 ⟨rfl, rfl⟩) fun vl s2 ⟨l, H2, I2, pl, el, e2⟩ => ?_)
  subst el e2
  refine thn (po_none.run pins s2 σ H2 (fun o H3 => o = none ∧ H3 = H2) I2 ⟨rfl, rfl⟩) fun vu s3 ⟨u, H3, I3, pu, eu, e3⟩ => ?_
  subst eu e3
  refine thn (hst.run pins s3 σ H3 (fun o H4 => o = some (-1) ∧ H4 = H3) I3 ⟨1, rfl, -1, rfl, rfl, rfl⟩) fun vs s4 ⟨o, H4, I4, ps, eo, e4⟩ => ?_
  subst eo e4
  have I5 : Inv X pins σ H4 { s4 with heap := s4.heap.push { cls := .type "slice", data := .fields #[vl, vu, vs] } } := I4.kept (t' := s4.toks) fun b ob q => Heap.get?_push_of_some _ q
  obtain ⟨its, r, ht, hz⟩ := I5.tuple hx
  have hlen := r.length
  show wpAny (model X.prog X.w) X.A (subscriptTail e (.Slice none none (some (.UnaryOp .USub (.Constant (.int 1) k p1) p2)) p3) (.ref a) (.ref s4.heap.objs.size)) (EP X pins σ Q) X.xe { s4 with heap := s4.heap.push { cls := .type "slice", data := .fields #[vl, vu, vs] } }
  refine tail_any (ops := [.ref a, .ref s4.heap.objs.size]) ht.typeIs (PyProof.Rows.slot_tuple_getitem.lookup) ?_ (by with_unfolding_all rfl)
  refine getItem_tuple_rev ht (Heap.IsSliceOf.new _ vl vu vs) pl pu ps ?_ (by rw [List.size_toArray]; omega)
  refine ⟨.ref _, _, I5.laid (t' := s4.toks) (o := .tup xs.reverse) (fun b ob q => Heap.get?_push_of_some _ q) (Nat.le_refl _) ?_, rfl, q _ (I5.hok.fresh (Nat.le_refl _))⟩
  exact ⟨by rw [List.length_reverse]; exact hz, _, r.reverse, IsTup.new _ _⟩
end
def fRev : D → Store → Res D := fun x S => match x with
  | .tup ds => .ok (.tup ds.reverse) S
  | d => match lstOf S d with
    | some ds => .ok (.lst ds.reverse) S
    | none => .bad
section
variable {T : List Addr} {X : Cx} {E : XK} {e : Expr} {me : ME0}
def fRevT : D → Store → Res D := fun x S => match x with
  | .tup ds => .ok (.tup ds.reverse) S
  | _ => .bad
def fRevL : D → Store → Res D := fun x S => match lstOf S x with
  | some ds => .ok (.lst ds.reverse) S
  | none => .bad
theorem fRev_or (x : D) (S : Store) : fRev x S = fRevL x S ∨ fRev x S = fRevT x S := by
  cases x with
  | tup ds => exact .inr rfl
  | _ => exact .inl rfl
theorem mUn_or {f f1 f2 : D → Store → Res D} {ma : ME0} (h : ∀ x S, f x S = f1 x S ∨ f x S = f2 x S) (ρ : Rho) (S : Store) : mUn f ma ρ S = mUn f1 ma ρ S ∨ mUn f ma ρ S = mUn f2 ma ρ S := by
  unfold mUn
  cases ma ρ S with
  | ok x S1 => exact h x S1
  | exc e S1 => exact .inl rfl
  | bad => exact .inl rfl
theorem me_rev {k : Nat} {p1 p2 p3 pos : Pos} (he : ME T X E e me) : ME T X E (.Subscript e (.Slice none none (some (.UnaryOp .USub (.Constant (.int 1) k p1) p2)) p3) pos) (mUn fRev me) := by
  obtain ⟨t, pt, s⟩ := he
  refine ⟨_, PE.or (pe_revL pt) (pe_revT pt), SndE.alt (m1 := mUn fRevL me) (m2 := mUn fRevT me) (fun σ H ρ φ R S rs rn => ?_) (fun σ H ρ φ R S rs rn => ?_) (mUn_or fRev_or)⟩
  · refine Run.bnd (c' := fun (x : V) H1 (Q : VK) => ∃ a xs, x = V.ref a ∧ SqL X.K H1 a xs ∧ ∀ p, H1 p = none → Q (.ref p) (upd H1 p (.lst xs.reverse))) (s σ H ρ φ R S rs rn) (fun d S1 φ1 x H1 _ l1 rs1 r1 => ?_) fun Q q => q
    unfold fRevL
    split
    · rename_i ds hds
      obtain ⟨a, vs, rfl, h1, h2⟩ := lst_of rs1 r1 hds
      exact Run.new (o := .lst vs.reverse) rs1 (fun p hp => Rv.lst (rs1.fresh hp).1 (rs1.fresh hp).2 upd_same (RvL.le (Le.new rs1 hp) (RvL.reverse h2))) fun Q q => ⟨a, vs, rfl, h1, q⟩
    · exact Run.bad
  · refine Run.bnd (c' := fun (x : V) H1 (Q : VK) => ∃ a xs, x = V.ref a ∧ SqT X.K H1 a xs ∧ ∀ p, H1 p = none → Q (.ref p) (upd H1 p (.tup xs.reverse))) (s σ H ρ φ R S rs rn) (fun d S1 φ1 x H1 _ l1 rs1 r1 => ?_) fun Q q => q
    cases d with
    | tup ds =>
      obtain ⟨a, vs, rfl, h1, h2⟩ := Rv.tup_of r1
      exact Run.new (o := .tup vs.reverse) rs1 (fun p hp => Rv.tup upd_same (RvL.le (Le.new rs1 hp) (RvL.reverse h2))) fun Q q => ⟨a, vs, rfl, h1, q⟩
    | _ => exact Run.bad
end
end MM

/-! isinstance with an own class, with a tuple of built-in ones, of an instance with a built-in one. -/
namespace MM
open PySem PySem.Spec L2 PyProof.Rows
/-- what isinstance asks of an own class whose instances are met -/
structure IsiAt (K : PySem.W.Frag) (mg : Str → Option Value) (c : Str) (C : Addr) : Prop where
  A : ClsAt K mg c C
  ha : PySem.W.findIn K (.ref C) "__class__" = some (some (.builtin "object.__class__"))
  hn : PySem.W.specialIn K (.builtin "object.__class__") "__get__" = some (some (.builtin "getset_descriptor.__get__"))
  htk : PySem.W.takesIn K (.builtin "object.__class__") = some true
  hm : PySem.W.mroIn K C (.type "object") = some true
  self : PySem.W.kitOne K (.ref C) (.ref C) = some true
  non : PySem.W.kitOne K (.type "NoneType") (.ref C) = some false
  bl : PySem.W.kitOne K (.type "bool") (.ref C) = some false
  int : PySem.W.kitOne K (.type "int") (.ref C) = some false
  str : PySem.W.kitOne K (.type "str") (.ref C) = some false
  tup : PySem.W.kitOne K (.type "tuple") (.ref C) = some false
  lst : PySem.W.kitOne K (.type "list") (.ref C) = some false
  dct : PySem.W.kitOne K (.type "dict") (.ref C) = some false
theorem IsiAt.ty {K : PySem.W.Frag} {mg : Str → Option Value} {c : Str} {C : Addr} {t : String} {S : Store} {d : D} (I : IsiAt K mg c C) (h : tyD S d = some t) : PySem.W.kitOne K (.type t) (.ref C) = some false := by
  cases d with
  | non => cases h; exact I.non
  | bl b => cases h; exact I.bl
  | int b => cases h; exact I.int
  | str b => cases h; exact I.str
  | tup b => cases h; exact I.tup
  | lst b => cases h; exact I.lst
  | frz b => cases h
  | ref n =>
    change tyO S[n]? = some t at h
    cases ho : S[n]? with
    | none => rw [ho] at h; cases h
    | some o =>
      rw [ho] at h
      cases o with
      | lst ds => cases h; exact I.lst
      | dct ds => cases h; exact I.dct
      | dcT ds => cases h
      | ins c fs => cases h
/-- isinstance(x, c), c an own class: x of it, or of a built-in one -/
def fIsiC (c : Str) : D → Store → Res D := fun x S => match tyD S x with
  | some _ => .ok (.bl false) S
  | none => match x with
    | .ref n => match insAt S c n with
      | some _ => .ok (.bl true) S
      | none => .bad
    | _ => .bad
section
variable {T : List Addr} {X : Cx} {E : XK} {e : Expr} {me : ME0} {c : Str} {C : Addr} {p q pos : Pos}
theorem me_isiC (I : IsiAt X.K X.mg c C) (hg : Gl X "isinstance") (hm : X.mg "isinstance" = none) (hgC : Gl X c) (h : ME T X E e me) (hdT : (c == ("__debug__" : Str)) = false := by decide)
    (he : starEach [e, .Name c q] X.env = (false, eval e X.env) :: starEach [.Name c q] X.env := by rfl) (he2 : starEach [.Name c q] X.env = (false, eval (.Name c q) X.env) :: starEach [] X.env := by rfl) (hpl : (backTo pos (starEach [.Name c q] X.env)).any (·.1) = false := by rfl) :
    ME T X E (.Call (.Name "isinstance" p) [e, .Name c q] [] pos) (mUn (fIsiC c) me) := by
  obtain ⟨t, pt, st⟩ := h
  refine ⟨_, pe_callB call_isi hg hm (by decide +kernel) (pa_cons pt (pa_cons (pe_glob (v := .ref C) hgC I.A.m rfl hdT) pa_nil he2) he) (by decide) (by decide) he hpl, fun σ H ρ φ R S rs rn => ?_⟩
  refine Run.bnd (c' := fun (v : V) H1 (Q : VK) => rIsi X.K [v, .ref C] H1 Q) (st σ H ρ φ R S rs rn) (fun d S1 φ1 v H1 e0 l1 rs1 r1 => ?_) fun Q q => q
  unfold fIsiC
  split
  · rename_i ty ht
    exact Run.ret rs1 Rv.bl fun Q q => ⟨v, .ref C, .type ty, .ref C, false, rfl, .own C, tyD_x rs1 r1 ht, I.ty ht, q⟩
  · split
    · rename_i n
      split
      · rename_i fs hfs
        obtain ⟨a, dx, vs, rfl, hai, h1, h2⟩ := rs1.ins r1 hfs I.A.m
        exact Run.ret rs1 Rv.bl fun Q q => ⟨.ref a, .ref C, .ref C, .ref C, true, rfl, .own C, .base (.ins h1 I.A.cls I.ha I.hn I.htk I.hm), I.self, q⟩
      · exact Run.bad
    · exact Run.bad
/-! isinstance(x, (A, B)) -/
def kitAnyB (t : String) : List String → Option Bool
  | [] => some false
  | b :: bs => match kitB t b with
    | some true => some true
    | some false => kitAnyB t bs
    | none => none
theorem kitAnyB_v {K : PySem.W.Frag} {t : String} : ∀ {bs : List String} {r : Bool}, kitAnyB t bs = some r → PySem.W.kitAny K (.type t) (bs.map Value.type) = some r
  | [], r, h => by
    cases h
    exact kitAny_nil
  | b :: bs, r, h => by
    unfold kitAnyB at h
    cases hb : kitB t b with
    | none => rw [hb] at h; cases h
    | some k =>
      rw [hb] at h
      cases k with
      | true =>
        cases h
        exact kitAny_cons (kit_ty hb) (fun z => nomatch z) fun _ => rfl
      | false =>
        exact kitAny_cons (kit_ty hb) (fun _ => kitAnyB_v h) fun z => nomatch z
def fIsiT (bs : List String) : D → Store → Res D := fun d S => match tyD S d with
  | some t => match kitAnyB t bs with
    | some b => .ok (.bl b) S
    | none => .bad
  | none => .bad
theorem tys_paired : ∀ bs : List String, Paired ClsV (bs.map V.ty) (bs.map Value.type)
  | [] => .nil
  | b :: bs => .cons (.ty b) (tys_paired bs)
/-- a tuple of built-in classes -/
structure TyTup (X : Cx) (e : Expr) (bs : List String) : Prop where
  ex : ∃ t, PE X e t ∧ ∀ σ H Q, (∀ p, H p = none → Q (V.ref p) (upd H p (.tup (bs.map V.ty)))) → t σ H Q
theorem tyTup2 {a b : Str} {A B : String} {pa pb pt : Pos} {kk : Nat} (ga : Gl X a) (ma : X.mg a = none) (va : bootBuiltins a = some (.type A)) (gb : Gl X b) (mb : X.mg b = none) (vb : bootBuiltins b = some (.type B)) (na : a ≠ "__name__" := by decide) (nb : b ≠ "__name__" := by decide) (da : (a == ("__debug__" : Str)) = false := by decide) (db : (b == ("__debug__" : Str)) = false := by decide)
    (h1 : starEach [.Name a pa, .Name b pb] X.env = (false, eval (.Name a pa) X.env) :: starEach [.Name b pb] X.env := by rfl) (h2 : starEach [.Name b pb] X.env = (false, eval (.Name b pb) X.env) :: starEach [] X.env := by rfl) : TyTup X (.Tuple [.Name a pa, .Name b pb] kk pt) [A, B] :=
  ⟨_, pe_tup (pa_cons (pe_bltn (v := .ty A) ga ma va rfl na da) (pa_cons (pe_bltn (v := .ty B) gb mb vb rfl nb db) pa_nil h2) h1), fun σ H Q q => ⟨show 2 ≤ sizeLine by decide, q⟩⟩
theorem me_isiT {bs : List String} {te : Expr} (Y : TyTup X te bs) (hg : Gl X "isinstance") (hm : X.mg "isinstance" = none) (h : ME T X E e me)
    (he : starEach [e, te] X.env = (false, eval e X.env) :: starEach [te] X.env := by rfl) (he2 : starEach [te] X.env = (false, eval te X.env) :: starEach [] X.env := by rfl) (hpl : (backTo pos (starEach [te] X.env)).any (·.1) = false := by rfl) :
    ME T X E (.Call (.Name "isinstance" p) [e, te] [] pos) (mUn (fIsiT bs) me) := by
  obtain ⟨t, pt, st⟩ := h
  obtain ⟨u, pu, su⟩ := Y.ex
  refine ⟨_, pe_callB call_isiT hg hm (by decide +kernel) (pa_cons pt (pa_cons pu pa_nil he2) he) (by decide) (by decide) he hpl, fun σ H ρ φ R S rs rn => ?_⟩
  refine Run.bnd (c' := fun (v : V) H1 (Q : VK) => u σ H1 fun y H2 => rIsiT X.K [v, y] H2 Q) (st σ H ρ φ R S rs rn) (fun d S1 φ1 v H1 e0 l1 rs1 r1 => ?_) fun Q q => q
  unfold fIsiT
  split
  · rename_i ty ht
    split
    · rename_i b hb
      intro Q hq _ _
      refine su σ H1 _ fun p hp => ?_
      have l := Le.new rs1 (o := .tup (bs.map V.ty)) hp
      have rs2 := rs1.new (o := .tup (bs.map V.ty)) hp
      refine ⟨v, p, bs.map V.ty, .type ty, bs.map Value.type, b, rfl, upd_same, ?_, tyD_x rs2 (Rv.le l r1) ht, kitAnyB_v hb, hq (.bl b) S1 φ1 (.bl b) _ rfl l rs2 Rv.bl⟩
      exact tys_paired bs
    · exact Run.bad
  · exact Run.bad
end
end MM

/-! Targets that take a tuple or a list apart. -/
namespace MM
open PySem PySem.Spec L2 PyProof.Rows
def gTpA (n : Nat) (gs : MGs0) : MG0 := fun d ρ S => match seqOf S d with
  | some ds => if ds.length = n then gs ds ρ S else .bad
  | none => .bad
theorem PG.or {X : Cx} {tg : Expr} {t1 t2 : TG} (h1 : PG X tg t1) (h2 : PG X tg t2) : PG X tg (fun v σ H Q => t1 v σ H Q ∨ t2 v σ H Q) := ⟨fun pins s σ H v u Q I r h => h.elim (h1.run pins s σ H v u Q I r) (h2.run pins s σ H v u Q I r)⟩
section
variable {T : List Addr} {X : Cx} {E : XK} {pos : Pos} {vs : List Nat}
theorem SndG.seq {n : Nat} {t : TGs} {gs : MGs0} (s : SndGs (X.gd T) E t gs) : SndG (X.gd T) E (fun v σ H Q => gTup X.K n t v σ H Q ∨ gLst X.K n t v σ H Q) (gTpA n gs) := by
  intro d v σ H ρ φ R S rs rn r
  unfold gTpA
  split
  · rename_i ds hds
    obtain ⟨a, us, rfl, h1, h2⟩ := seq_of rs r hds
    by_cases hl : ds.length = n
    · rw [if_pos hl]
      have hu : us.length = n := by rw [← RvL.length h2]; exact hl
      refine Run.conv (s ds us σ H ρ φ R S rs rn h2) fun Q q => ?_
      rcases h1 with h1 | h1
      · exact .inr ⟨a, us, rfl, h1, hu, q⟩
      · exact .inl ⟨a, us, rfl, h1, hu, q⟩
    · rw [if_neg hl]
      exact Run.bad
  · exact Run.bad
theorem mg_tupA {es : List Expr} {k n : Nat} {gs : MGs0} (hc : X.calm = true) (h : MGs T X E es gs) (hn : (assignEach es X.env).length = n := by rfl) (hst : (assignEach es X.env).findIdx? (·.1) = none := by rfl) : MG T X E (.Tuple es k pos) (gTpA n gs) := by
  obtain ⟨t, pt, s⟩ := h
  exact ⟨_, PG.or (pg_tup hc pt hn hst) (pg_lst hc pt hn hst), SndG.seq s⟩
theorem wipes_seq {K : PySem.W.Frag} {n : Nat} {t : TGs} {vs : List Nat} (h : WipesGs t vs) : WipesG (fun v σ H Q => gTup K n t v σ H Q ∨ gLst K n t v σ H Q) vs := fun v σ H Q Q' hq q => by
  rcases q with q | q
  · obtain ⟨a, xs, e, h1, h2, q⟩ := q
    exact .inl ⟨a, xs, e, h1, h2, h xs σ H _ _ hq q⟩
  · obtain ⟨a, xs, e, h1, h2, q⟩ := q
    exact .inr ⟨a, xs, e, h1, h2, h xs σ H _ _ hq q⟩
theorem mgc_tupA {K : PySem.W.Frag} {es : List Expr} {k n : Nat} {t : TGs} {gs : MGs0} (hK : K = X.K) (hc : X.calm = true) (h : MGcs T X E es vs t gs) (hn : (assignEach es X.env).length = n := by rfl) (hst : (assignEach es X.env).findIdx? (·.1) = none := by rfl) : MGc T X E (.Tuple es k pos) vs (fun v σ H Q => gTup K n t v σ H Q ∨ gLst K n t v σ H Q) (gTpA n gs) := by
  subst hK
  exact ⟨PG.or (pg_tup hc h.pg hn hst) (pg_lst hc h.pg hn hst), SndG.seq h.snd, wipes_seq h.wip⟩
end
/-! a, b = x, y -/
def sPar (i j : Nat) (ma : MA0) : MS0 := fun ρ S => (ma ρ S).bind fun ds S1 => match ds with
  | [x, y] => .ok (.nx, (ρ.set i (some x)).set j (some y)) S1
  | _ => .bad
def sPar3 (i j l : Nat) (ma : MA0) : MS0 := fun ρ S => (ma ρ S).bind fun ds S1 => match ds with
  | [x, y, z] => .ok (.nx, ((ρ.set i (some x)).set j (some y)).set l (some z)) S1
  | _ => .bad
section
variable {T : List Addr} {X : Cx} {E : XK} {a b c : Expr} {px py pz pt pos : Pos} {ma : MA0}
theorem ms_par {i j : Nat} {x y : Str} {kt k2 pt2} (hc : X.calm = true) (hN : X.N.Nodup) (hi : X.N[i]? = some x) (hj : X.N[j]? = some y) (hij : i ≠ j)
    (hx : X.env.scope.names.lookup x = some .local) (hy : X.env.scope.names.lookup y = some .local) (ha : MAn T X E [a, b] ma)
    (hw : swappedStores [.Tuple [.Name x px, .Name y py] kt pt] (.Tuple [a, b] k2 pt2) X.env = pure (some [x, y]))
    (hs : swapsWithSole [.Tuple [.Name x px, .Name y py] kt pt] (.Tuple [a, b] k2 pt2) pos.line X.env = pure false := by rfl) :
    MS T X E (.Assign [.Tuple [.Name x px, .Name y py] kt pt] (.Tuple [a, b] k2 pt2) pos) (sPar i j ma) := by
  obtain ⟨⟨t, pt', s⟩, _⟩ := ha
  refine ⟨_, ps_par hc hN hi hj hij hx hy pt' hw hs, fun σ H ρ φ R S rs rn => ?_⟩
  refine Run.bnd (c' := fun (vs : List V) H1 (Q : Out → Hp → Prop) => ∃ v w, vs = [v, w] ∧ Q (.nx ((σ.set i (some v)).set j (some w))) H1) (s σ H ρ φ R S rs rn) (fun ds S1 φ1 vs H1 _ l1 rs1 r1 => ?_) fun Q q => q
  split
  · rename_i d1 d2
    unfold RvL at r1
    obtain ⟨v, r, rfl, h1, r1⟩ := r1
    unfold RvL at r1
    obtain ⟨w, r, rfl, h2, r1⟩ := r1
    unfold RvL at r1
    subst r1
    exact Run.ret (v := Out.nx ((σ.set i (some v)).set j (some w))) rs1 (show Rn _ _ _ _ _ _ from ((rn.le l1).set h1).set h2) fun Q q => ⟨v, w, rfl, q⟩
  · exact Run.bad
theorem ms_par3 {i j l : Nat} {x y z : Str} {kt k2 pt2} (hc : X.calm = true) (hN : X.N.Nodup) (hi : X.N[i]? = some x) (hj : X.N[j]? = some y) (hl : X.N[l]? = some z) (hij : i ≠ j) (hil : i ≠ l) (hjl : j ≠ l)
    (hx : X.env.scope.names.lookup x = some .local) (hy : X.env.scope.names.lookup y = some .local) (hz : X.env.scope.names.lookup z = some .local) (ha : MAn T X E [a, b, c] ma)
    (hw : swappedStores [.Tuple [.Name x px, .Name y py, .Name z pz] kt pt] (.Tuple [a, b, c] k2 pt2) X.env = pure (some [x, y, z]))
    (hs : swapsWithSole [.Tuple [.Name x px, .Name y py, .Name z pz] kt pt] (.Tuple [a, b, c] k2 pt2) pos.line X.env = pure false := by rfl) :
    MS T X E (.Assign [.Tuple [.Name x px, .Name y py, .Name z pz] kt pt] (.Tuple [a, b, c] k2 pt2) pos) (sPar3 i j l ma) := by
  obtain ⟨⟨t, pt', s⟩, _⟩ := ha
  refine ⟨_, ps_par3 hc hN hi hj hl hij hil hjl hx hy hz pt' hw hs, fun σ H ρ φ R S rs rn => ?_⟩
  refine Run.bnd (c' := fun (vs : List V) H1 (Q : Out → Hp → Prop) => ∃ u v w, vs = [u, v, w] ∧ Q (.nx (((σ.set i (some u)).set j (some v)).set l (some w))) H1) (s σ H ρ φ R S rs rn) (fun ds S1 φ1 vs H1 _ l1 rs1 r1 => ?_) fun Q q => q
  split
  · rename_i d1 d2 d3
    unfold RvL at r1
    obtain ⟨u, r, rfl, h0, r1⟩ := r1
    unfold RvL at r1
    obtain ⟨v, r, rfl, h1, r1⟩ := r1
    unfold RvL at r1
    obtain ⟨w, r, rfl, h2, r1⟩ := r1
    unfold RvL at r1
    subst r1
    exact Run.ret (v := Out.nx (((σ.set i (some u)).set j (some v)).set l (some w))) rs1 (show Rn _ _ _ _ _ _ from (((rn.le l1).set h0).set h1).set h2) fun Q q => ⟨u, v, w, rfl, q⟩
  · exact Run.bad
end
end MM

/-! enumerate of all that is like a list. -/
namespace MM
open PySem PySem.Spec L2 PyProof.Rows
/-- a list of the store, as it stands at each turn -/
def itSE (n : Nat) : ItD := ⟨fun i S => (lstAt S n).map fun ds => ds[i]?.map fun d => .tup [.int i, d]⟩
def miE2 (mr : MA0) : MI0 := fun ρ S => (mr ρ S).bind fun ds S1 => match ds with
  | [.tup xs] => .ok (itE xs) S1
  | [.lst xs] => .ok (itE xs) S1
  | [.frz xs] => .ok (itE xs) S1
  | [.ref n] => match lstAt S1 n with
    | some _ => .ok (itSE n) S1
    | none => .bad
  | _ => .bad
section
variable {T : List Addr} {X : Cx} {E : XK} {e : Expr} {elts : List Expr} {kk : Nat} {tpos p pos : Pos} {mr : MA0}
theorem relI_storeE {G : Gd} {R φ : List Addr} {H : Hp} {n : Nat} {a : Addr} (h : φ[n]? = some a) : RelI G R φ H (itSE n) (Ite G.K a) := by
  intro R' hR i φ1 S1 H1 l rs
  have ha : φ1[n]? = some a := by
    obtain ⟨r, er⟩ := l.pre
    rw [er, List.getElem?_append_left (List.getElem?_eq_some_iff.mp h).1]
    exact h
  have key : ∀ o, (itSE n).get i S1 = some o → ∃ ds vs, S1[n]? = some (.lst ds) ∧ ds[i]?.map (fun d => D.tup [.int i, d]) = o ∧ H1 a = some (.lst vs) ∧ RvL G R' φ1 H1 ds vs := fun o e => by
    obtain ⟨ds, e1, e2⟩ := Option.map_eq_some_iff.mp (show (lstAt S1 n).map (fun ds => ds[i]?.map fun d => D.tup [.int i, d]) = some o from e)
    obtain ⟨vs, h1, h2⟩ := (rs.obj n _ a (lstAt_of e1) ha).ofL
    exact ⟨ds, vs, lstAt_of e1, e2, h1, h2⟩
  refine ⟨fun e => ?_, fun d e => ?_⟩
  · obtain ⟨ds, vs, _, e2, h1, h2⟩ := key _ e
    refine ⟨vs, .inl (.inl h1), ?_⟩
    rw [← RvL.length h2]
    exact List.getElem?_eq_none_iff.mp (Option.map_eq_none_iff.mp e2)
  · obtain ⟨ds, vs, _, e2, h1, h2⟩ := key _ e
    obtain ⟨d0, e3, rfl⟩ := Option.map_eq_some_iff.mp e2
    obtain ⟨v, e4, e5⟩ := RvL.get h2 e3
    refine ⟨⟨vs, v, .inl (.inl h1), e4⟩, fun x H' hy => ?_⟩
    obtain ⟨Ta, y, rfl, hT, rfl, e6⟩ := hy
    have e7 := e6 vs (.inl (.inl h1))
    rw [e4] at e7
    cases e7
    have ln := Le.new rs (o := .tup [.int (i : Nat), v]) hT
    exact ⟨ln, rs.new hT, Rv.tup upd_same (RvL.cons Rv.int (RvL.cons (Rv.le ln e5) RvL.nil))⟩
theorem mi_enum2 (hg : Gl X "enumerate") (hm : X.mg "enumerate" = none) (ha : MAn T X E [e] mr) (hs : starEach [e] X.env = [(false, eval e X.env)] := by rfl) :
    MI T X E (.Tuple elts kk tpos) (.Call (.Name "enumerate" p) [e] [] pos) (miE2 mr) := by
  obtain ⟨⟨t, pt, s⟩, _⟩ := ha
  refine ⟨_, pi_enumA hg hm pt hs, fun σ H ρ φ R S rs rn => Run.bnd (c' := fun (vs : List V) H1 Q => ∃ a, vs = [V.ref a] ∧ ((∃ xs, SqL X.K H1 a xs ∧ Q (Ite X.K a) H1) ∨ (∃ xs, SqT X.K H1 a xs ∧ Q (IteT X.K a) H1))) (s σ H ρ φ R S rs rn) (fun ds S1 φ1 vs H1 e0 l1 rs1 r1 => ?_) fun Q q => q⟩
  have viaL : ∀ {xs : List D} {us : List V} {a : Addr}, RvL (X.gd T) R φ1 H1 xs us → vs = [V.ref a] → (∀ φ' H', Le φ1 H1 φ' H' → SqL X.K H' a us) → Run (X.gd T) E R φ1 H1 (RelI (X.gd T) R) (.ok (itE xs) S1) (fun Q => ∃ a, vs = [V.ref a] ∧ ((∃ xs, SqL X.K H1 a xs ∧ Q (Ite X.K a) H1) ∨ (∃ xs, SqT X.K H1 a xs ∧ Q (IteT X.K a) H1))) := fun {xs us a} h3 ev hq => by
    have rel : RelI (X.gd T) R φ1 H1 (itE xs) (Ite X.K a) := relI_pair h3 (fun i φ' H' l hl => ⟨us, hq φ' H' l, hl⟩) fun i φ' H' x l hx => ⟨⟨us, x, hq φ' H' l, hx⟩, fun v H2 hy => by
      obtain ⟨Ta, y, e1, e2, e3, e4⟩ := hy
      have e5 := e4 us (hq φ' H' l)
      rw [hx] at e5
      cases e5
      exact ⟨Ta, e1, e2, e3⟩⟩
    exact Run.ret (v := Ite X.K a) rs1 rel fun Q q => ⟨a, ev, .inl ⟨us, hq φ1 H1 Le.refl, q⟩⟩
  split
  · rename_i xs
    obtain ⟨v, rfl, h1⟩ := RvL.one_of r1
    obtain ⟨a, us, rfl, h2, h3⟩ := Rv.tup_at h1
    have rel : RelI (X.gd T) R φ1 H1 (itE xs) (IteT X.K a) := relI_pair h3 (fun i φ' H' l hl => ⟨us, SqT.le (G := X.gd T) l h2, hl⟩) fun i φ' H' x l hx => ⟨⟨us, x, SqT.le (G := X.gd T) l h2, hx⟩, fun v H2 hy => by
      obtain ⟨Ta, y, e1, e2, e3, e4⟩ := hy
      have e5 := e4 us (SqT.le (G := X.gd T) l h2)
      rw [hx] at e5
      cases e5
      exact ⟨Ta, e1, e2, e3⟩⟩
    exact Run.ret (v := IteT X.K a) rs1 rel fun Q q => ⟨a, rfl, .inr ⟨us, .inl (.inl h2), q⟩⟩
  · rename_i xs
    obtain ⟨v, rfl, h1⟩ := RvL.one_of r1
    obtain ⟨a, us, rfl, n1, n2, h2, h3⟩ := Rv.lst_of h1
    exact viaL h3 rfl fun φ' H' l => .inl (.inl (l.keep a _ h2 n1 (fun _ z => nomatch z)).1)
  · rename_i xs
    obtain ⟨v, rfl, h1⟩ := RvL.one_of r1
    obtain ⟨a, us, rfl, h2, h3⟩ := Rv.frz_of h1
    exact viaL h3 rfl fun φ' H' l => (Fz.le l h2).sq
  · rename_i n
    split
    · rename_i ds hds
      obtain ⟨v, rfl, h1⟩ := RvL.one_of r1
      obtain ⟨a, us, rfl, hai, h2, h3⟩ := rs1.lst h1 (lstAt_of hds)
      exact Run.ret (v := Ite X.K a) rs1 (relI_storeE hai) fun Q q => ⟨a, rfl, .inl ⟨us, .inl (.inl h2), q⟩⟩
    · exact Run.bad
  · exact Run.bad
end
end MM

/-! == of data that holds lists of the store. -/
namespace MM
open PySem PySem.Spec L2 PyProof.Rows
def optAll {α : Type} : List (Option α) → Option (List α)
  | [] => some []
  | o :: r => match o, optAll r with
    | some a, some as => some (a :: as)
    | _, _ => none
def toPyR (S : Store) : Nat → D → Option PyData
  | 0, _ => none
  | f + 1, d => match d with
    | .non => some .none
    | .bl b => some (.bool b)
    | .int i => some (.int i)
    | .str z => some (.str z)
    | .tup ds => (optAll (ds.map (toPyR S f))).map .tuple
    | .lst ds => (optAll (ds.map (toPyR S f))).map .list
    | .frz ds => (optAll (ds.map (toPyR S f))).map .list
    | .ref n => match lstAt S n with
      | some ds => (optAll (ds.map (toPyR S f))).map .list
      | none => none
section
variable {G : Gd} {E : XK} {R φ : List Addr} {S : Store} {H : Hp}
theorem optAll_dp {f : Nat} (h : ∀ {d : D} {v : V} {p : PyData}, Rv G R φ H d v → toPyR S f d = some p → Dp G.K H v p) : ∀ {ds : List D} {vs : List V} {ps : List PyData}, RvL G R φ H ds vs → optAll (ds.map (toPyR S f)) = some ps → DpAll G.K H vs ps
  | [], vs, ps, r, e => by
    unfold RvL at r
    cases e
    subst r
    exact .nil
  | d :: ds, vs, ps, r, e => by
    unfold RvL at r
    obtain ⟨v, r', rfl, h1, h2⟩ := r
    rw [List.map_cons] at e
    unfold optAll at e
    split at e
    · rename_i p ps' e1 e2
      cases e
      exact .cons (h h1 e1) (optAll_dp h h2 e2)
    · cases e
theorem toPyR_dp (r : Rs G R φ S H) : ∀ (f : Nat) {d : D} {v : V} {p : PyData}, Rv G R φ H d v → toPyR S f d = some p → Dp G.K H v p
  | 0, d, v, p, h, e => by cases e
  | f + 1, .non, v, p, h, e => by
    cases e
    rw [Rv.non_of h]
    exact .non
  | f + 1, .bl b, v, p, h, e => by
    cases e
    rw [Rv.bl_of h]
    exact .bl b
  | f + 1, .int i, v, p, h, e => by
    cases e
    rw [Rv.int_of h]
    exact .int i
  | f + 1, .str i, v, p, h, e => by
    cases e
    rw [Rv.str_of h]
    exact .str i
  | f + 1, .tup ds, v, p, h, e => by
    obtain ⟨ps, e1, e2⟩ := Option.map_eq_some_iff.mp e
    obtain ⟨a, vs, rfl, h1, h2⟩ := Rv.tup_of h
    subst e2
    exact .tup h1 (optAll_dp (toPyR_dp r f) h2 e1)
  | f + 1, .lst ds, v, p, h, e => by
    obtain ⟨ps, e1, e2⟩ := Option.map_eq_some_iff.mp e
    obtain ⟨a, vs, rfl, _, _, h1, h2⟩ := Rv.lst_of h
    subst e2
    exact .lst (.inl (.inl h1)) (optAll_dp (toPyR_dp r f) h2 e1)
  | f + 1, .frz ds, v, p, h, e => by
    obtain ⟨ps, e1, e2⟩ := Option.map_eq_some_iff.mp e
    obtain ⟨a, vs, rfl, h1, h2⟩ := Rv.frz_of h
    subst e2
    exact .lst h1.sq (optAll_dp (toPyR_dp r f) h2 e1)
  | f + 1, .ref n, v, p, h, e => by
    change (match lstAt S n with
      | some ds => (optAll (ds.map (toPyR S f))).map PyData.list
      | none => none) = some p at e
    cases hl : lstAt S n with
    | none => rw [hl] at e; cases e
    | some ds =>
      rw [hl] at e
      obtain ⟨ps, e1, e2⟩ := Option.map_eq_some_iff.mp e
      obtain ⟨a, vs, rfl, _, h1, h2⟩ := r.lst h (lstAt_of hl)
      subst e2
      exact .lst (.inl (.inl h1)) (optAll_dp (toPyR_dp r f) h2 e1)
end
def eqResR (S : Store) (neg : Bool) (x y : D) : Option Bool := match toPyR S 70 x, toPyR S 70 y with
  | some p, some q => if SeqAt.shaped p = true ∧ SeqAt.shaped q = true then some (if neg then !PyData.eqv p q else PyData.eqv p q) else none
  | _, _ => none
def fEq2 (neg : Bool) : D → D → Store → Res D := fun x y S => match eqRes S neg x y with
  | some b => .ok (.bl b) S
  | none => match eqResR S neg x y with
    | some b => .ok (.bl b) S
    | none => .bad
section
variable {G : Gd} {E : XK}
theorem o_eq2 : Op2 G E (rEqD G.K) (fEq2 false) := by
  intro R φ S H d e x y rs rd re
  unfold fEq2
  split
  · rename_i b hb
    have := o_eq (E := E) R φ S H d e x y rs rd re
    unfold fEq at this
    rw [hb] at this
    exact this
  · unfold eqResR
    split
    · rename_i b hb
      split at hb
      · rename_i p q e1 e2
        split at hb
        · rename_i hs
          cases hb
          exact Run.ret rs Rv.bl fun Q q' => ⟨p, q, toPyR_dp rs 70 rd e1, toPyR_dp rs 70 re e2, hs.1, hs.2, q'⟩
        · cases hb
      · cases hb
    · exact Run.bad
theorem o_ne2 : Op2 G E (rNeD G.K) (fEq2 true) := by
  intro R φ S H d e x y rs rd re
  unfold fEq2
  split
  · rename_i b hb
    have := o_ne (E := E) R φ S H d e x y rs rd re
    unfold fEq at this
    rw [hb] at this
    exact this
  · unfold eqResR
    split
    · rename_i b hb
      split at hb
      · rename_i p q e1 e2
        split at hb
        · rename_i hs
          cases hb
          exact Run.ret rs Rv.bl fun Q q' => ⟨p, q, toPyR_dp rs 70 rd e1, toPyR_dp rs 70 re e2, hs.1, hs.2, q'⟩
        · cases hb
      · cases hb
    · exact Run.bad
end
end MM

/-! tuple(range(..)), list(range(..)). -/
namespace MM
open PySem PySem.Spec L2 PyProof.Rows
abbrev MRg0 := Rho → Store → Res (Int × Int)
def mRg1 (me : ME0) : MRg0 := fun ρ S => (me ρ S).bind fun d S1 => match d with
  | .int i => .ok (0, i) S1
  | _ => .bad
def mRg2 (ma mb : ME0) : MRg0 := fun ρ S => (ma ρ S).bind fun d S1 => (mb ρ S1).bind fun e S2 => match d, e with
  | .int i, .int j => .ok (i, j) S2
  | _, _ => .bad
/-- the ints i .. j - 1 -/
def rgD (i j : Int) : List D := (List.range (j - i).toNat).map fun (k : Nat) => .int (i + k)
def RgB (i j : Int) : Bool := decide (-(2 ^ 62) ≤ i ∧ i < 2 ^ 62 ∧ -(2 ^ 62) ≤ j ∧ j < 2 ^ 62 ∧ (j - i).toNat ≤ 2 ^ 24)
def mRgT (m : MRg0) : ME0 := fun ρ S => (m ρ S).bind fun x S1 => if RgB x.1 x.2 = true then .ok (.tup (rgD x.1 x.2)) S1 else .bad
def mRgL (m : MRg0) : ME0 := fun ρ S => (m ρ S).bind fun x S1 => if RgB x.1 x.2 = true then .ok (.lst (rgD x.1 x.2)) S1 else .bad
def mRgS (m : MRg0) : ME0 := fun ρ S => (m ρ S).bind fun x S1 => if RgB x.1 x.2 = true then .ok (.ref S1.length) (S1 ++ [.lst (rgD x.1 x.2)]) else .bad
def SndRg (G : Gd) (E : XK) (t : L2.St → Hp → (Int → Int → Hp → Prop) → Prop) (m : MRg0) : Prop := ∀ σ H ρ φ R S, Rs G R φ S H → Rn G R φ H ρ σ → Run G E R φ H (fun _ _ (x y : Int × Int) => x = y) (m ρ S) (fun (Q : Int × Int → Hp → Prop) => t σ H fun a b H' => Q (a, b) H')
def MRg (T : List Addr) (X : Cx) (E : XK) (e : Expr) (m : MRg0) : Prop := ∃ t : L2.St → Hp → (Int → Int → Hp → Prop) → Prop, PRg X e t ∧ SndRg (X.gd T) E t m
section
variable {G : Gd} {R φ : List Addr} {S : Store} {H : Hp}
theorem RvL.rg (i j : Int) : RvL G R φ H (rgD i j) (rgV i j) := by
  unfold rgD rgV
  generalize List.range (j - i).toNat = l
  induction l with
  | nil => exact RvL.nil
  | cons k l ih => exact RvL.cons Rv.int ih
theorem RgB.ok {i j : Int} (h : RgB i j = true) : RgOk i j := by
  unfold RgB at h
  have z := of_decide_eq_true h
  exact z
end
section
variable {T : List Addr} {X : Cx} {E : XK} {e a b : Expr} {me ma mb : ME0} {m : MRg0} {p pos : Pos}
theorem mrg_1 (hg : Gl X "range") (hm : X.mg "range" = none) (ha : ME T X E a ma) (na : starEach [a] X.env = (false, eval a X.env) :: starEach [] X.env := by rfl) : MRg T X E (.Call (.Name "range" p) [a] [] pos) (mRg1 ma) := by
  obtain ⟨t, pt, s⟩ := ha
  refine ⟨_, prg_1 hg hm pt na, fun σ H ρ φ R S rs rn => ?_⟩
  refine Run.bnd (c' := fun (x : V) H1 (Q : Int × Int → Hp → Prop) => ∃ n, x = .int n ∧ Q (0, n) H1) (s σ H ρ φ R S rs rn) (fun d S1 φ1 x H1 _ l1 rs1 r1 => ?_) fun Q q => q
  cases d with
  | int i => exact Run.ret (v := ((0 : Int), i)) rs1 rfl fun Q q => ⟨i, Rv.int_of r1, q⟩
  | _ => exact Run.bad
theorem mrg_2 (hg : Gl X "range") (hm : X.mg "range" = none) (ha : ME T X E a ma) (hb : ME T X E b mb) (na : starEach [a, b] X.env = (false, eval a X.env) :: starEach [b] X.env := by rfl)
    (nb : starEach [b] X.env = (false, eval b X.env) :: starEach [] X.env := by rfl) (hp : (backTo pos (starEach [b] X.env)).any (·.1) = false := by rfl) : MRg T X E (.Call (.Name "range" p) [a, b] [] pos) (mRg2 ma mb) := by
  obtain ⟨t, pt, s⟩ := ha
  obtain ⟨u, pu, s2⟩ := hb
  refine ⟨_, prg_2 hg hm pt pu na nb hp, fun σ H ρ φ R S rs rn => ?_⟩
  refine Run.bnd (c' := fun (x : V) H1 (Q : Int × Int → Hp → Prop) => u σ H1 fun y H2 => ∃ i j, x = .int i ∧ y = .int j ∧ Q (i, j) H2) (s σ H ρ φ R S rs rn) (fun d S1 φ1 x H1 _ l1 rs1 r1 => ?_) fun Q q => q
  refine Run.bnd (c' := fun (y : V) H2 (Q : Int × Int → Hp → Prop) => ∃ i j, x = .int i ∧ y = .int j ∧ Q (i, j) H2) (s2 σ H1 ρ φ1 R S1 rs1 (rn.le l1)) (fun d2 S2 φ2 y H2 _ l2 rs2 r2 => ?_) fun Q q => q
  cases d with
  | int i =>
    cases d2 with
    | int j => exact Run.ret (v := (i, j)) rs2 rfl fun Q q => ⟨i, j, Rv.int_of r1, Rv.int_of r2, q⟩
    | _ => exact Run.bad
  | _ => exact Run.bad
theorem me_tupRg (hc : X.calm = true) (hg : Gl X "tuple") (hm : X.mg "tuple" = none) (he : MRg T X E e m) (na : starEach [e] X.env = (false, eval e X.env) :: starEach [] X.env := by rfl) : ME T X E (.Call (.Name "tuple" p) [e] [] pos) (mRgT m) := by
  obtain ⟨t, pt, s⟩ := he
  refine ⟨_, pe_tupRg hc hg hm pt na, fun σ H ρ φ R S rs rn => ?_⟩
  refine Run.bnd (c' := fun (x : Int × Int) H1 (Q : VK) => RgOk x.1 x.2 ∧ ∀ q, H1 q = none → Q (.ref q) (upd H1 q (.tup (rgV x.1 x.2)))) (s σ H ρ φ R S rs rn) (fun d S1 φ1 x H1 _ l1 rs1 r1 => ?_) fun Q q => q
  have e1 : d = x := r1
  subst e1
  split
  · rename_i hb
    exact Run.new (o := .tup (rgV d.1 d.2)) rs1 (fun p hp => Rv.tup upd_same (RvL.rg _ _)) fun Q q => ⟨RgB.ok hb, q⟩
  · exact Run.bad
theorem me_listRg (hc : X.calm = true) (hg : Gl X "list") (hm : X.mg "list" = none) (he : MRg T X E e m) (na : starEach [e] X.env = (false, eval e X.env) :: starEach [] X.env := by rfl) : ME T X E (.Call (.Name "list" p) [e] [] pos) (mRgL m) := by
  obtain ⟨t, pt, s⟩ := he
  refine ⟨_, pe_listRg hc hg hm pt na, fun σ H ρ φ R S rs rn => ?_⟩
  refine Run.bnd (c' := fun (x : Int × Int) H1 (Q : VK) => RgOk x.1 x.2 ∧ ∀ q, H1 q = none → Q (.ref q) (upd H1 q (.lst (rgV x.1 x.2)))) (s σ H ρ φ R S rs rn) (fun d S1 φ1 x H1 _ l1 rs1 r1 => ?_) fun Q q => q
  have e1 : d = x := r1
  subst e1
  split
  · rename_i hb
    exact Run.new (o := .lst (rgV d.1 d.2)) rs1 (fun p hp => Rv.lst (rs1.fresh hp).1 (rs1.fresh hp).2 upd_same (RvL.rg _ _)) fun Q q => ⟨RgB.ok hb, q⟩
  · exact Run.bad
theorem me_listRgS (hc : X.calm = true) (hg : Gl X "list") (hm : X.mg "list" = none) (he : MRg T X E e m) (na : starEach [e] X.env = (false, eval e X.env) :: starEach [] X.env := by rfl) : ME T X E (.Call (.Name "list" p) [e] [] pos) (mRgS m) := by
  obtain ⟨t, pt, s⟩ := he
  refine ⟨_, pe_listRg hc hg hm pt na, fun σ H ρ φ R S rs rn => ?_⟩
  refine Run.bnd (c' := fun (x : Int × Int) H1 (Q : VK) => RgOk x.1 x.2 ∧ ∀ q, H1 q = none → Q (.ref q) (upd H1 q (.lst (rgV x.1 x.2)))) (s σ H ρ φ R S rs rn) (fun d S1 φ1 x H1 _ l1 rs1 r1 => ?_) fun Q q => q
  have e1 : d = x := r1
  subst e1
  split
  · rename_i hb
    exact Run.alloc (o := .lst (rgV d.1 d.2)) (o' := .lst (rgD d.1 d.2)) rs1 (fun p hp => Ro.mkL upd_same (RvL.rg _ _)) fun Q q => ⟨RgB.ok hb, q⟩
  · exact Run.bad
end
end MM

/-! len(set(x)), x a tuple or a list of ints. -/
namespace MM
open PySem PySem.Spec L2 PyProof.Rows
/-- each once, as they are met -/
def dstn (ns : List Int) : List Int := ns.foldl step_dedup []
theorem dedup_mem (l : List Int) (x k : Int) : k ∈ step_dedup l x ↔ k ∈ l ∨ k = x := by
  show k ∈ (if l.any (· == x) then l else l ++ [x]) ↔ _
  cases h : l.any (· == x) with
  | true =>
    obtain ⟨y, hy, e⟩ := List.any_eq_true.mp h
    have e' : y = x := eq_of_beq e
    subst e'
    simp only [if_true]
    exact ⟨.inl, fun z => z.elim id fun e => by rw [e]; exact hy⟩
  | false =>
    simp only [Bool.false_eq_true, if_false, List.mem_append, List.mem_singleton]
theorem dedup_nodup {l : List Int} (x : Int) (h : l.Nodup) : (step_dedup l x).Nodup := by
  show (if l.any (· == x) then l else l ++ [x]).Nodup
  cases h2 : l.any (· == x) with
  | true => simpa using h
  | false =>
    simp only [Bool.false_eq_true, if_false]
    rw [List.nodup_append]
    refine ⟨h, by simp, fun a ha b hb e => ?_⟩
    rw [List.mem_singleton.mp hb] at e
    subst e
    have z : (l.any (· == a)) = true := List.any_eq_true.mpr ⟨a, ha, beq_self_eq_true a⟩
    rw [h2] at z
    cases z
theorem dedup_fold : ∀ (ns l : List Int), l.Nodup → (ns.foldl step_dedup l).Nodup ∧ ∀ k, k ∈ ns.foldl step_dedup l ↔ k ∈ l ∨ k ∈ ns
  | [], l, h => ⟨h, fun k => by simp⟩
  | n :: ns, l, h => by
    obtain ⟨h1, h2⟩ := dedup_fold ns (step_dedup l n) (dedup_nodup n h)
    refine ⟨h1, fun k => (h2 k).trans ?_⟩
    rw [dedup_mem, List.mem_cons]
    constructor
    · rintro ((q | q) | q)
      · exact .inl q
      · exact .inr (.inl q)
      · exact .inr (.inr q)
    · rintro (q | q | q)
      · exact .inl (.inl q)
      · exact .inl (.inr q)
      · exact .inr q
theorem dstn_nodup (ns : List Int) : (dstn ns).Nodup := (dedup_fold ns [] List.nodup_nil).1
theorem dstn_mem (ns : List Int) (k : Int) : k ∈ dstn ns ↔ k ∈ ns := ((dedup_fold ns [] List.nodup_nil).2 k).trans (by simp)
theorem dstn_len {ns l : List Int} (h : l.Nodup) (m : ∀ k, k ∈ l ↔ k ∈ ns) : l.length = (dstn ns).length :=
  List.Perm.length_eq ((List.perm_ext_iff_of_nodup h (dstn_nodup ns)).mpr fun k => (m k).trans (dstn_mem ns k).symm)
theorem firstMet_dstn (ns : List Int) : firstMet (fun i => ns.getD i 0) ns.length = dstn ns := by
  unfold firstMet dstn
  congr 1
  apply List.ext_getElem
  · simp
  · intro i h1 h2
    simp [List.getD_eq_getElem?_getD, List.getElem?_eq_getElem h2]
def tLenSetA (K : PySem.W.Frag) (ta : TE) : TE := fun σ H Q => ta σ H fun x H1 => ∃ (l : Addr) (ns : List Int), x = .ref l ∧ (SqL K H1 l (ns.map V.int) ∨ SqT K H1 l (ns.map V.int)) ∧ ns.length ≤ 4000 ∧ Q (.int (dstn ns).length) H1
theorem vals_ints : ∀ {ns : List Int} {us : List Value}, Vals (ns.map V.int) us → IntsAre us ns
  | [], _, .nil => .nil
  | n :: ns, _, .cons r t => by
    obtain ⟨k, rfl⟩ := r
    exact .cons n k (vals_ints t)
theorem pe_lenSetA {X : Cx} {a : Expr} {ta : TE} {p p2 q pos : Pos} (hc : X.calm = true) (hg : Gl X "len") (hm : X.mg "len" = none) (hg2 : Gl X "set") (hm2 : X.mg "set" = none) (ha : PE X a ta)
    (na : starEach [a] X.env = (false, eval a X.env) :: starEach [] X.env := by rfl) : PE X (.Call (.Name "len" p) [.Call (.Name "set" p2) [a] [] q] [] pos) (tLenSetA X.K ta) := by
  refine ⟨fun pins s σ H Q I h => ?_⟩
  refine Call_ (ld_blt I hg hm boot_len ?_)
  refine PyProof.Rows.callWith_builtin1 (PyProof.Rows.args_cons ?_ rfl) rfl rfl
  refine Call_ (ld_blt I hg2 hm2 boot_set ?_)
  refine PyProof.Rows.callWith_type1 (PyProof.Rows.args_cons (thn (ha.run pins s σ H _ I h) fun v s1 ⟨x, H1, I1, r1, q1⟩ => PyProof.Rows.args_nil ?_) na) na rfl
  obtain ⟨l, ns, rfl, hq, hl, q1⟩ := q1
  cases r1
  rcases hq with hq | hq
  · obtain ⟨its, r, pl, hz⟩ := I1.list hq
    have hlen : its.toArray.size = ns.length := by rw [List.size_toArray, ← r.length, List.length_map]
    refine call_set_list (I1.ok.hd hc) pl.isList (by simpa using vals_ints r) (by rw [hlen]; unfold scanBound; omega) fun h' tk hS hk => ?_
    refine PyProof.Rows.args_nil ?_
    rw [hlen, firstMet_dstn] at hS
    obtain ⟨o, es, ep, t, ho, hex, hd, _, _, _, hf, hn⟩ := hS
    have I2 : Inv X pins σ H1 { s1 with heap := h', toks := tk } := I1.kept fun b o e => hk b o (Heap.lt_size e) e
    have hb : (dstn ns).length ≤ ns.length := by
      rw [← firstMet_dstn]
      exact firstMet_length_le _ _
    exact call_len_set ho hex hd hf (by rw [hn]; omega) ⟨.int (dstn ns).length, H1, I2.tok _, ⟨_, by rw [hn]⟩, q1⟩
  · obtain ⟨its, r, pl, hz⟩ := I1.tuple hq
    refine call_set_tupI ns (I1.ok.hd hc) pl (by simpa using vals_ints r) (by unfold scanBound; omega) fun h' tk c hS hcn hk => ?_
    refine PyProof.Rows.args_nil ?_
    obtain ⟨o, es, ep, t, ho, hex, hd, hgood, hnd, hmem, hsz, hf, hn, _, _⟩ := hS
    have I2 : Inv X pins σ H1 { s1 with heap := h', toks := tk } := I1.kept hk
    have e : es.size = (dstn ns).length := by
      have := dstn_len (l := es.toList.map L2.keyOf) hnd fun k => ((hmem k).symm.trans decide_eq_true_iff)
      rw [← this, List.length_map, Array.length_toList]
    exact call_len_set ho hex hd hf (by rw [hn]; omega) ⟨.int (dstn ns).length, H1, I2.tok _, ⟨_, by rw [e]⟩, q1⟩
def fLenSet : D → Store → Res D := fun d S => match seqOf S d with
  | some ds => match intsOf ds with
    | some ns => if ns.length ≤ 4000 then .ok (.int (dstn ns).length) S else .bad
    | none => .bad
  | none => .bad
theorem me_lenSet {T : List Addr} {X : Cx} {E : XK} {a : Expr} {ma : ME0} {p p2 q pos : Pos} (hc : X.calm = true) (hg : Gl X "len") (hm : X.mg "len" = none) (hg2 : Gl X "set") (hm2 : X.mg "set" = none) (ha : ME T X E a ma)
    (na : starEach [a] X.env = (false, eval a X.env) :: starEach [] X.env := by rfl) : ME T X E (.Call (.Name "len" p) [.Call (.Name "set" p2) [a] [] q] [] pos) (mUn fLenSet ma) := by
  obtain ⟨t, pt, s⟩ := ha
  refine ⟨_, pe_lenSetA hc hg hm hg2 hm2 pt na, fun σ H ρ φ R S rs rn => ?_⟩
  refine Run.bnd (c' := fun (x : V) H1 (Q : VK) => ∃ (l : Addr) (ns : List Int), x = .ref l ∧ (SqL X.K H1 l (ns.map V.int) ∨ SqT X.K H1 l (ns.map V.int)) ∧ ns.length ≤ 4000 ∧ Q (.int (dstn ns).length) H1) (s σ H ρ φ R S rs rn) (fun d S1 φ1 x H1 _ l1 rs1 r1 => ?_) fun Q q => q
  unfold fLenSet
  split
  · rename_i ds hds
    split
    · rename_i ns hns
      split
      · rename_i hl
        obtain ⟨a, vs, rfl, h1, h2⟩ := seq_of rs1 r1 hds
        have ev := ints_v h2 hns
        subst ev
        exact Run.ret rs1 Rv.int fun Q q => ⟨a, ns, rfl, h1, hl, q⟩
      · exact Run.bad
    · exact Run.bad
  · exact Run.bad
end MM

/-! xs[a:b] = ys. -/
namespace MM
open PySem PySem.Spec L2 PyProof.Rows
def gSlV (to ta tb : TE) : TG := fun v σ H Q => to σ H fun o H1 => ta σ H1 fun i H2 => tb σ H2 fun j H3 => ∃ (l b : Addr) (xs ys : List V) (a c : Int), o = .ref l ∧ i = .int a ∧ j = .int c ∧ v = .ref b ∧ H3 l = some (.lst xs) ∧ H3 b = some (.lst ys) ∧ l ≠ b ∧ 0 ≤ a ∧ a ≤ c ∧ c ≤ xs.length ∧ xs.length + ys.length ≤ sizeLine ∧
  Q σ (upd H3 l (.lst (xs.take a.toNat ++ ys ++ xs.drop c.toNat)))
theorem pg_sl {X : Cx} {o a b : Expr} {to ta tb : TE} {pos p2 : Pos} (ho : PE X o to) (ha : PE X a ta) (hb : PE X b tb)
    (hh : ∀ v, assign (.Subscript o (.Slice (some a) (some b) none p2) pos) X.env v = (do
      let ov ← holding [v] (eval o X.env)
      let iv ← holding [v, ov] (eval (.Slice (some a) (some b) none p2) X.env)
      standAt pos
      holding [v, ov, iv] (setItem ov iv v)
      release [iv, v, ov] []) := by intro _; rfl) : PG X (.Subscript o (.Slice (some a) (some b) none p2) pos) (gSlV to ta tb) := by
  refine ⟨fun pins s σ H v u Q I r h => ?_⟩
  rw [hh]
  refine wpAny_bind (wpAny_holding (thn (ho.run pins s σ H _ I h) fun ov s1 ⟨x, H1, I1, r1, q1⟩ => ?_))
  refine wpAny_bind (wpAny_holding (wpAny_Slice ?_))
  rw [evalPart_some]
  refine thn (ha.run pins s1 σ H1 _ I1 q1) fun vl s2 ⟨y, H2, I2, r2, q2⟩ => ?_
  rw [evalPart_some]
  refine thn (hb.run pins s2 σ H2 _ I2 q2) fun vu s3 ⟨z, H3, I3, r3, q3⟩ => ?_
  rw [evalPart_none]
  refine wpAny_pure ?_
  obtain ⟨l, b', xs, ys, i, c, rfl, rfl, rfl, rfl, hl, hb', hne, h0, hac, hc, hz, q⟩ := q3
  obtain rfl : ov = Value.ref l := r1
  obtain rfl : u = Value.ref b' := r
  have I4 : Inv X pins σ H3 { s3 with heap := s3.heap.push { cls := .type "slice", data := .fields #[vl, vu, .none] } } := I3.kept (t' := s3.toks) fun b ob q => Heap.get?_push_of_some _ q
  refine wpAny_bind (wpAny_standAt (wpAny_bind (wpAny_holding ?_)))
  refine set_slice I4 hl hb' hne (Heap.IsSliceOf.new ..) r2 r3 h0 hac hc hz fun s5 I5 => ?_
  exact wpAny_release ⟨σ, _, I5, q⟩
def gSl (mo ma mb : ME0) : MG0 := fun d ρ S => (mo ρ S).bind fun o S1 => (ma ρ S1).bind fun i S2 => (mb ρ S2).bind fun j S3 => match o, i, j, d with
  | .ref n, .int a, .int c, .lst es => match lstAt S3 n with
    | some ds => if 0 ≤ a ∧ a ≤ c ∧ c ≤ ds.length ∧ ds.length + es.length ≤ sizeLine then .ok ρ (S3.set n (.lst (ds.take a.toNat ++ es ++ ds.drop c.toNat))) else .bad
    | none => .bad
  | _, _, _, _ => .bad
section
variable {T : List Addr} {X : Cx} {E : XK} {o a b : Expr} {mo ma mb : ME0} {pos p2 : Pos}
theorem mg_sl (ho : ME T X E o mo) (ha : ME T X E a ma) (hb : ME T X E b mb)
    (hh : ∀ v, assign (.Subscript o (.Slice (some a) (some b) none p2) pos) X.env v = (do
      let ov ← holding [v] (eval o X.env)
      let iv ← holding [v, ov] (eval (.Slice (some a) (some b) none p2) X.env)
      standAt pos
      holding [v, ov, iv] (setItem ov iv v)
      release [iv, v, ov] []) := by intro _; rfl) : MG T X E (.Subscript o (.Slice (some a) (some b) none p2) pos) (gSl mo ma mb) := by
  obtain ⟨to, po, so⟩ := ho
  obtain ⟨ta, pa, sa⟩ := ha
  obtain ⟨tb, pb, sb⟩ := hb
  refine ⟨_, pg_sl po pa pb hh, fun d v σ H ρ φ R S rs rn r => ?_⟩
  refine Run.bnd (c' := fun (o : V) H1 (Q : L2.St → Hp → Prop) => ta σ H1 fun i H2 => tb σ H2 fun j H3 => ∃ (l b : Addr) (xs ys : List V) (a c : Int), o = .ref l ∧ i = .int a ∧ j = .int c ∧ v = .ref b ∧ H3 l = some (.lst xs) ∧ H3 b = some (.lst ys) ∧ l ≠ b ∧ 0 ≤ a ∧ a ≤ c ∧ c ≤ xs.length ∧ xs.length + ys.length ≤ sizeLine ∧
    Q σ (upd H3 l (.lst (xs.take a.toNat ++ ys ++ xs.drop c.toNat)))) (so σ H ρ φ R S rs rn) (fun o S1 φ1 ov H1 _ l1 rs1 r1 => ?_) fun Q q => q
  refine Run.bnd (c' := fun (i : V) H2 (Q : L2.St → Hp → Prop) => tb σ H2 fun j H3 => ∃ (l b : Addr) (xs ys : List V) (a c : Int), ov = .ref l ∧ i = .int a ∧ j = .int c ∧ v = .ref b ∧ H3 l = some (.lst xs) ∧ H3 b = some (.lst ys) ∧ l ≠ b ∧ 0 ≤ a ∧ a ≤ c ∧ c ≤ xs.length ∧ xs.length + ys.length ≤ sizeLine ∧
    Q σ (upd H3 l (.lst (xs.take a.toNat ++ ys ++ xs.drop c.toNat)))) (sa σ H1 ρ φ1 R S1 rs1 (rn.le l1)) (fun i S2 φ2 iv H2 _ l2 rs2 r2 => ?_) fun Q q => q
  refine Run.bnd (c' := fun (j : V) H3 (Q : L2.St → Hp → Prop) => ∃ (l b : Addr) (xs ys : List V) (a c : Int), ov = .ref l ∧ iv = .int a ∧ j = .int c ∧ v = .ref b ∧ H3 l = some (.lst xs) ∧ H3 b = some (.lst ys) ∧ l ≠ b ∧ 0 ≤ a ∧ a ≤ c ∧ c ≤ xs.length ∧ xs.length + ys.length ≤ sizeLine ∧
    Q σ (upd H3 l (.lst (xs.take a.toNat ++ ys ++ xs.drop c.toNat)))) (sb σ H2 ρ φ2 R S2 rs2 (rn.le (l1.trans l2))) (fun j S3 φ3 jv H3 _ l3 rs3 r3 => ?_) fun Q q => q
  have l13 := l1.trans (l2.trans l3)
  cases o with
  | ref n =>
    cases i with
    | int a' =>
      cases j with
      | int c' =>
        cases d with
        | lst es =>
          show Run (X.gd T) E R φ3 H3 _ (match lstAt S3 n with
            | some ds => if 0 ≤ a' ∧ a' ≤ c' ∧ c' ≤ ds.length ∧ ds.length + es.length ≤ sizeLine then .ok ρ (S3.set n (.lst (ds.take a'.toNat ++ es ++ ds.drop c'.toNat))) else .bad
            | none => .bad) _
          split
          · rename_i ds hds
            split
            · rename_i hk
              obtain ⟨k0, k1, k2, k3⟩ := hk
              obtain ⟨x, vs, rfl, ha, h1, h2⟩ := rs3.lst (Rv.le (l2.trans l3) r1) (lstAt_of hds)
              obtain ⟨y, us, rfl, n1, n2, h3, h4⟩ := Rv.lst_of (Rv.le l13 r)
              have hne : x ≠ y := fun z => n1 (by rw [← z]; exact List.mem_iff_getElem?.mpr ⟨n, ha⟩)
              have lw : Le φ3 H3 φ3 (upd H3 x (.lst (vs.take a'.toNat ++ us ++ vs.drop c'.toNat))) := Le.write rs3 ha
              have rw' := rs3.write (ho := .lst (vs.take a'.toNat ++ us ++ vs.drop c'.toNat)) (o := .lst (ds.take a'.toNat ++ es ++ ds.drop c'.toNat)) ha (Ro.mkL upd_same (RvL.append (RvL.append (RvL.take _ (RvL.le lw h2)) (RvL.le lw h4)) (RvL.drop _ (RvL.le lw h2))))
              intro Q hq _ _
              refine ⟨x, y, vs, us, a', c', rfl, Rv.int_of (Rv.le l3 r2), Rv.int_of r3, rfl, h1, h3, hne, k0, k1, by rw [← RvL.length h2]; exact k2, by rw [← RvL.length h2, ← RvL.length h4]; exact k3, ?_⟩
              exact hq ρ _ φ3 σ _ rfl lw rw' (rn.le (l13.trans lw))
            · exact Run.bad
          · exact Run.bad
        | _ => exact Run.bad
      | _ => exact Run.bad
    | _ => exact Run.bad
  | _ => exact Run.bad
end
end MM

/-! Dict comprehensions. -/
namespace MM
open PySem PySem.Spec L2 PyProof.Rows
def dcL (g : MG0) (mt : MT0) (mk mv : ME0) (n0 : Nat) : Nat → Nat → ItD → Rho → Store → Res Unit
  | 0, _, _, _, _ => .bad
  | f + 1, i, it, ρ, S => match it.get i S with
    | none => .bad
    | some none => .ok () S
    | some (some d) => (g d ρ S).calm.bind fun ρ1 S2 => (mt ρ1 S2).calm.bind fun b S3 =>
        if b = true then (mk ρ1 S3).calm.bind fun y S4 => (mv ρ1 S4).calm.bind fun z S5 => match keyOf y, S5[n0]? with
          | some k, some (.dct kvs) => if kvs.length < sizeLine then dcL g mt mk mv n0 f (i + 1) it ρ (S5.set n0 (.dct (aput kvs k z))) else .bad
          | _, _ => .bad
        else dcL g mt mk mv n0 f (i + 1) it ρ S3
def mDc (mi : MI0) (g : MG0) (mt : MT0) (mk mv : ME0) (vs : List Nat) : ME0 := fun ρ S => (mi ρ S).bind fun it S1 => (dcL g mt mk mv S1.length BIG 0 it (wipeD ρ vs) (S1 ++ [.dct []])).bind fun _ S2 => .ok (.ref S1.length) S2
section
variable {G : Gd} {E : XK} {R φ : List Addr} {S : Store} {H : Hp}
theorem Le.at {φ φ' : List Addr} {H H' : Hp} (l : Le φ H φ' H') {n : Nat} {a : Addr} (h : φ[n]? = some a) : φ'[n]? = some a := by
  obtain ⟨r, er⟩ := l.pre
  rw [er, List.getElem?_append_left (List.getElem?_eq_some_iff.mp h).1]
  exact h
theorem dc_run {t : TG} {tt : TT} {tk tv : TE} {g : MG0} {mt : MT0} {mk mv : ME0} {it : ItD} {J : It} {ρ : Rho} {σ : L2.St} {vs : List Nat} (rel : RelI G R φ H it J) (sg : SndG G E0 t g) (wg : WipesG t vs) (st : SndT G E0 tt mt) (sk : SndE G E0 tk mk) (sv : SndE G E0 tv mv) (rs : Rs G R φ S H) (rn : Rn G R φ H ρ σ) (Q : VK)
    (hq : ∀ S' φ' D H', dcL g mt mk mv S.length BIG 0 it (wipeD ρ vs) (S ++ [.dct []]) = .ok () S' → Le φ H φ' H' → Rs G R φ' S' H' → φ'[S.length]? = some D → Q (.ref D) H') (hb : dcL g mt mk mv S.length BIG 0 it (wipeD ρ vs) (S ++ [.dct []]) ≠ .bad) :
    ∀ D, H D = none → ∃ W : Nat → Nat → Hp → Prop, (∃ m, W 0 m (upd H D (.dK []))) ∧ ∀ i m H, W i m H →
      (J.stop i H ∧ Q (.ref D) H) ∨ (J.go i H ∧ ∃ Nx : Hp → Prop, (∀ H', Nx H' → ∃ m', m' < m ∧ W (i + 1) m' H') ∧ ∀ x H', J.yld i H x H' → t x (wipe σ vs) H' fun σ2 H2 => wipe σ2 vs = wipe σ vs ∧ tt σ2 H2 fun b H3 =>
        if b = true then tk σ2 H3 fun y H4 => tv σ2 H4 fun z H5 => ∃ kvs k, y = kV k ∧ H5 D = some (.dK kvs) ∧ kvs.length < sizeLine ∧ Nx (upd H5 D (.dK (putK kvs k z))) else Nx H3) := by
  intro D hD
  have l0 : Le φ H (φ ++ [D]) (upd H D (.dK [])) := Le.alloc rs hD
  have rs0 : Rs G R (φ ++ [D]) (S ++ [.dct []]) (upd H D (.dK [])) := rs.alloc hD ⟨[], _, upd_same, rfl, RvL.nil⟩
  have at0 : (φ ++ [D])[S.length]? = some D := by
    rw [List.getElem?_append_right (by rw [rs.len]; exact Nat.le_refl _), rs.len, Nat.sub_self]
    rfl
  have rn0 : Rn G R φ H (wipeD ρ vs) (wipe σ vs) := rn.wipe vs
  generalize hw : dcL g mt mk mv S.length BIG 0 it (wipeD ρ vs) (S ++ [.dct []]) = whole at hq hb
  refine ⟨fun i m H' => ∃ φ' S', Le (φ ++ [D]) (upd H D (.dK [])) φ' H' ∧ Rs G R φ' S' H' ∧ dcL g mt mk mv S.length m i it (wipeD ρ vs) S' = whole, ⟨BIG, φ ++ [D], S ++ [.dct []], Le.refl, rs0, hw⟩, fun i m H1 hW => ?_⟩
  obtain ⟨φ1, S1, l1, rs1, e⟩ := hW
  cases m with
  | zero => exact (hb e.symm).elim
  | succ f =>
    have l01 := l0.trans l1
    obtain ⟨r0, r1⟩ := rel R (fun _ h => .inl h) i φ1 S1 H1 l01 rs1
    cases hg : it.get i S1 with
    | none =>
      have : dcL g mt mk mv S.length (f + 1) i it (wipeD ρ vs) S1 = .bad := by unfold dcL; rw [hg]
      exact (hb (e.symm.trans this)).elim
    | some o =>
      cases o with
      | none =>
        have z : dcL g mt mk mv S.length (f + 1) i it (wipeD ρ vs) S1 = .ok () S1 := by unfold dcL; rw [hg]
        exact .inl ⟨r0 hg, hq S1 φ1 D H1 (e.symm.trans z) l01 rs1 (l1.at at0)⟩
      | some d =>
        have z : dcL g mt mk mv S.length (f + 1) i it (wipeD ρ vs) S1 = ((g d (wipeD ρ vs) S1).calm.bind fun ρ1 S2 => (mt ρ1 S2).calm.bind fun b S3 =>
            if b = true then (mk ρ1 S3).calm.bind fun y S4 => (mv ρ1 S4).calm.bind fun z S5 => match keyOf y, S5[S.length]? with
              | some k, some (.dct kvs) => if kvs.length < sizeLine then dcL g mt mk mv S.length f (i + 1) it (wipeD ρ vs) (S5.set S.length (.dct (aput kvs k z))) else .bad
              | _, _ => .bad
            else dcL g mt mk mv S.length f (i + 1) it (wipeD ρ vs) S3) := by
          conv => lhs; unfold dcL
          rw [hg]
        rw [e] at z
        obtain ⟨r2, r3⟩ := r1 d hg
        refine .inr ⟨r2, fun H' => ∃ φ' S', Le (φ ++ [D]) (upd H D (.dK [])) φ' H' ∧ Rs G R φ' S' H' ∧ dcL g mt mk mv S.length f (i + 1) it (wipeD ρ vs) S' = whole, fun H' hN => ⟨f, Nat.lt_succ_self f, hN⟩, fun x H2 hy => ?_⟩
        obtain ⟨l2, rs2, rv⟩ := r3 x H2 hy
        have l12 := l1.trans l2
        have g1 := Run.calm (E := fun _ _ _ => True) (sg d x (wipe σ vs) H2 (wipeD ρ vs) φ1 R S1 rs2 (rn0.le (l0.trans l12)) rv)
        refine wg x (wipe σ vs) H2 (fun σ2 H3 => ∃ ρ2 S2 φ2, (g d (wipeD ρ vs) S1).calm = .ok ρ2 S2 ∧ Le φ1 H2 φ2 H3 ∧ Rs G R φ2 S2 H3 ∧ Rn G R φ2 H3 ρ2 σ2) _ (fun σ2 H3 ew hw => ⟨ew.trans wipe_idem, ?_⟩)
          (g1 _ (fun ρ2 S2 φ2 σ2 H3 e2 l3 rs3 rn3 => ⟨ρ2, S2, φ2, e2, l3, rs3, rn3⟩) (fun _ _ _ _ _ _ _ _ _ _ => trivial) (fun e2 => hb (by rw [z, e2]; rfl)))
        obtain ⟨ρ2, S2, φ2, e2, l3, rs3, rn3⟩ := hw
        have z2 := z
        rw [e2, Res.bind_ok] at z2
        refine Run.calm (E := fun _ _ _ => True) (st σ2 H3 ρ2 φ2 R S2 rs3 rn3) _ (fun b S3 φ3 b' H4 e3 l4 rs4 eb => ?_) (fun _ _ _ _ _ _ _ _ _ _ => trivial) (fun e3 => hb (by rw [z2, e3]; rfl))
        have eb' : b = b' := eb
        subst eb'
        have z3 := z2
        rw [e3, Res.bind_ok] at z3
        have l14 := l12.trans (l3.trans l4)
        cases b with
        | false =>
          rw [if_neg Bool.false_ne_true] at z3 ⊢
          exact ⟨φ3, S3, l14, rs4, z3.symm⟩
        | true =>
          rw [if_pos rfl] at z3 ⊢
          refine Run.calm (E := fun _ _ _ => True) (sk σ2 H4 ρ2 φ3 R S3 rs4 (rn3.le l4)) _ (fun y S4 φ4 w H5 e4 l5 rs5 ry => ?_) (fun _ _ _ _ _ _ _ _ _ _ => trivial) (fun e4 => hb (by rw [z3, e4]; rfl))
          rw [e4, Res.bind_ok] at z3
          refine Run.calm (E := fun _ _ _ => True) (sv σ2 H5 ρ2 φ4 R S4 rs5 (rn3.le (l4.trans l5))) _ (fun zz S5 φ5 w5 H6 e5 l6 rs6 rz => ?_) (fun _ _ _ _ _ _ _ _ _ _ => trivial) (fun e5 => hb (by rw [z3, e5]; rfl))
          rw [e5, Res.bind_ok] at z3
          have l16 := l14.trans (l5.trans l6)
          have at6 := l16.at at0
          cases hk : keyOf y with
          | none =>
            rw [hk] at z3
            exact (hb z3).elim
          | some k =>
            cases ho : S5[S.length]? with
            | none =>
              rw [hk, ho] at z3
              exact (hb z3).elim
            | some ob =>
              cases ob with
              | dct kvs =>
                rw [hk, ho] at z3
                dsimp only at z3
                by_cases hl : kvs.length < sizeLine
                · rw [if_pos hl] at z3
                  obtain ⟨us, u, eu, sh, rl⟩ := rs6.obj _ _ D ho at6
                  have sh' : u = .dK _ := sh
                  subst sh'
                  have ev := keyOf_v ry hk
                  have ll : (kvs.map (·.1)).length = us.length := by
                    have := RvL.length rl
                    unfold kids at this
                    rw [List.length_map] at this ⊢
                    exact this
                  have lw : Le φ5 H6 φ5 (upd H6 D (.dK (putK ((kvs.map (·.1)).zip us) k w5))) := Le.write rs6 at6
                  obtain ⟨ws, u1, u2⟩ := aput_rel (k := k) (Rv.le lw rz) (kvs := kvs) (RvL.le lw rl)
                  refine ⟨_, k, ev, eu, by rw [zip_len ll, List.length_map]; exact hl, φ5, S5.set S.length (.dct (aput kvs k zz)), l16.trans lw, rs6.write (o := .dct (aput kvs k zz)) at6 ⟨ws, _, upd_same, ?_, u1⟩, z3.symm⟩
                  show HO.dK _ = HO.dK _
                  rw [u2]
                · rw [if_neg hl] at z3
                  exact (hb z3).elim
              | _ =>
                rw [hk, ho] at z3
                exact (hb z3).elim
theorem dc_snd {wi : TI} {t : TG} {tt : TT} {tk tv : TE} {mi : MI0} {g : MG0} {mt : MT0} {mk mv : ME0} {vs : List Nat} (si : SndI G E wi mi) (sg : SndG G E0 t g) (wg : WipesG t vs) (st : SndT G E0 tt mt) (sk : SndE G E0 tk mk) (sv : SndE G E0 tv mv) : SndE G E (tDc wi t tt tk tv vs) (mDc mi g mt mk mv vs) := by
  intro σ H ρ φ R S rs rn Q hq hx hb
  unfold mDc at hq hx hb
  refine si σ H ρ φ R S rs rn _ (fun it S1 φ1 J H1 e1 l1 rs1 r1 => ?_) (fun er S' φ' H' cl d er' => hx er S' φ' H' cl d (by rw [er']; rfl)) (fun e1 => hb (by rw [e1]; rfl))
  rw [e1, Res.bind_ok] at hq hx hb
  refine dc_run r1 sg wg st sk sv rs1 (rn.le l1) Q (fun S2 φ2 D H2 e2 l2 rs2 h2 => ?_) (fun e2 => hb (by rw [e2]; rfl))
  rw [e2, Res.bind_ok] at hq
  refine hq _ S2 φ2 _ H2 rfl (l1.trans l2) rs2 ?_
  show Rv G R φ2 H2 (.ref S1.length) (.ref D)
  unfold Rv
  exact ⟨D, rfl, h2⟩
end
section
variable {T : List Addr} {X : Cx} {E : XK} {kx vx tg iter : Expr} {ifs : List Expr} {scope : Scope} {own : List (Str × Nat)} {pos : Pos} {mi : MI0} {g : MG0} {mt : MT0} {mk mv : ME0} {t : TG}
structure DcOk (T : List Addr) (X : Cx) (kx vx tg : Expr) (ifs : List Expr) (scope : Scope) (own : List (Str × Nat)) (t : TG) (g : MG0) (mt : MT0) (mk mv : ME0) : Prop where
  tg : ∀ (s : Shared) (H : Hp) (C : Addr) (cl : List (Str × Addr)) (fp : List Addr), MGc T (X.blk s H scope (compEnvC scope cl C X.env) fp) E0 tg (own.map (·.2)) t g
  ifs : ∀ (s : Shared) (H : Hp) (C : Addr) (cl : List (Str × Addr)) (fp : List Addr), MTs T (X.blk s H scope (compEnvC scope cl C X.env) fp) E0 ifs mt
  k : ∀ (s : Shared) (H : Hp) (C : Addr) (cl : List (Str × Addr)) (fp : List Addr), ME T (X.blk s H scope (compEnvC scope cl C X.env) fp) E0 kx mk
  v : ∀ (s : Shared) (H : Hp) (C : Addr) (cl : List (Str × Addr)) (fp : List Addr), ME T (X.blk s H scope (compEnvC scope cl C X.env) fp) E0 vx mv
theorem me_dc (hc : X.calm = true) (hN : X.N.Nodup) (hi : MI T X E tg iter mi) (ok : blkC X.N X.env.scope scope own = true) (h : DcOk T X kx vx tg ifs scope own t g mt mk mv) (hs : ∀ x, foldedSetIterable iter X.env x = pure x := by intro _; rfl) :
    ME T X E (.DictComp kx vx [⟨tg, iter, ifs, 0⟩] scope pos) (mDc mi g mt mk mv (own.map (·.2))) := by
  obtain ⟨wi, pi, si⟩ := hi
  obtain ⟨tt, pt, st⟩ := all_T (ι := Shared × Hp × Addr × List (Str × Addr) × List Addr) (XX := fun i => X.blk i.1 i.2.1 scope (compEnvC scope i.2.2.2.1 i.2.2.1 X.env) i.2.2.2.2) (G := (X.gd T)) (E := E0) (es := ifs) (m := mt) fun i => h.ifs i.1 i.2.1 i.2.2.1 i.2.2.2.1 i.2.2.2.2
  obtain ⟨tk, pk, sk⟩ := all_E (ι := Shared × Hp × Addr × List (Str × Addr) × List Addr) (XX := fun i => X.blk i.1 i.2.1 scope (compEnvC scope i.2.2.2.1 i.2.2.1 X.env) i.2.2.2.2) (G := (X.gd T)) (E := E0) (e := kx) (m := mk) fun i => h.k i.1 i.2.1 i.2.2.1 i.2.2.2.1 i.2.2.2.2
  obtain ⟨tv, pv, sv⟩ := all_E (ι := Shared × Hp × Addr × List (Str × Addr) × List Addr) (XX := fun i => X.blk i.1 i.2.1 scope (compEnvC scope i.2.2.2.1 i.2.2.1 X.env) i.2.2.2.2) (G := (X.gd T)) (E := E0) (e := vx) (m := mv) fun i => h.v i.1 i.2.1 i.2.2.1 i.2.2.2.1 i.2.2.2.2
  exact ⟨_, pe_dc hc hN pi (blkOk_by ok) (fun s H C cl fp => (h.tg s H C cl fp).pg) (fun s H C cl fp => pt (s, H, C, cl, fp)) (fun s H C cl fp => pk (s, H, C, cl, fp)) (fun s H C cl fp => pv (s, H, C, cl, fp)) hs,
    dc_snd si (h.tg {} (fun _ => none) 0 [] []).snd (h.tg {} (fun _ => none) 0 [] []).wip st sk sv⟩
end
end MM

/-! {k: v, ..}. -/
namespace MM
open PySem PySem.Spec L2 PyProof.Rows
def mPairs : List (ME0 × ME0) → Rho → Store → Res (List (D × D))
  | [], _, S => .ok [] S
  | (k, v) :: r, ρ, S => (k ρ S).bind fun x S1 => (v ρ S1).bind fun y S2 => (mPairs r ρ S2).bind fun ps S3 => .ok ((x, y) :: ps) S3
def pkeys : List (D × D) → Option (List (Key × D))
  | [] => some []
  | (x, y) :: r => match keyOf x, pkeys r with
    | some k, some s => some ((k, y) :: s)
    | _, _ => none
def putAll (acc kvs : List (Key × D)) : List (Key × D) := kvs.foldl (fun a kv => aput a kv.1 kv.2) acc
def mDisp (ps : List (ME0 × ME0)) : ME0 := fun ρ S => (mPairs ps ρ (S ++ [.dct []])).bind fun qs S1 => match pkeys qs, S1[S.length]? with
  | some kvs, some (.dct []) => if kvs.length ≤ 15 then .ok (.ref S.length) (S1.set S.length (.dct (putAll [] kvs))) else .bad
  | _, _ => .bad
abbrev RelPs (G : Gd) (R : List Addr) : List Addr → Hp → List (D × D) → List (V × V) → Prop := fun φ H qs vs => RvL G R φ H (qs.map (·.1)) (vs.map (·.1)) ∧ RvL G R φ H (qs.map (·.2)) (vs.map (·.2))
def SndPs (G : Gd) (E : XK) (trs : List (TE × TE)) (ps : List (ME0 × ME0)) : Prop := ∀ σ H ρ φ R S, Rs G R φ S H → Rn G R φ H ρ σ → Run G E R φ H (RelPs G R) (mPairs ps ρ S) (fun Q => tPairs trs σ H Q)
def MPs (T : List Addr) (X : Cx) (E : XK) (pos : Pos) (ks : List (Option Expr)) (vs : List Expr) (ps : List (ME0 × ME0)) : Prop := ∃ trs, PPs X pos ks vs trs ∧ SndPs (X.gd T) E trs ps
section
variable {G : Gd} {E : XK} {R φ : List Addr} {S : Store} {H : Hp}
theorem merge_rel : ∀ {kvs : List (Key × D)} {ws : List V} {acc : List (Key × D)} {us : List V}, RvL G R φ H (kvs.map (·.2)) ws → RvL G R φ H (acc.map (·.2)) us →
    ∃ zs, RvL G R φ H ((putAll acc kvs).map (·.2)) zs ∧ mergeK ((acc.map (·.1)).zip us) ((kvs.map (·.1)).zip ws) = ((putAll acc kvs).map (·.1)).zip zs
  | [], ws, acc, us, h1, h2 => ⟨us, h2, rfl⟩
  | (k, d) :: kvs, ws, acc, us, h1, h2 => by
    rw [List.map_cons] at h1
    unfold RvL at h1
    obtain ⟨v, r, rfl, a1, a2⟩ := h1
    obtain ⟨us', b1, b2⟩ := aput_rel (k := k) a1 h2
    obtain ⟨zs, c1, c2⟩ := merge_rel a2 b1
    refine ⟨zs, c1, ?_⟩
    show mergeK (putK ((acc.map (·.1)).zip us) k v) ((kvs.map (·.1)).zip r) = _
    rw [b2, c2]
    rfl
theorem pkeys_rel : ∀ {qs : List (D × D)} {vs : List (V × V)} {kvs : List (Key × D)}, RvL G R φ H (qs.map (·.1)) (vs.map (·.1)) → RvL G R φ H (qs.map (·.2)) (vs.map (·.2)) → pkeys qs = some kvs →
    ∃ ws, vs = ((kvs.map (·.1)).zip ws).map (fun kv => (kV kv.1, kv.2)) ∧ RvL G R φ H (kvs.map (·.2)) ws ∧ kvs.length = ws.length
  | [], vs, kvs, h1, h2, e => by
    cases e
    rw [List.map_nil] at h1
    unfold RvL at h1
    have : vs = [] := List.map_eq_nil_iff.mp h1
    subst this
    exact ⟨[], rfl, RvL.nil, rfl⟩
  | (x, y) :: qs, vs, kvs, h1, h2, e => by
    rw [List.map_cons] at h1 h2
    unfold RvL at h1 h2
    obtain ⟨v, r, e1, a1, a2⟩ := h1
    obtain ⟨v', r', e2, b1, b2⟩ := h2
    cases vs with
    | nil => cases e1
    | cons p vs =>
      rw [List.map_cons] at e1 e2
      cases e1
      cases e2
      unfold pkeys at e
      cases hk : keyOf x with
      | none => rw [hk] at e; cases e
      | some k =>
        cases hp : pkeys qs with
        | none => rw [hk, hp] at e; cases e
        | some s =>
          rw [hk, hp] at e
          cases e
          obtain ⟨ws, c1, c2, c3⟩ := pkeys_rel a2 b2 hp
          have ev := keyOf_v a1 hk
          refine ⟨p.2 :: ws, ?_, RvL.cons b1 c2, by rw [List.length_cons, List.length_cons, c3]⟩
          rw [List.map_cons, List.zip_cons_cons, List.map_cons, ← c1]
          obtain ⟨p1, p2⟩ := p
          have ev' : p1 = kV k := ev
          rw [ev']
end
section
variable {T : List Addr} {X : Cx} {E : XK} {pos : Pos} {k v : Expr} {ks : List (Option Expr)} {vs : List Expr} {ps : List (ME0 × ME0)} {mk mv : ME0}
theorem mps_nil : MPs T X E pos [] [] [] := ⟨_, pps_nil, fun σ H ρ φ R S rs rn => Run.ret rs ⟨RvL.nil, RvL.nil⟩ fun Q q => q⟩
theorem mps_cons (hk : ME T X E k mk) (hv : ME T X E v mv) (hr : MPs T X E pos ks vs ps) : MPs T X E pos (some k :: ks) (v :: vs) ((mk, mv) :: ps) := by
  obtain ⟨tk, pk, sk⟩ := hk
  obtain ⟨tv, pv, sv⟩ := hv
  obtain ⟨tr, pr, sr⟩ := hr
  refine ⟨_, pps_cons pk pv pr, fun σ H ρ φ R S rs rn => ?_⟩
  refine Run.bnd (c' := fun (x : V) H1 (Q : List (V × V) → Hp → Prop) => tv σ H1 fun y H2 => tPairs tr σ H2 fun ps H3 => Q ((x, y) :: ps) H3) (sk σ H ρ φ R S rs rn) (fun d S1 φ1 x H1 _ l1 rs1 r1 => ?_) fun Q q => q
  refine Run.bnd (c' := fun (y : V) H2 (Q : List (V × V) → Hp → Prop) => tPairs tr σ H2 fun ps H3 => Q ((x, y) :: ps) H3) (sv σ H1 ρ φ1 R S1 rs1 (rn.le l1)) (fun d2 S2 φ2 y H2 _ l2 rs2 r2 => ?_) fun Q q => q
  refine Run.bnd (c' := fun (qs : List (V × V)) H3 (Q : List (V × V) → Hp → Prop) => Q ((x, y) :: qs) H3) (sr σ H2 ρ φ2 R S2 rs2 (rn.le (l1.trans l2))) (fun qs S3 φ3 us H3 _ l3 rs3 r3 => ?_) fun Q q => q
  exact Run.ret (v := (x, y) :: us) rs3 ⟨RvL.cons (Rv.le (l2.trans l3) r1) r3.1, RvL.cons (Rv.le l3 r2) r3.2⟩ fun Q q => q
theorem me_disp (h : MPs T X E pos ks vs ps) (hall : ks.all (·.isSome) = true := by rfl) (hl : ks.length = vs.length := by rfl) (h0 : ks ≠ [] := by exact List.cons_ne_nil _ _) (h15 : ks.length ≤ 15 := by decide) : ME T X E (.Dict ks vs pos) (mDisp ps) := by
  obtain ⟨tr, pr, sr⟩ := h
  refine ⟨_, pe_disp pr hall hl h0 h15, fun σ H ρ φ R S rs rn => ?_⟩
  intro Q hq he hb D hD
  unfold mDisp at hq he hb
  have l0 : Le φ H (φ ++ [D]) (upd H D (.dK [])) := Le.alloc rs hD
  have rs0 : Rs (X.gd T) R (φ ++ [D]) (S ++ [.dct []]) (upd H D (.dK [])) := rs.alloc hD ⟨[], _, upd_same, rfl, RvL.nil⟩
  have at0 : (φ ++ [D])[S.length]? = some D := by
    rw [List.getElem?_append_right (by rw [rs.len]; exact Nat.le_refl _), rs.len, Nat.sub_self]
    rfl
  refine sr σ _ ρ _ R _ rs0 (rn.le l0) _ (fun qs S1 φ1 us H1 e1 l1 rs1 r1 => ?_) (fun er S' φ' H' cl d e1 l1 rs1 xq => he er S' φ' H' cl d (by rw [e1]; rfl) (l0.trans l1) rs1 xq) (fun e1 => hb (by rw [e1]; rfl))
  rw [e1, Res.bind_ok] at hq he hb
  have at1 := l1.at at0
  cases hk : pkeys qs with
  | none => rw [hk] at hb; exact (hb rfl).elim
  | some kvs =>
    cases ho : S1[S.length]? with
    | none => rw [hk, ho] at hb; exact (hb rfl).elim
    | some ob =>
      cases ob with
      | dct zs =>
        cases zs with
        | cons a b => rw [hk, ho] at hb; exact (hb rfl).elim
        | nil =>
          rw [hk, ho] at hq hb
          dsimp only at hq hb
          by_cases hl15 : kvs.length ≤ 15
          · rw [if_pos hl15] at hq
            obtain ⟨us0, u, eu, sh, rl⟩ := rs1.obj _ _ D ho at1
            have sh' : u = .dK _ := sh
            subst sh'
            obtain ⟨ws, c1, c2, c3⟩ := pkeys_rel r1.1 r1.2 hk
            have lw : Le φ1 H1 φ1 (upd H1 D (.dK (mergeK [] ((kvs.map (·.1)).zip ws)))) := Le.write rs1 at1
            obtain ⟨zs, z1, z2⟩ := merge_rel (acc := []) (us := []) (RvL.le lw c2) RvL.nil
            have rw' := rs1.write (ho := .dK (mergeK [] ((kvs.map (·.1)).zip ws))) (o := .dct (putAll [] kvs)) at1 ⟨zs, _, upd_same, by rw [show mergeK [] ((kvs.map (·.1)).zip ws) = _ from z2]; rfl, z1⟩
            refine ⟨eu, _, c1, by rw [List.length_zip, List.length_map]; omega, ?_⟩
            refine hq (.ref S.length) _ φ1 (.ref D) _ rfl (l0.trans (l1.trans lw)) rw' ?_
            show Rv _ R φ1 _ (.ref S.length) (.ref D)
            unfold Rv
            exact ⟨D, rfl, at1⟩
          · rw [if_neg hl15] at hb
            exact (hb rfl).elim
      | _ => rw [hk, ho] at hb; exact (hb rfl).elim
end
end MM

/-! Defs with defaults; making by keywords. -/
namespace MM
open PySem PySem.Spec L2 PyProof.Rows
/-- a def with defaults as it stands behind the top -/
structure FnD (K : PySem.W.Frag) (x qual : Str) (st : Stmt) (dvs : List V) (f : Addr) (fd : FuncData) : Prop where
  ex : ∃ (oc : Value) (od : Option Addr) (kV doc pm : Value) (an : Option Addr) (cdv ct : Value) (osl : Array (Option Value)) (T : Addr) (o : Obj) (its : List Value) (n : Nat),
    fd = PySem.W.fnOf x qual (defArgs st) (defBody st) (defScope st) (.ref T) kV doc pm an cdv ct ∧ K.lookup f = some ⟨oc, od, .func fd, osl⟩ ∧ PySem.W.codeIn K cdv qual = true ∧ K.lookup T = some o ∧ o.data = .seq its.toArray n ∧ Vals dvs its
  kp : PySem.W.keepIn K (.ref f) = true
section
variable {T : List Addr} {P : Program} {w : World} {K : PySem.W.Frag} {mg : Str → Option Value} {base : Heap} {x qual : Str} {st : Stmt} {f : Addr} {fd : FuncData} {dvs : List V}
theorem fnD_mk {oc : Value} {od an : Option Addr} {osl : Array (Option Value)} {kV doc pm cdv ct : Value} {T : Addr} {e : Value} {dd : Option Addr} {its : Array Value} {n : Nat} {sl : Array (Option Value)}
    (l : K.lookup f = some ⟨oc, od, .func (PySem.W.fnOf x qual (defArgs st) (defBody st) (defScope st) (.ref T) kV doc pm an cdv ct), osl⟩) (c : PySem.W.codeIn K cdv qual = true) (k : PySem.W.keepIn K (.ref f) = true)
    (lT : K.lookup T = some ⟨e, dd, .seq its n, sl⟩) (r : Vals dvs its.toList) : FnD K x qual st dvs f (PySem.W.fnOf x qual (defArgs st) (defBody st) (defScope st) (.ref T) kV doc pm an cdv ct) :=
  ⟨⟨oc, od, kV, doc, pm, an, cdv, ct, osl, T, _, its.toList, n, rfl, l, c, lT, by rw [Array.toArray_toList], r⟩, k⟩
theorem fn_okD {N ps : List Str} {k n : Nat} {m : MS0} (F : FnD K x qual st dvs f fd) (S : FnScope N ps (defScope st)) (hn : ps.length = n)
    (hbody : ∀ (cdv : Value) (A : Around) (outer : List Env) (s : Shared) (H : Hp) (E : XK), Room k (A.deeper (envOfC qual (defScope st) s.heap.objs.size f cdv)) →
      MSs T (cxOf (L2.CX P w) P w K mg base N qual (defScope st) f cdv A outer s H E) E (defBody st) m) : FnOk P w K mg base (L2.CX P w) (k + 1) f fd ps (spM ⟨K, mg, T⟩ n (mDef N.length m)) := by
  obtain ⟨oc, od, kV, doc, pm, an, cdv, ct, osl, T0, o, its, n0, rfl, lk, hcd, _, _, _⟩ := F.ex
  refine fn_of lk hcd S (fun vs H Q E h => ?_) fun A outer s H vs Q E hr h => ?_
  · obtain ⟨φ, R, S, ds, _, h1, h2, _⟩ := h
    rw [← RvL.length h1, h2, hn]
  · obtain ⟨φ, R, S, ds, rs, rv, hl, hb, hq, hx⟩ := h
    obtain ⟨t, pt, st⟩ := hbody cdv A outer s H E hr
    refine ⟨t, pt, ?_⟩
    have e0 : mDef N.length m ds S = (m (ds.map some ++ List.replicate (N.length - ds.length) none) S).bind fun x S1 => match x.1 with
      | .nx => .ok .non S1
      | .rt d => .ok d S1
      | _ => .bad := rfl
    rw [e0] at hb hq hx
    refine st (L2.start N vs) H _ φ R S rs (start_rn rv) (fun o H' => match o with
      | .nx _ => Q .non H'
      | .rt v => Q v H'
      | _ => False) (fun y S' φ' o H' e1 l1 rs1 ro => ?_) (fun er S' φ' H' cl d e1 l1 rs1 xq => hx er S' φ' H' cl d (by rw [e1]; rfl) l1 rs1 xq) (fun e1 => hb (by rw [e1]; rfl))
    obtain ⟨fl, ρ'⟩ := y
    rw [e1, Res.bind_ok] at hb hq
    cases fl with
    | nx =>
      cases o with
      | nx σ => exact hq .non S' φ' .non H' rfl l1 rs1 Rv.non
      | _ => exact False.elim ro
    | rt d =>
      cases o with
      | rt v => exact hq d S' φ' v H' rfl l1 rs1 ro
      | _ => exact False.elim ro
    | bk => exact (hb rfl).elim
    | ct => exact (hb rfl).elim
/-- n values are given, the defaults behind the first j fill up -/
theorem FnD.binds {ps : List Str} (F : FnD K x qual st dvs f fd) (n j : Nat) (hn : n + (dvs.length - j) = ps.length)
    (h : ∀ (T : Addr) (kV doc pm : Value) (an : Option Addr) (cdv ct : Value) (us its : List Value), us.length = n → its.length = dvs.length →
      ∃ k, bindArgs (PySem.W.fnOf x qual (defArgs st) (defBody st) (defScope st) (.ref T) kV doc pm an cdv ct) ⟨us, []⟩ = seqItems? (.ref T) >>= k ∧ k (some its.toArray) = pure (ps.zip (us ++ its.drop j))) : ∃ ds, Vals (dvs.drop j) ds ∧ Binds K fd ps ds := by
  obtain ⟨oc, od, kV, doc, pm, an, cdv, ct, osl, T, o, its, m, rfl, lk, hcd, lT, oT, rT⟩ := F.ex
  refine ⟨its.drop j, rT.drop j, fun s us X hlen => ?_⟩
  have l1 : its.length = dvs.length := rT.length.symm
  have l2 : us.length = n := by
    rw [List.length_append, List.length_drop, l1] at hlen
    omega
  obtain ⟨k, e1, e2⟩ := h T kV doc pm an cdv ct us its l2 l1
  refine BindsTo.of_looks fun M => ?_
  rw [e1]
  exact looks_items X lT oT (.of_pure e2)
/-- by place and by keywords; ix: where each parameter's value stands among those by place, by name, the defaults -/
def KTd (K : PySem.W.Frag) (fd : FuncData) (ps ks : List Str) (n1 : Nat) (ix : List Nat) (dvs : List V) : Prop :=
  ∃ its : List Value, Vals dvs its ∧ KBn K fd ps n1 ks (fun us ws => perm n1 (ks.length + its.length) ix us (ws ++ its)) (fun vs zs => perm n1 (ks.length + its.length) ix vs (zs ++ dvs))
theorem FnD.kto {ps ks : List Str} {ix : List Nat} (F : FnD K x qual st dvs f fd) (n1 : Nat)
    (h : ∀ (T : Addr) (kV doc pm : Value) (an : Option Addr) (cdv ct : Value) (us ws its : List Value), us.length = n1 → ws.length = ks.length → its.length = dvs.length →
      ∃ k, bindArgs (PySem.W.fnOf x qual (defArgs st) (defBody st) (defScope st) (.ref T) kV doc pm an cdv ct) ⟨us, ks.zip ws⟩ = seqItems? (.ref T) >>= k ∧ k (some its.toArray) = pure (ps.zip (ix.filterMap fun i => (us ++ (ws ++ its))[i]?))) : KTd K fd ps ks n1 ix dvs := by
  obtain ⟨oc, od, kV, doc, pm, an, cdv, ct, osl, T, o, its, m, rfl, lk, hcd, lT, oT, rT⟩ := F.ex
  refine ⟨its, rT, ⟨fun s us ws X l1 l2 => ?_, fun {vs us zs ws} r rz => ?_⟩⟩
  · obtain ⟨k, e1, e2⟩ := h T kV doc pm an cdv ct us ws its l1 l2 rT.length.symm
    refine BindsTo.of_looks fun M => ?_
    rw [e1]
    have e3 : perm n1 (ks.length + its.length) ix us (ws ++ its) = ix.filterMap fun i => (us ++ (ws ++ its))[i]? := by
      unfold perm
      rw [if_pos ⟨l1, by rw [List.length_append, l2]⟩]
    show PySem.W.Looks M s.heap (seqItems? (.ref T) >>= k) (ps.zip (perm n1 (ks.length + its.length) ix us (ws ++ its)))
    rw [e3]
    exact looks_items X lT oT (.of_pure e2)
  · unfold perm
    rw [Vals.length r, Vals.length (Vals.append rz rT)]
    split
    · exact Vals.pick (Vals.append r (Vals.append rz rT)) ix
    · exact .nil
end
def mMakeK (c : Str) (m : List D → Store → Res D) (cds : List D) (n1 n2 : Nat) (ix : List Nat) (ma mk : MA0) : ME0 := fun ρ S => (ma ρ S).bind fun us S1 => (mk ρ S1).bind fun ws S2 => (m (perm n1 n2 ix (.ref S2.length :: us) (ws ++ cds)) (S2 ++ [.ins c []])).bind fun r S3 => match r with
  | .non => .ok (.ref S2.length) S3
  | _ => .bad
section
variable {T : List Addr} {X : Cx} {E : XK} {e o : Expr} {es : List Expr} {kws : List Keyword} {c x : Str} {C f : Addr} {fd : FuncData} {ps ks : List Str} {k n n1 n2 : Nat} {ix : List Nat} {m : List D → Store → Res D} {dvs : List V} {cds : List D} {pos p apos : Pos} {mo : ME0} {ma mk : MA0}
theorem me_makeE (A : ClsAt X.K X.mg c C) (M : Mk X.K C f) (F : FnOk X.prog X.w X.K X.mg X.base (L2.CX X.prog X.w) k f fd ps (spM (X.gd T) n m)) (hr : Room (k + 1) X.A) (hg : Gl X c) (hb : ∃ ds, Vals dvs ds ∧ Binds X.K fd ps ds) (hcd : Consts cds dvs) (hx : Passes (L2.CX X.prog X.w) X E)
    (ha : MAn T X E (e :: es) ma) (hn : (e :: es).length + cds.length + 1 = n := by rfl) (hdb : (c == ("__debug__" : Str)) = false := by decide) (he : starEach (e :: es) X.env = (false, eval e X.env) :: starEach es X.env := by rfl) (hpl : (backTo pos (starEach es X.env)).any (·.1) = false := by rfl) :
    ME T X E (.Call (.Name c p) (e :: es) [] pos) (mMake c m cds ma) := by
  obtain ⟨ds, hd, hb⟩ := hb
  exact me_make A M F hr hg hb hd hcd hx ha hn hdb he hpl
theorem SndE.makeK {g : List V → List V → List V} {ta tk : TA} (hm : X.mg c = some (.ref C)) (hcd : Consts cds dvs) (ha : SndA (X.gd T) E ta ma) (hk : SndA (X.gd T) E tk mk) (hn : ∀ ρ S ds S', ma ρ S = .ok ds S' → ds.length + 1 = n1) (hn2 : ∀ ρ S ds S', mk ρ S = .ok ds S' → ds.length = ks.length)
    (hg : g = fun vs zs => perm n1 (ks.length + cds.length) ix vs (zs ++ dvs)) (hn0 : n1 = n2 + 1) (hix : ∀ us ws : List D, us.length = n1 → ws.length = ks.length + cds.length → (perm n1 (ks.length + cds.length) ix us ws).length = n) :
    SndE (X.gd T) E (tMakeK C n2 ks.length (spM (X.gd T) n m) g E ta tk) (mMakeK c m cds n1 (ks.length + cds.length) ix ma mk) := by
  subst hg
  intro σ H ρ φ R S rs rn
  refine Run.bnd (c' := fun vs H1 (Q : VK) => tk σ H1 fun zs H2 => vs.length = n2 ∧ zs.length = ks.length ∧ ∀ x dx, H2 x = none → H2 dx = none → dx ≠ x → spM (X.gd T) n m (perm n1 (ks.length + cds.length) ix (.ref x :: vs) (zs ++ dvs)) (upd (upd H2 dx (.own x)) x (.ins C dx [])) (fun v H3 => v = .non ∧ Q (.ref x) H3) E) (ha σ H ρ φ R S rs rn) (fun us S1 φ1 vs H1 e0 l1 rs1 r1 => ?_) fun Q q => q
  refine Run.bnd (c' := fun zs H2 (Q : VK) => vs.length = n2 ∧ zs.length = ks.length ∧ ∀ x dx, H2 x = none → H2 dx = none → dx ≠ x → spM (X.gd T) n m (perm n1 (ks.length + cds.length) ix (.ref x :: vs) (zs ++ dvs)) (upd (upd H2 dx (.own x)) x (.ins C dx [])) (fun v H3 => v = .non ∧ Q (.ref x) H3) E) (hk σ H1 ρ φ1 R S1 rs1 (rn.le l1)) (fun ws S2 φ2 zs H2 e1 l2 rs2 r2 => ?_) fun Q q => q
  intro Q hq he hb
  have lu := hn _ _ _ _ e0
  have lw := hn2 _ _ _ _ e1
  refine ⟨by rw [← RvL.length r1]; omega, by rw [← RvL.length r2]; exact lw, fun x dx hx hd hne => ?_⟩
  obtain ⟨l3, rs3, rx⟩ := made (c := c) (C := C) rs2 hm hx hd hne
  have hc := hcd (X.gd T) R (φ2 ++ [x]) (upd (upd H2 dx (.own x)) x (.ins C dx []))
  have lc := RvL.length hc
  refine ⟨φ2 ++ [x], R, S2 ++ [.ins c []], perm n1 (ks.length + cds.length) ix (.ref S2.length :: us) (ws ++ cds), rs3, ?_, ?_, fun z => hb (by rw [z]; rfl), fun d S' φ' v H' e2 l4 rs4 r4 => ?_, fun er S' φ' H' cl d e2 l4 rs4 xq => he er S' φ' H' cl d (by rw [e2]; rfl) (l3.trans l4) rs4 xq⟩
  · have ra : RvL (X.gd T) R (φ2 ++ [x]) (upd (upd H2 dx (.own x)) x (.ins C dx [])) (.ref S2.length :: us) (.ref x :: vs) := RvL.cons rx (RvL.le (l2.trans l3) r1)
    have rb := RvL.append (RvL.le l3 r2) hc
    unfold perm
    rw [RvL.length ra, RvL.length rb]
    split
    · exact RvL.pick (RvL.append ra rb) ix
    · exact RvL.nil
  · exact hix _ _ (by rw [List.length_cons]; exact lu) (by rw [List.length_append, lw])
  · rw [e2, Res.bind_ok] at hb hq
    cases d with
    | non => exact ⟨Rv.non_of r4, hq (.ref S2.length) S' φ' (.ref x) H' rfl (l3.trans l4) rs4 (Rv.le l4 rx)⟩
    | _ => exact (hb rfl).elim
theorem KTd.dv {K : PySem.W.Frag} {fd : FuncData} {ps ks : List Str} {n1 : Nat} {ix : List Nat} {dvs : List V} (h : KTd K fd ps ks n1 ix dvs) : ∃ its : List Value, Vals dvs its ∧ KBn K fd ps n1 ks (fun us ws => perm n1 (ks.length + its.length) ix us (ws ++ its)) (fun vs zs => perm n1 (ks.length + dvs.length) ix vs (zs ++ dvs)) := by
  obtain ⟨its, r, kb⟩ := h
  refine ⟨its, r, ?_⟩
  rw [show dvs.length = its.length from r.length]
  exact kb
theorem me_makeK0 (A : ClsAt X.K X.mg c C) (M : Mk X.K C f) (F : FnOk X.prog X.w X.K X.mg X.base (L2.CX X.prog X.w) k f fd ps (spM (X.gd T) n m)) (hr : Room (k + 1) X.A) (hg : Gl X c) (hb : KTd X.K fd ps ks 1 ix dvs) (hcd : Consts cds dvs) (hx : Passes (L2.CX X.prog X.w) X E)
    (hkw : MKn T X E kws mk) (hix : ∀ us ws : List D, us.length = 1 → ws.length = ks.length + cds.length → (perm 1 (ks.length + cds.length) ix us ws).length = n) (hn2 : kws.length = ks.length := by rfl)
    (hall : (backToKw pos (keywordEach kws X.env)).all (·.1.isSome) = true := by rfl) (hks : (backToKw pos (keywordEach kws X.env)).filterMap (·.1) = ks := by rfl) (hdb : (c == ("__debug__" : Str)) = false := by decide)
    (hpl : ((backTo pos (starEach [] X.env)).any (·.1) || (backToKw pos (keywordEach kws X.env)).any (·.1.isNone)) = false := by rfl) :
    ME T X E (.Call (.Name c p) [] kws pos) (mMakeK c m cds 1 (ks.length + cds.length) ix mNil mk) := by
  obtain ⟨⟨tk, pk, sk⟩, hl2⟩ := hkw
  obtain ⟨its, r, kb⟩ := hb.dv
  have lc : cds.length = dvs.length := RvL.length (hcd (X.gd T) [] [] fun _ => none)
  exact ⟨_, pe_makeK0 M F hr hg A.m kb hx pk hall hks hdb hpl, SndE.makeK (ta := tNil) A.m hcd (fun σ H ρ φ R S rs rn => Run.ret rs RvL.nil fun Q q => q) sk (fun ρ S ds S' h => by cases h; rfl) (fun ρ S ds S' h => (hl2 ρ S ds S' h).trans hn2) (by rw [lc]) rfl hix⟩
theorem me_makeK (A : ClsAt X.K X.mg c C) (M : Mk X.K C f) (F : FnOk X.prog X.w X.K X.mg X.base (L2.CX X.prog X.w) k f fd ps (spM (X.gd T) n m)) (hr : Room (k + 1) X.A) (hg : Gl X c) (hb : KTd X.K fd ps ks (n2 + 1) ix dvs) (hcd : Consts cds dvs) (hx : Passes (L2.CX X.prog X.w) X E)
    (ha : MAn T X E (e :: es) ma) (hkw : MKn T X E kws mk) (hix : ∀ us ws : List D, us.length = n2 + 1 → ws.length = ks.length + cds.length → (perm (n2 + 1) (ks.length + cds.length) ix us ws).length = n) (hn : (e :: es).length = n2 := by rfl) (hn2 : kws.length = ks.length := by rfl)
    (hall : (backToKw pos (keywordEach kws X.env)).all (·.1.isSome) = true := by rfl) (hks : (backToKw pos (keywordEach kws X.env)).filterMap (·.1) = ks := by rfl) (hdb : (c == ("__debug__" : Str)) = false := by decide)
    (he : starEach (e :: es) X.env = (false, eval e X.env) :: starEach es X.env := by rfl) (hpl : ((backTo pos (starEach (e :: es) X.env)).any (·.1) || (backToKw pos (keywordEach kws X.env)).any (·.1.isNone)) = false := by rfl) :
    ME T X E (.Call (.Name c p) (e :: es) kws pos) (mMakeK c m cds (n2 + 1) (ks.length + cds.length) ix ma mk) := by
  obtain ⟨⟨ta, pa, sa⟩, hl⟩ := ha
  obtain ⟨⟨tk, pk, sk⟩, hl2⟩ := hkw
  obtain ⟨its, r, kb⟩ := hb.dv
  have lc : cds.length = dvs.length := RvL.length (hcd (X.gd T) [] [] fun _ => none)
  exact ⟨_, pe_makeK M F hr hg A.m kb hx pa pk hall hks hdb he hpl, SndE.makeK A.m hcd sa sk (fun ρ S ds S' h => by rw [hl ρ S ds S' h, hn]) (fun ρ S ds S' h => (hl2 ρ S ds S' h).trans hn2) (by rw [lc]) rfl hix⟩
end
end MM
namespace MM
open PySem PySem.Spec L2 PyProof.Rows
/-! ### the text's classes -/
section
variable (T : List Addr) (P : Program) (w : World) (K : PySem.W.Frag) (mg : Str → Option Value) (base : Heap)
structure DefM (C : Addr) (x qual : Str) (st : Stmt) (f : Addr) (fd : FuncData) : Prop where
  F : Fun K x qual st f fd
  M : Meth K C x f
structure ClM (k : Nat) (C : Addr) (x : Str) (ps : List Str) (f : Addr) (fd : FuncData) (n : Nat) (m : List D → Store → Res D) : Prop where
  ok : FnOk P w K mg base (L2.CX P w) k f fd ps (spM ⟨K, mg, T⟩ n m)
  M : Meth K C x f
  b : Binds K fd ps []
structure DefP (C : Addr) (x qual : Str) (st : Stmt) (f : Addr) (fd : FuncData) : Prop where
  F : Fun K x qual st f fd
  M : ∃ pr, PropOf K C x pr f
structure ClP (k : Nat) (C : Addr) (x : Str) (f : Addr) (fd : FuncData) (m : List D → Store → Res D) : Prop where
  ok : FnOk P w K mg base (L2.CX P w) k f fd ["self"] (spM ⟨K, mg, T⟩ 1 m)
  M : ∃ pr, PropOf K C x pr f
  b : Binds K fd ["self"] []
structure DefI (C : Addr) (qual : Str) (st : Stmt) (f : Addr) (fd : FuncData) : Prop where
  F : Fun K "__init__" qual st f fd
  M : Mk K C f
structure DefID (C : Addr) (qual : Str) (st : Stmt) (dvs : List V) (f : Addr) (fd : FuncData) : Prop where
  F : FnD K "__init__" qual st dvs f fd
  M : Mk K C f
structure ClI (k : Nat) (C : Addr) (ps : List Str) (f : Addr) (fd : FuncData) (n : Nat) (m : List D → Store → Res D) : Prop where
  ok : FnOk P w K mg base (L2.CX P w) k f fd ps (spM ⟨K, mg, T⟩ n m)
  M : Mk K C f
end
def mPropC (c : Str) (m : List D → Store → Res D) (mo : ME0) : ME0 := fun ρ S => (mo ρ S).bind fun o S1 => match o with
  | .ref n => match insAt S1 c n with
    | some _ => (m [o] S1).calm
    | none => .bad
  | _ => .bad
section
variable {T : List Addr} {X : Cx} {E : XK} {o : Expr} {c x : Str} {C f : Addr} {fd : FuncData} {k : Nat} {m : List D → Store → Res D} {pos : Pos} {mo : ME0}
theorem me_propC (A : ClsAt X.K X.mg c C) (F : ClP T X.prog X.w X.K X.mg X.base k C x f fd m) (hr : Room (k + 1) X.A)
    (ho : ME T X E o mo) (hab : attributeBase o x X.env (eval o X.env) = eval o X.env := by rfl) : ME T X E (.Attribute o x pos) (mPropC c m mo) := by
  obtain ⟨to, po, so⟩ := ho
  obtain ⟨pr, hp⟩ := F.M
  refine ⟨_, pe_prop po A.cls hp F.ok hr F.b .nil (E := E0) passL hab, fun σ H ρ φ R S rs rn => ?_⟩
  refine Run.bnd (c' := fun (y : V) H1 (Q : VK) => ∃ a dx fs, y = V.ref a ∧ H1 a = some (.ins C dx fs) ∧ spM (X.gd T) 1 m [.ref a] H1 Q E0) (so σ H ρ φ R S rs rn) (fun d S1 φ1 y H1 e0 l1 rs1 r1 => ?_) fun Q q => q
  split
  · rename_i i
    split
    · rename_i fs hfs
      obtain ⟨a, dx, vs, rfl, hai, h1, h2⟩ := rs1.ins r1 hfs A.m
      refine Run.calm (r := m [.ref i] S1) (c := fun Q => ∃ a_1 dx fs, V.ref a = V.ref a_1 ∧ H1 a_1 = some (.ins C dx fs) ∧ spM (X.gd T) 1 m [.ref a_1] H1 Q E0) ?_
      intro Q hq he hb
      exact ⟨a, dx, _, rfl, h1, φ1, R, S1, [.ref i], rs1, RvL.cons r1 RvL.nil, rfl, hb, hq, he⟩
    · exact Run.bad
  · exact Run.bad
end
end MM

/-! The end of a law row. -/
namespace MM
open PySem PySem.Spec L2 PyProof.Rows
def Names (q : Program) (K : PySem.W.Frag) (mg : Str → Option Value) (h : Heap) : Prop := ∀ (x : Str) (f : Addr), ((recsOf q).any fun e => e.name == x) = true → mg x = some (.ref f) → LamX.OwnTab K f h
/-- what the law's own def must come to -/
def LawM (l : PySem.W.OpenLaw) (w : World) (K : PySem.W.Frag) (k : Nat) (x : Str) (mg : Str → Option Value) (fa : Addr) (h : Heap) (m : List D → Store → Res D) : Prop :=
  ∃ (fd : FuncData) (cs : List (Addr × Addr)), (∀ p ∈ cs, h.get? p.2 = some { cls := .none, data := .fields #[] } ∧ K.lookup p.2 = none ∧ PySem.W.CodeHd h p.1 p.2) ∧ (∀ (s : Shared) (u : Value), BindsTo s fd ⟨[u], []⟩ [(x, u)]) ∧
    ∀ base : Heap, K.In base → base.Ns mainGlobals mg → (∀ p ∈ cs, GxR.TabB base mg p.1 p.2) → FnOk l.prog w K mg base (L2.CX l.prog w) k fa fd [x] (spM ⟨K, mg, cs.map (·.2)⟩ 1 m)
theorem Fz.of_sq {K : PySem.W.Frag} {H : Hp} {a : Addr} {vs : List V} (h : SqL K H a vs) : Fz K [] [] H a vs := by
  rcases h with h | h
  · exact .inl ⟨List.not_mem_nil, List.not_mem_nil, h⟩
  · exact .inr h
theorem RvL.ints {G : Gd} {R φ : List Addr} {H : Hp} : ∀ ns : List Int, RvL G R φ H (ns.map D.int) (ns.map V.int)
  | [] => RvL.nil
  | n :: ns => RvL.cons Rv.int (RvL.ints ns)
theorem walk_mm {l : PySem.W.OpenLaw} {n k : Nat} {q : Program} {loose : List Str} {XP : (Str → Option Value) → Heap → Prop} {YP : World → Heap → Prop} {d : DefRec} {K : Params → PySem.W.Frag} {x : Str} {m : List D → Store → Res D}
    (hn : l.most = some n) (hn2 : n ≤ sizeLine) (hdf : d.params.defaults = []) (hr : Room k callerA) (hY : ∀ (w : World) (h : Heap), YP w h → (K w.params).In h)
    (F : ∀ (w : World) (mg : Str → Option Value) (fa : Addr) (h : Heap), YP w h → (K w.params).In h → h.Ns mainGlobals mg → mg d.name = some (.ref fa) → Names q (K w.params) mg h → LawM l w (K w.params) k x mg fa h m)
    (hm : ∀ ns : List Int, ns.length ≤ n → (∀ z ∈ ns, Builtin.Int.intBits z ≤ 1048576) → ∃ S, m [.frz (ns.map .int)] [] = .ok (.bl true) S) :
    PySem.W.WalkO q loose XP YP l.row.toRowW d [] (fun f vs => PySem.call f vs) := by
  refine Att.attach_callB hn hdf fun w s₀ s₁ mg mb fa o pm cd doc a vs ns G Y ho hd hcd hmg hobj hints hlen hbits hg => ?_
  have KX := hY w _ Y
  have own : Names q (K w.params) mg s₁.heap := fun x f hx hf c P o1 fd1 e dd vs1 sl k1 k2 k3 k4 k5 => by
    obtain ⟨dL, hm, hn1⟩ := List.any_eq_true.mp hx
    have hn2 : dL.name = x := beq_iff_eq.mp hn1
    obtain ⟨a', o', fd', c', P', h1, h2, h3, h4, h5, h6⟩ := G.T.tab dL hm
    rw [hn2, hf] at h1
    cases h1
    have g1 := KX _ _ k1
    rw [g1] at h2
    cases h2
    rw [k2] at h3
    cases h3
    rw [k3] at h4
    cases h4
    obtain ⟨⟨oc, vc, e1, _, e3, e4⟩, hP⟩ := h6
    have g2 := KX _ _ k4
    rw [g2] at e1
    cases e1
    cases e3
    rw [k5] at e4
    cases e4
    exact hP
  obtain ⟨fd, cs, hcs, hb, hF⟩ := F w mg fa _ Y KX G.T.g hmg own
  refine LamX.law_callTs (K := K w.params) (CX := L2.CX l.prog w) (k := k) (x := x) (sp := spM ⟨K w.params, mg, cs.map (·.2)⟩ 1 m) KX G.T.g G.T.b G.T.builtins G.T.nolimit hg (fun p hp => (hcs p hp).1) (fun p hp => (hcs p hp).2.1) (fun p hp => (hcs p hp).2.2) G.T.bmain hobj hints (Nat.le_trans hlen hn2) hr (fun base h1 h2 h3 => hF base h1 h2 fun p hp => ⟨(h3 p hp).code, (h3 p hp).bm, (h3 p hp).gP⟩) hb (fun H hH hS => ?_) fun H e s' h => ?_
  · obtain ⟨S', e⟩ := hm ns hlen hbits
    refine ⟨[], [], [], [.frz (ns.map .int)], ⟨List.nodup_nil, rfl, fun _ h => (List.not_mem_nil h).elim, fun _ _ _ h => by simp at h, fun _ h => (List.not_mem_nil h).elim, fun p hp => ?_⟩, ?_, rfl, ?_, ?_, ?_⟩
    · obtain ⟨q, hq, rfl⟩ := List.mem_map.mp hp
      exact ⟨#[], hH q hq, trivial⟩
    · refine RvL.cons ?_ RvL.nil
      unfold Rv
      exact ⟨a, _, rfl, Fz.of_sq hS, RvL.ints ns⟩
    · rw [e]
      exact fun z => nomatch z
    · intro d S1 φ' v H' e1 _ _ r
      rw [e] at e1
      cases e1
      exact Rv.bl_of r
    · intro er S1 φ' H' cl d e1
      rw [e] at e1
      cases e1
  · obtain ⟨_, _, _, _, _, _, _, _, _, _, _, _, z⟩ := h
    exact z.elim
end MM

/-! Working with mirrors: what a computation comes to, step by step (no program in sight). -/
namespace MM
open PySem L2
/-- it ends in Q, or raises an error of E -/
def W {α : Type} (r : Res α) (Q : α → Store → Prop) (E : Er → Store → Prop) : Prop := match r with
  | .ok a S => Q a S
  | .exc e S => E e S
  | .bad => False
abbrev Er0 : Er → Store → Prop := fun _ _ => False
section
variable {α β : Type} {Q : α → Store → Prop} {E : Er → Store → Prop}
theorem W_ok (a : α) (S : Store) : W (.ok a S) Q E = Q a S := rfl
theorem W_exc (e : Er) (S : Store) : W (.exc e S : Res α) Q E = E e S := rfl
theorem W_bad : W (.bad : Res α) Q E = False := rfl
theorem W_bind {r : Res β} {k : β → Store → Res α} : W (r.bind k) Q E = W r (fun a S => W (k a S) Q E) E := by cases r <;> rfl
theorem W.mono {r : Res α} {Q' : α → Store → Prop} (h : W r Q E) (hq : ∀ a S, Q a S → Q' a S) : W r Q' E := by
  cases r with
  | ok a S => exact hq a S h
  | exc e S => exact h
  | bad => exact h
theorem W.mono2 {r : Res α} {Q' : α → Store → Prop} {E' : Er → Store → Prop} (h : W r Q E) (hq : ∀ a S, Q a S → Q' a S) (he : ∀ e S, E e S → E' e S) : W r Q' E' := by
  cases r with
  | ok a S => exact hq a S h
  | exc e S => exact he e S h
  | bad => exact h
theorem W.ex {r : Res α} (h : W r Q Er0) : ∃ a S, r = .ok a S ∧ Q a S := by
  cases r with
  | ok a S => exact ⟨a, S, rfl, h⟩
  | exc e S => exact h.elim
  | bad => exact h.elim
theorem W_calm {r : Res α} (h : W r Q Er0) : W r.calm Q E := by
  cases r with
  | ok a S => exact h
  | exc e S => exact h.elim
  | bad => exact h
end
/-! ### continuations by names, so that nothing is opened ahead of its turn -/
section
variable (Q : D → Store → Prop) (QA : List D → Store → Prop) (QT : Bool → Store → Prop) (QS : Fl × Rho → Store → Prop) (QR : Rho → Store → Prop) (QI : ItD → Store → Prop) (E : Er → Store → Prop)
def kVar (o : Option (Option D)) (S : Store) : Prop := match o with
  | some (some d) => Q d S
  | _ => False
def kOp1 (f : D → D → Store → Res D) (b : ME0) (ρ : Rho) : D → Store → Prop := fun x S => W (b ρ S) (fun y S2 => W (f x y S2) Q E) E
def kOp2 (f : D → D → Store → Res D) (x : D) : D → Store → Prop := fun y S => W (f x y S) Q E
def kUn (f : D → Store → Res D) : D → Store → Prop := fun x S => W (f x S) Q E
def kCons1 (mr : MA0) (ρ : Rho) : D → Store → Prop := fun x S => W (mr ρ S) (fun xs S2 => QA (x :: xs) S2) E
def kCons2 (x : D) : List D → Store → Prop := fun xs S => QA (x :: xs) S
def kCall (f : List D → Store → Res D) : List D → Store → Prop := fun xs S => W (f xs S) Q E
def kTup : List D → Store → Prop := fun xs S => Q (.tup xs) S
def kLst : List D → Store → Prop := fun xs S => Q (.lst xs) S
def kLstS : List D → Store → Prop := fun xs S => Q (.ref S.length) (S ++ [.lst xs])
def kSeq (b : MS0) : Fl × Rho → Store → Prop := fun x S => match x.1 with
  | .nx => W (b x.2 S) QS E
  | fl => QS (fl, x.2) S
def kExpr (ρ : Rho) : D → Store → Prop := fun _ S => QS (.nx, ρ) S
def kRet (ρ : Rho) : D → Store → Prop := fun d S => QS (.rt d, ρ) S
def kIf (a b : MS0) (ρ : Rho) : Bool → Store → Prop := fun x S => if x = true then W (a ρ S) QS E else W (b ρ S) QS E
def kIfE (a b : ME0) (ρ : Rho) : Bool → Store → Prop := fun x S => if x = true then W (a ρ S) Q E else W (b ρ S) Q E
def kB : D → Store → Prop := fun x S => match x with
  | .bl b => QT b S
  | _ => False
def kAndT (b : MT0) (ρ : Rho) : Bool → Store → Prop := fun x S => if x = true then W (b ρ S) QT E else QT false S
def kOrT (b : MT0) (ρ : Rho) : Bool → Store → Prop := fun x S => if x = true then QT true S else W (b ρ S) QT E
def kNotT : Bool → Store → Prop := fun x S => QT (!x) S
def kAndV (b : ME0) (ρ : Rho) : D → Store → Prop := fun x S => match x with
  | .bl c => if c = true then W (b ρ S) Q E else Q (.bl false) S
  | _ => False
def kOrV (b : ME0) (ρ : Rho) : D → Store → Prop := fun x S => match x with
  | .bl c => if c = true then Q (.bl true) S else W (b ρ S) Q E
  | _ => False
def kNotV : D → Store → Prop := fun x S => match x with
  | .bl b => Q (.bl (!b)) S
  | _ => False
def kCmp1 (f g : D → D → Store → Res D) (mb mc : ME0) (ρ : Rho) : D → Store → Prop := fun x S1 => W (mb ρ S1) (fun y S2 => W (f x y S2) (fun z S3 => match z with
  | .bl c => if c = true then W (mc ρ S3) (fun w S4 => W (g y w S4) Q E) E else Q (.bl false) S3
  | _ => False) E) E
def kCmp2 (f g : D → D → Store → Res D) (mc : ME0) (ρ : Rho) (x : D) : D → Store → Prop := fun y S2 => W (f x y S2) (fun z S3 => match z with
  | .bl c => if c = true then W (mc ρ S3) (fun w S4 => W (g y w S4) Q E) E else Q (.bl false) S3
  | _ => False) E
def kCmp3 (g : D → D → Store → Res D) (mc : ME0) (ρ : Rho) (y : D) : D → Store → Prop := fun z S3 => match z with
  | .bl c => if c = true then W (mc ρ S3) (fun w S4 => W (g y w S4) Q E) E else Q (.bl false) S3
  | _ => False
def kAsg (g : MG0) (ρ : Rho) : D → Store → Prop := fun d S => W (g d ρ S) (fun ρ1 S2 => QS (.nx, ρ1) S2) E
def kAsg2 : Rho → Store → Prop := fun ρ S => QS (.nx, ρ) S
def kGs (gs : MGs0) (r : List D) : Rho → Store → Prop := fun ρ S => W (gs r ρ S) QR E
def kIx1 (d : D) (mi : ME0) (ρ : Rho) : D → Store → Prop := fun o S1 => W (mi ρ S1) (fun i S2 => match o, i with
  | .ref n, .int k => match lstAt S2 n with
    | some ds => match ixN ds.length k with
      | some j => QR ρ (S2.set n (.lst (ds.set j d)))
      | none => False
    | none => False
  | _, _ => False) E
def kIx2 (d : D) (ρ : Rho) (o : D) : D → Store → Prop := fun i S2 => match o, i with
  | .ref n, .int k => match lstAt S2 n with
    | some ds => match ixN ds.length k with
      | some j => QR ρ (S2.set n (.lst (ds.set j d)))
      | none => False
    | none => False
  | _, _ => False
def kFor (g : MG0) (b : MS0) (ρ : Rho) : ItD → Store → Prop := fun it S => W (forL g b BIG 0 it ρ S) QS E
def kLc (g : MG0) (tt : MT0) (te : ME0) (vs : List Nat) (ρ : Rho) : ItD → Store → Prop := fun it S => W (lcL g tt te BIG 0 it (wipeD ρ vs) [] S) QA E
def kNxt (g : MG0) (tt : MT0) (te : ME0) (vs : List Nat) (ρ : Rho) : ItD → Store → Prop := fun it S => W (nxL g tt te BIG 0 it (wipeD ρ vs) S) Q E
def kIt : D → Store → Prop := fun d S => match itOf S d with
  | some it => QI it S
  | none => False
def kDef : Fl × Rho → Store → Prop := fun x S => match x.1 with
  | .nx => Q .non S
  | .rt d => Q d S
  | _ => False
end
section
variable {Q : D → Store → Prop} {QA : List D → Store → Prop} {QT : Bool → Store → Prop} {QS : Fl × Rho → Store → Prop} {QR : Rho → Store → Prop} {QI : ItD → Store → Prop} {E : Er → Store → Prop} {ρ : Rho} {S : Store}
theorem W_var {i : Nat} : W (mVar i ρ S) Q E = kVar Q ρ[i]? S := by
  unfold mVar
  cases ρ[i]? with
  | none => rfl
  | some o => cases o <;> rfl
theorem k_var {d : D} : kVar Q (some (some d)) S = Q d S := rfl
theorem W_c {d : D} : W (mC d ρ S) Q E = Q d S := rfl
theorem W_op {f : D → D → Store → Res D} {a b : ME0} : W (mOp f a b ρ S) Q E = W (a ρ S) (kOp1 Q E f b ρ) E := by
  unfold mOp; rw [W_bind]; unfold kOp1
  simp only [W_bind]
theorem k_op1 {f : D → D → Store → Res D} {b : ME0} {x : D} : kOp1 Q E f b ρ x S = W (b ρ S) (kOp2 Q E f x) E := rfl
theorem k_op2 {f : D → D → Store → Res D} {x y : D} : kOp2 Q E f x y S = W (f x y S) Q E := rfl
theorem W_un {f : D → Store → Res D} {a : ME0} : W (mUn f a ρ S) Q E = W (a ρ S) (kUn Q E f) E := W_bind
theorem k_un {f : D → Store → Res D} {x : D} : kUn Q E f x S = W (f x S) Q E := rfl
theorem W_nil : W (mNil ρ S) QA E = QA [] S := rfl
theorem W_cons {a : ME0} {r : MA0} : W (mCons a r ρ S) QA E = W (a ρ S) (kCons1 QA E r ρ) E := by
  unfold mCons; rw [W_bind]; unfold kCons1
  simp only [W_bind, W_ok]
theorem k_cons1 {r : MA0} {x : D} : kCons1 QA E r ρ x S = W (r ρ S) (kCons2 QA x) E := rfl
theorem k_cons2 {x : D} {xs : List D} : kCons2 QA x xs S = QA (x :: xs) S := rfl
theorem W_call {f : List D → Store → Res D} {ma : MA0} : W (mCall f ma ρ S) Q E = W (ma ρ S) (kCall Q E f) E := W_bind
theorem k_call {f : List D → Store → Res D} {xs : List D} : kCall Q E f xs S = W (f xs S) Q E := rfl
theorem W_tup {ma : MA0} : W (mTup ma ρ S) Q E = W (ma ρ S) (kTup Q) E := W_bind
theorem k_tup {xs : List D} : kTup Q xs S = Q (.tup xs) S := rfl
theorem W_lst {ma : MA0} : W (mLst ma ρ S) Q E = W (ma ρ S) (kLst Q) E := W_bind
theorem k_lst {xs : List D} : kLst Q xs S = Q (.lst xs) S := rfl
theorem W_lstS {ma : MA0} : W (mLstS ma ρ S) Q E = W (ma ρ S) (kLstS Q) E := W_bind
theorem k_lstS {xs : List D} : kLstS Q xs S = Q (.ref S.length) (S ++ [.lst xs]) := rfl
theorem W_seq {a b : MS0} : W (sSeq a b ρ S) QS E = W (a ρ S) (kSeq QS E b) E := by
  unfold sSeq; rw [W_bind]
  congr 1
  funext x S1
  obtain ⟨fl, ρ1⟩ := x
  cases fl <;> rfl
theorem k_seq_nx {b : MS0} : kSeq QS E b (.nx, ρ) S = W (b ρ S) QS E := rfl
theorem k_seq_rt {b : MS0} {d : D} : kSeq QS E b (.rt d, ρ) S = QS (.rt d, ρ) S := rfl
theorem k_seq_bk {b : MS0} : kSeq QS E b (.bk, ρ) S = QS (.bk, ρ) S := rfl
theorem k_seq_ct {b : MS0} : kSeq QS E b (.ct, ρ) S = QS (.ct, ρ) S := rfl
theorem W_expr {a : ME0} : W (sExpr a ρ S) QS E = W (a ρ S) (kExpr QS ρ) E := W_bind
theorem k_expr {d : D} : kExpr QS ρ d S = QS (.nx, ρ) S := rfl
theorem W_ret {a : ME0} : W (sRet a ρ S) QS E = W (a ρ S) (kRet QS ρ) E := W_bind
theorem k_ret {d : D} : kRet QS ρ d S = QS (.rt d, ρ) S := rfl
theorem W_retN : W (sRetN ρ S) QS E = QS (.rt .non, ρ) S := rfl
theorem W_nx : W (sNx ρ S) QS E = QS (.nx, ρ) S := rfl
theorem W_bk : W (sBk ρ S) QS E = QS (.bk, ρ) S := rfl
theorem W_ct : W (sCt ρ S) QS E = QS (.ct, ρ) S := rfl
theorem W_if {c : MT0} {a b : MS0} : W (sIf c a b ρ S) QS E = W (c ρ S) (kIf QS E a b ρ) E := by
  unfold sIf; rw [W_bind]
  congr 1
  funext x S1
  cases x <;> rfl
theorem k_if_t {a b : MS0} : kIf QS E a b ρ true S = W (a ρ S) QS E := rfl
theorem k_if_f {a b : MS0} : kIf QS E a b ρ false S = W (b ρ S) QS E := rfl
theorem k_if_d {a b : MS0} {p : Prop} [h : Decidable p] : kIf QS E a b ρ (decide p) S = if p then W (a ρ S) QS E else W (b ρ S) QS E := by
  cases h <;> rfl
theorem W_ifE {c : MT0} {a b : ME0} : W (mIfE c a b ρ S) Q E = W (c ρ S) (kIfE Q E a b ρ) E := by
  unfold mIfE; rw [W_bind]
  congr 1
  funext x S1
  cases x <;> rfl
theorem k_ifE_t {a b : ME0} : kIfE Q E a b ρ true S = W (a ρ S) Q E := rfl
theorem k_ifE_f {a b : ME0} : kIfE Q E a b ρ false S = W (b ρ S) Q E := rfl
theorem W_b {a : ME0} : W (mB a ρ S) QT E = W (a ρ S) (kB QT) E := by
  unfold mB; rw [W_bind]
  congr 1
  funext x S1
  cases x <;> rfl
theorem k_b {b : Bool} : kB QT (.bl b) S = QT b S := rfl
theorem W_andT {a b : MT0} : W (mAndT a b ρ S) QT E = W (a ρ S) (kAndT QT E b ρ) E := by
  unfold mAndT; rw [W_bind]
  congr 1
  funext x S1
  cases x <;> rfl
theorem k_andT_t {b : MT0} : kAndT QT E b ρ true S = W (b ρ S) QT E := rfl
theorem k_andT_f {b : MT0} : kAndT QT E b ρ false S = QT false S := rfl
theorem W_orT {a b : MT0} : W (mOrT a b ρ S) QT E = W (a ρ S) (kOrT QT E b ρ) E := by
  unfold mOrT; rw [W_bind]
  congr 1
  funext x S1
  cases x <;> rfl
theorem k_orT_t {b : MT0} : kOrT QT E b ρ true S = QT true S := rfl
theorem k_orT_f {b : MT0} : kOrT QT E b ρ false S = W (b ρ S) QT E := rfl
theorem W_notT {a : MT0} : W (mNotT a ρ S) QT E = W (a ρ S) (kNotT QT) E := W_bind
theorem k_notT {b : Bool} : kNotT QT b S = QT (!b) S := rfl
theorem W_yes : W (mYes ρ S) QT E = QT true S := rfl
theorem W_andV {a b : ME0} : W (mAndV a b ρ S) Q E = W (a ρ S) (kAndV Q E b ρ) E := by
  unfold mAndV; rw [W_bind]
  congr 1
  funext x S1
  cases x with
  | bl c => cases c <;> rfl
  | _ => rfl
theorem k_andV_t {b : ME0} : kAndV Q E b ρ (.bl true) S = W (b ρ S) Q E := rfl
theorem k_andV_f {b : ME0} : kAndV Q E b ρ (.bl false) S = Q (.bl false) S := rfl
theorem W_orV {a b : ME0} : W (mOrV a b ρ S) Q E = W (a ρ S) (kOrV Q E b ρ) E := by
  unfold mOrV; rw [W_bind]
  congr 1
  funext x S1
  cases x with
  | bl c => cases c <;> rfl
  | _ => rfl
theorem k_orV_t {b : ME0} : kOrV Q E b ρ (.bl true) S = Q (.bl true) S := rfl
theorem k_orV_f {b : ME0} : kOrV Q E b ρ (.bl false) S = W (b ρ S) Q E := rfl
theorem W_notV {a : ME0} : W (mNotV a ρ S) Q E = W (a ρ S) (kNotV Q) E := by
  unfold mNotV; rw [W_bind]
  congr 1
  funext x S1
  cases x <;> rfl
theorem k_notV {b : Bool} : kNotV Q (.bl b) S = Q (.bl (!b)) S := rfl
theorem W_cmpC {f g : D → D → Store → Res D} {a b c : ME0} : W (mCmpC f g a b c ρ S) Q E = W (a ρ S) (kCmp1 Q E f g b c ρ) E := by
  unfold mCmpC; rw [W_bind]
  congr 1
  funext x S1
  unfold kCmp1
  rw [W_bind]
  congr 1
  funext y S2
  rw [W_bind]
  congr 1
  funext z S3
  cases z with
  | bl c =>
    cases c
    · rfl
    · exact W_bind
  | _ => rfl
theorem k_cmp1 {f g : D → D → Store → Res D} {mb mc : ME0} {x : D} : kCmp1 Q E f g mb mc ρ x S = W (mb ρ S) (kCmp2 Q E f g mc ρ x) E := rfl
theorem k_cmp2 {f g : D → D → Store → Res D} {mc : ME0} {x y : D} : kCmp2 Q E f g mc ρ x y S = W (f x y S) (kCmp3 Q E g mc ρ y) E := rfl
theorem k_cmp3_t {g : D → D → Store → Res D} {mc : ME0} {y : D} : kCmp3 Q E g mc ρ y (.bl true) S = W (mc ρ S) (kOp2 Q E g y) E := rfl
theorem k_cmp3_f {g : D → D → Store → Res D} {mc : ME0} {y : D} : kCmp3 Q E g mc ρ y (.bl false) S = Q (.bl false) S := rfl
theorem W_asg {a : ME0} {g : MG0} : W (sAsg a g ρ S) QS E = W (a ρ S) (kAsg QS E g ρ) E := by
  unfold sAsg; rw [W_bind]
  congr 1
  funext x S1
  exact W_bind
theorem k_asg {g : MG0} {d : D} : kAsg QS E g ρ d S = W (g d ρ S) (kAsg2 QS) E := rfl
theorem k_asg2 : kAsg2 QS ρ S = QS (.nx, ρ) S := rfl
theorem W_gN {i : Nat} {d : D} : W (gN i d ρ S) QR E = QR (ρ.set i (some d)) S := rfl
theorem W_gsNil : W (gsNil [] ρ S) QR E = QR ρ S := rfl
theorem W_gsCons {g : MG0} {gs : MGs0} {d : D} {r : List D} : W (gsCons g gs (d :: r) ρ S) QR E = W (g d ρ S) (kGs QR E gs r) E := W_bind
theorem k_gs {gs : MGs0} {r : List D} : kGs QR E gs r ρ S = W (gs r ρ S) QR E := rfl
theorem W_gTp {n : Nat} {gs : MGs0} {ds : List D} (h : ds.length = n) : W (gTp n gs (.tup ds) ρ S) QR E = W (gs ds ρ S) QR E := by
  show W (if ds.length = n then gs ds ρ S else .bad) QR E = _
  rw [if_pos h]
theorem W_gIx {mo mi : ME0} {d : D} : W (gIx mo mi d ρ S) QR E = W (mo ρ S) (kIx1 QR E d mi ρ) E := by
  unfold gIx; rw [W_bind]
  congr 1
  funext o S1
  rw [W_bind]
  unfold kIx1
  congr 1
  funext i S2
  cases o with
  | ref n =>
    cases i with
    | int k =>
      dsimp only
      cases h1 : lstAt S2 n with
      | none => rfl
      | some ds =>
        dsimp only
        cases h2 : ixN ds.length k <;> rfl
    | _ => rfl
  | _ => cases i <;> rfl
theorem k_ix1 {mi : ME0} {d o : D} : kIx1 QR E d mi ρ o S = W (mi ρ S) (kIx2 QR d ρ o) E := rfl
theorem W_for {mi : MI0} {g : MG0} {b : MS0} : W (sFor mi g b ρ S) QS E = W (mi ρ S) (kFor QS E g b ρ) E := W_bind
theorem W_lcL {mi : MI0} {g : MG0} {tt : MT0} {te : ME0} {vs : List Nat} : W (mLcL mi g tt te vs ρ S) QA E = W (mi ρ S) (kLc QA E g tt te vs ρ) E := W_bind
theorem W_lc {mi : MI0} {g : MG0} {tt : MT0} {te : ME0} {vs : List Nat} : W (mLc mi g tt te vs ρ S) Q E = W (mi ρ S) (kLc (kLst Q) E g tt te vs ρ) E := by
  unfold mLc
  rw [W_bind, W_lcL]
  rfl
theorem W_lcS {mi : MI0} {g : MG0} {tt : MT0} {te : ME0} {vs : List Nat} : W (mLcS mi g tt te vs ρ S) Q E = W (mi ρ S) (kLc (kLstS Q) E g tt te vs ρ) E := by
  unfold mLcS
  rw [W_bind, W_lcL]
  rfl
theorem W_next {mi : MI0} {g : MG0} {tt : MT0} {te : ME0} {vs : List Nat} : W (mNext mi g tt te vs ρ S) Q E = W (mi ρ S) (kNxt Q E g tt te vs ρ) E := W_bind
theorem W_miA {me : ME0} : W (miA me ρ S) QI E = W (me ρ S) (kIt QI) E := by
  unfold miA; rw [W_bind]
  congr 1
  funext d S1
  unfold kIt
  cases itOf S1 d <;> rfl
theorem k_it_tup {xs : List D} : kIt QI (.tup xs) S = QI (itL xs) S := rfl
theorem k_it_lst {xs : List D} : kIt QI (.lst xs) S = QI (itL xs) S := rfl
theorem k_it_frz {xs : List D} : kIt QI (.frz xs) S = QI (itL xs) S := rfl
theorem W_def {N : Nat} {b : MS0} {ds : List D} : W (mDef N b ds S) Q E = W (b (ds.map some ++ List.replicate (N - ds.length) none) S) (kDef Q) E := by
  unfold mDef
  rw [W_bind]
  congr 1
  funext x S1
  obtain ⟨fl, ρ1⟩ := x
  cases fl <;> rfl
theorem k_def_rt {d : D} : kDef Q (.rt d, ρ) S = Q d S := rfl
theorem k_def_nx : kDef Q (.nx, ρ) S = Q .non S := rfl
def kCK1 (Q : D → Store → Prop) (E : Er → Store → Prop) (f : List D → Store → Res D) (n1 n2 : Nat) (ix : List Nat) (mk : MA0) (ρ : Rho) : List D → Store → Prop := fun us S1 => W (mk ρ S1) (fun ws S2 => W (f (perm n1 n2 ix us ws) S2) Q E) E
def kCK2 (Q : D → Store → Prop) (E : Er → Store → Prop) (f : List D → Store → Res D) (n1 n2 : Nat) (ix : List Nat) (us : List D) : List D → Store → Prop := fun ws S2 => W (f (perm n1 n2 ix us ws) S2) Q E
theorem k_CK1 {f : List D → Store → Res D} {n1 n2 : Nat} {ix : List Nat} {mk : MA0} {us : List D} : kCK1 Q E f n1 n2 ix mk ρ us S = W (mk ρ S) (kCK2 Q E f n1 n2 ix us) E := rfl
theorem k_CK2 {f : List D → Store → Res D} {n1 n2 : Nat} {ix : List Nat} {us ws : List D} : kCK2 Q E f n1 n2 ix us ws S = W (f (perm n1 n2 ix us ws) S) Q E := rfl
theorem W_callK {f : List D → Store → Res D} {n1 n2 : Nat} {ix : List Nat} {ma mk : MA0} : W (mCallK f n1 n2 ix ma mk ρ S) Q E = W (ma ρ S) (kCK1 Q E f n1 n2 ix mk ρ) E := by
  unfold mCallK kCK1
  rw [W_bind]
  simp only [W_bind]
/-! operators -/
theorem W_f2I {g : Int → Int → D} {i j : Int} : W (f2I g (.int i) (.int j) S) Q E = Q (g i j) S := rfl
theorem W_f2Ic {C : Int → Int → Bool} {g : Int → Int → D} {i j : Int} (h : C i j = true) : W (f2Ic C g (.int i) (.int j) S) Q E = Q (g i j) S := by
  show W (if C i j = true then .ok (g i j) S else .bad) Q E = _
  rw [if_pos h]
  rfl
theorem W_addI {i j : Int} : W (fAdd (.int i) (.int j) S) Q E = Q (.int (i + j)) S := rfl
theorem W_mulI {i j : Int} (h : i.natAbs.log2 + j.natAbs.log2 < 1000000) : W (fMul (.int i) (.int j) S) Q E = Q (.int (i * j)) S := by
  show W (if i.natAbs.log2 + j.natAbs.log2 < 1000000 then .ok (.int (i * j)) S else .bad) Q E = _
  rw [if_pos h]
  rfl
theorem W_int {i : Int} : W (fInt [.int i] S) Q E = Q (.int i) S := rfl
theorem W_2L {g : Int → Int → Int} {i j : Int} : W (f2L g [.int i, .int j] S) Q E = Q (.int (g i j)) S := rfl
theorem W_is {neg : Bool} {d : D} : W (fIs neg d .non S) Q E = Q (.bl (if neg then !isNon d else isNon d)) S := rfl
theorem W_lenT {xs : List D} : W (fLen [.tup xs] S) Q E = Q (.int xs.length) S := rfl
theorem W_lenL {xs : List D} : W (fLen [.lst xs] S) Q E = Q (.int xs.length) S := rfl
theorem W_lenF {xs : List D} : W (fLen [.frz xs] S) Q E = Q (.int xs.length) S := rfl
theorem W_tupleT {xs : List D} : W (fTuple [.tup xs] S) Q E = Q (.tup xs) S := rfl
theorem W_tupleL {xs : List D} : W (fTuple [.lst xs] S) Q E = Q (.tup xs) S := rfl
theorem W_tupleF {xs : List D} : W (fTuple [.frz xs] S) Q E = Q (.tup xs) S := rfl
theorem W_ix {d : D} {ds : List D} {i : Int} {y : D} (h : seqOf S d = some ds) (h2 : atI ds i = some y) : W (fIx d (.int i) S) Q E = Q y S := by
  unfold fIx
  rw [h]
  dsimp only
  rw [h2]
  rfl
theorem W_ixT {ds : List D} {i : Int} {y : D} (h2 : atI ds i = some y) : W (fIx (.tup ds) (.int i) S) Q E = Q y S := W_ix rfl h2
end
/-! ### loops -/
/-- what an iterator gives, whatever the store holds -/
def ItD.Lst (it : ItD) (xs : List D) : Prop := ∀ i S, it.get i S = some xs[i]?
theorem lst_L (xs : List D) : (itL xs).Lst xs := fun _ _ => rfl
def rangeD (lo : Int) (n : Nat) : List D := (List.range n).map fun i : Nat => .int (lo + i)
theorem lst_R (lo : Int) (n : Nat) : (itR lo n).Lst (rangeD lo n) := fun i S => by
  show some (if i < n then some (D.int (lo + i)) else none) = some ((List.range n).map fun i : Nat => D.int (lo + i))[i]?
  congr 1
  rw [List.getElem?_map]
  by_cases h : i < n
  · rw [if_pos h, List.getElem?_range h]
    rfl
  · rw [if_neg h, List.getElem?_eq_none (by rw [List.length_range]; omega)]
    rfl
def enumD (xs : List D) : List D := xs.zipIdx.map fun p => .tup [.int p.2, p.1]
theorem lst_E (xs : List D) : (itE xs).Lst (enumD xs) := fun i S => by
  show some (xs[i]?.map fun d => D.tup [.int i, d]) = some (xs.zipIdx.map fun p : D × Nat => D.tup [.int p.2, p.1])[i]?
  congr 1
  rw [List.getElem?_map, List.getElem?_zipIdx]
  cases xs[i]? with
  | none => rfl
  | some d => simp
section
variable {QS : Fl × Rho → Store → Prop} {QA : List D → Store → Prop} {Q : D → Store → Prop} {E : Er → Store → Prop} {g : MG0} {b : MS0} {it : ItD} {xs : List D} {tt : MT0} {te : ME0}
def kLoop (QS : Fl × Rho → Store → Prop) (I : Rho → Store → Prop) : Fl × Rho → Store → Prop := fun x S => match x.1 with
  | .nx => I x.2 S
  | .ct => I x.2 S
  | .bk => QS (.nx, x.2) S
  | .rt d => QS (.rt d, x.2) S
def kBody (QS : Fl × Rho → Store → Prop) (E : Er → Store → Prop) (I : Rho → Store → Prop) (b : MS0) : Rho → Store → Prop := fun ρ S => W (b ρ S) (kLoop QS I) E
theorem k_body {I : Rho → Store → Prop} {ρ : Rho} {S : Store} : kBody QS E I b ρ S = W (b ρ S) (kLoop QS I) E := rfl
theorem k_loop_nx {I : Rho → Store → Prop} {ρ : Rho} {S : Store} : kLoop QS I (.nx, ρ) S = I ρ S := rfl
theorem k_loop_ct {I : Rho → Store → Prop} {ρ : Rho} {S : Store} : kLoop QS I (.ct, ρ) S = I ρ S := rfl
theorem k_loop_bk {I : Rho → Store → Prop} {ρ : Rho} {S : Store} : kLoop QS I (.bk, ρ) S = QS (.nx, ρ) S := rfl
theorem k_loop_rt {I : Rho → Store → Prop} {ρ : Rho} {S : Store} {d : D} : kLoop QS I (.rt d, ρ) S = QS (.rt d, ρ) S := rfl
theorem W_forL (hx : it.Lst xs) (I : Nat → Rho → Store → Prop) (hs : ∀ i d ρ S, xs[i]? = some d → I i ρ S → W (g d ρ S) (kBody QS E (I (i + 1)) b) E) (he : ∀ ρ S, I xs.length ρ S → QS (.nx, ρ) S) : ∀ (n i : Nat) (ρ : Rho) (S : Store), xs.length < i + n → i ≤ xs.length → I i ρ S → W (forL g b n i it ρ S) QS E
  | 0, i, ρ, S, h1, h2, _ => by omega
  | n + 1, i, ρ, S, h1, h2, hI => by
    unfold forL
    rw [hx i S]
    cases hi : xs[i]? with
    | none =>
      have : i = xs.length := by have := List.getElem?_eq_none_iff.mp hi; omega
      subst this
      exact he ρ S hI
    | some d =>
      dsimp only
      rw [W_bind]
      refine (hs i d ρ S hi hI).mono fun ρ1 S1 h => ?_
      rw [W_bind]
      refine W.mono h fun x S2 h => ?_
      obtain ⟨hl, _⟩ := List.getElem?_eq_some_iff.mp hi
      obtain ⟨fl, ρ2⟩ := x
      cases fl with
      | nx => exact W_forL hx I hs he n (i + 1) ρ2 S2 (by omega) (by omega) h
      | ct => exact W_forL hx I hs he n (i + 1) ρ2 S2 (by omega) (by omega) h
      | bk => exact h
      | rt d => exact h
theorem k_for {ρ : Rho} {S : Store} (hx : it.Lst xs) (hl : xs.length < BIG) (I : Nat → Rho → Store → Prop) (h0 : I 0 ρ S) (hs : ∀ i d ρ S, xs[i]? = some d → I i ρ S → W (g d ρ S) (kBody QS E (I (i + 1)) b) E) (he : ∀ ρ S, I xs.length ρ S → QS (.nx, ρ) S) : kFor QS E g b ρ it S :=
  W_forL hx I hs he BIG 0 ρ S (by omega) (by omega) h0
/-- a comprehension: what one turn leads to -/
def kLc1 (tt : MT0) (te : ME0) (Y : D → Store → Prop) (N : Store → Prop) : Rho → Store → Prop := fun ρ S => W (tt ρ S) (fun b S2 => if b = true then W (te ρ S2) Y Er0 else N S2) Er0
def kLc2 (te : ME0) (ρ : Rho) (Y : D → Store → Prop) (N : Store → Prop) : Bool → Store → Prop := fun b S2 => if b = true then W (te ρ S2) Y Er0 else N S2
theorem k_lc1 {Y : D → Store → Prop} {N : Store → Prop} {ρ : Rho} {S : Store} : kLc1 tt te Y N ρ S = W (tt ρ S) (kLc2 te ρ Y N) Er0 := rfl
theorem k_lc2_t {Y : D → Store → Prop} {N : Store → Prop} {ρ : Rho} {S : Store} : kLc2 te ρ Y N true S = W (te ρ S) Y Er0 := rfl
theorem k_lc2_f {Y : D → Store → Prop} {N : Store → Prop} {ρ : Rho} {S : Store} : kLc2 te ρ Y N false S = N S := rfl
theorem W_lcLoop {ρ : Rho} (hx : it.Lst xs) (I : Nat → List D → Store → Prop) (hs : ∀ i d acc S, xs[i]? = some d → I i acc S → W (g d ρ S) (kLc1 tt te (fun y S' => acc.length < sizeLine ∧ I (i + 1) (acc ++ [y]) S') (fun S' => I (i + 1) acc S')) Er0) (he : ∀ acc S, I xs.length acc S → QA acc S) :
    ∀ (n i : Nat) (acc : List D) (S : Store), xs.length < i + n → i ≤ xs.length → I i acc S → W (lcL g tt te n i it ρ acc S) QA E
  | 0, i, acc, S, h1, h2, _ => by omega
  | n + 1, i, acc, S, h1, h2, hI => by
    unfold lcL
    rw [hx i S]
    cases hi : xs[i]? with
    | none =>
      have : i = xs.length := by have := List.getElem?_eq_none_iff.mp hi; omega
      subst this
      exact he acc S hI
    | some d =>
      dsimp only
      rw [W_bind]
      obtain ⟨hl, _⟩ := List.getElem?_eq_some_iff.mp hi
      refine W_calm ((hs i d acc S hi hI).mono fun ρ1 S1 h => ?_)
      rw [W_bind]
      refine W_calm (W.mono h fun bb S2 h => ?_)
      cases bb with
      | true =>
        rw [if_pos rfl] at h ⊢
        rw [W_bind]
        refine W_calm (W.mono h fun y S3 h => ?_)
        rw [if_pos h.1]
        exact W_lcLoop hx I hs he n (i + 1) _ S3 (by omega) (by omega) h.2
      | false =>
        rw [if_neg Bool.false_ne_true] at h ⊢
        exact W_lcLoop hx I hs he n (i + 1) _ S2 (by omega) (by omega) h
theorem k_lc {ρ : Rho} {S : Store} {vs : List Nat} (hx : it.Lst xs) (hl : xs.length < BIG) (I : Nat → List D → Store → Prop) (h0 : I 0 [] S) (hs : ∀ i d acc S, xs[i]? = some d → I i acc S → W (g d (wipeD ρ vs) S) (kLc1 tt te (fun y S' => acc.length < sizeLine ∧ I (i + 1) (acc ++ [y]) S') (fun S' => I (i + 1) acc S')) Er0) (he : ∀ acc S, I xs.length acc S → QA acc S) : kLc QA E g tt te vs ρ it S :=
  W_lcLoop hx I hs he BIG 0 [] S (by omega) (by omega) h0
theorem W_nxLoop {ρ : Rho} (hx : it.Lst xs) (I : Nat → Store → Prop) (hs : ∀ i d S, xs[i]? = some d → I i S → W (g d ρ S) (kLc1 tt te Q (fun S' => I (i + 1) S')) Er0) (he : ∀ S, I xs.length S → Q .non S) : ∀ (n i : Nat) (S : Store), xs.length < i + n → i ≤ xs.length → I i S → W (nxL g tt te n i it ρ S) Q E
  | 0, i, S, h1, h2, _ => by omega
  | n + 1, i, S, h1, h2, hI => by
    unfold nxL
    rw [hx i S]
    cases hi : xs[i]? with
    | none =>
      have : i = xs.length := by have := List.getElem?_eq_none_iff.mp hi; omega
      subst this
      exact he S hI
    | some d =>
      dsimp only
      rw [W_bind]
      obtain ⟨hl, _⟩ := List.getElem?_eq_some_iff.mp hi
      refine W_calm ((hs i d S hi hI).mono fun ρ1 S1 h => ?_)
      rw [W_bind]
      refine W_calm (W.mono h fun bb S2 h => ?_)
      cases bb with
      | true =>
        rw [if_pos rfl] at h ⊢
        exact W_calm h
      | false =>
        rw [if_neg Bool.false_ne_true] at h ⊢
        exact W_nxLoop hx I hs he n (i + 1) S2 (by omega) (by omega) h
theorem k_nxt {ρ : Rho} {S : Store} {vs : List Nat} (hx : it.Lst xs) (hl : xs.length < BIG) (I : Nat → Store → Prop) (h0 : I 0 S) (hs : ∀ i d S, xs[i]? = some d → I i S → W (g d (wipeD ρ vs) S) (kLc1 tt te Q (fun S' => I (i + 1) S')) Er0) (he : ∀ S, I xs.length S → Q .non S) : kNxt Q E g tt te vs ρ it S :=
  W_nxLoop hx I hs he BIG 0 S (by omega) (by omega) h0
end
/-! ### the step -/
local macro_rules | `(tactic| simp_arith [$ts,*]) => `(tactic| simp only [W_ok, W_var, k_var, W_c, W_op, k_op1, k_op2, W_un, k_un, W_nil, W_cons, k_cons1, k_cons2, W_call, k_call, W_tup, k_tup, W_lst, k_lst, W_lstS, k_lstS, W_seq, k_seq_nx, k_seq_rt, k_seq_bk, k_seq_ct,
  W_expr, k_expr, W_ret, k_ret, W_retN, W_nx, W_bk, W_ct, W_if, k_if_t, k_if_f, W_ifE, k_ifE_t, k_ifE_f, W_b, k_b, W_andT, k_andT_t, k_andT_f, W_orT, k_orT_t, k_orT_f, W_notT, k_notT, W_yes, W_andV, k_andV_t, k_andV_f, W_orV, k_orV_t, k_orV_f, W_notV, k_notV,
  W_cmpC, k_cmp1, k_cmp2, k_cmp3_t, k_cmp3_f, W_asg, k_asg, k_asg2, W_gN, W_gsNil, W_gsCons, k_gs, W_gTp, W_gIx, k_ix1, W_for, W_lc, W_lcS, W_next, W_miA, k_it_tup, k_it_lst, k_it_frz, W_def, k_def_rt, k_def_nx, W_callK,
  W_f2I, W_addI, W_int, W_2L, W_is, W_lenT, W_lenL, W_lenF, W_tupleT, W_tupleL, W_tupleF, k_body, k_loop_nx, k_loop_ct, k_loop_bk, k_loop_rt, k_lc1, k_lc2_t, k_lc2_f,
  List.map_cons, List.map_nil, List.length_cons, List.length_nil, List.reduceReplicate, Nat.reduceSub, Nat.reduceAdd, Int.reduceAdd, Int.reduceSub, Int.reduceMul, Int.reduceNeg, Int.reduceLT, Int.reduceLE, Int.reduceEq, Int.cast_ofNat_Int, Int.natCast_zero, Int.natCast_one, eq_self, decide_true, decide_false, Bool.and_true, Bool.true_and, Bool.false_and, Bool.and_false, Nat.zero_add, List.replicate_zero, List.replicate_succ, List.cons_append, List.nil_append, List.append_nil, List.getElem?_cons_zero, List.getElem?_cons_succ, List.set_cons_zero, List.set_cons_succ, wipeD, Bool.not_true, Bool.not_false, if_true, if_false, reduceIte, isNon, Bool.false_eq_true, $ts,*])
local macro_rules | `(tactic| simp_arith) => `(tactic| simp_arith [])
example : W (mOp fSub (mVar 0) (mC (.int 1)) [some (.int 4)] []) (fun d S => d = .int 3) Er0 := by
  simp_arith []
end MM

/-! Plain data: equality, instances, ranges. -/
namespace MM
open PySem L2
mutual
def pyOf : D → PyData
  | .non => .none
  | .bl b => .bool b
  | .int i => .int i
  | .str s => .str s
  | .tup ds => .tuple (pyOfL ds)
  | .lst ds => .list (pyOfL ds)
  | .frz ds => .list (pyOfL ds)
  | .ref _ => .none
def pyOfL : List D → List PyData
  | [] => []
  | d :: ds => pyOf d :: pyOfL ds
end
mutual
/-- no object of the store in it, texts of signs, at most so deep -/
def flat : Nat → D → Bool
  | _, .non => true
  | _, .bl _ => true
  | _, .int _ => true
  | _, .str s => PyData.strOk s
  | n + 1, .tup ds => flatL n ds
  | n + 1, .lst ds => flatL n ds
  | _, _ => false
def flatL : Nat → List D → Bool
  | _, [] => true
  | n, d :: ds => flat n d && flatL n ds
end
mutual
theorem flat_py (S : Store) : ∀ {n : Nat} {d : D}, flat n d = true → toPy S d = some (pyOf d) ∧ (pyOf d).canLay0 = true ∧ (pyOf d).depth ≤ n
  | n, .non, h => ⟨by unfold toPy pyOf; rfl, by unfold pyOf PyData.canLay0; rfl, by unfold pyOf PyData.depth; exact Nat.zero_le _⟩
  | n, .bl b, h => ⟨by unfold toPy pyOf; rfl, by unfold pyOf PyData.canLay0; rfl, by unfold pyOf PyData.depth; exact Nat.zero_le _⟩
  | n, .int b, h => ⟨by unfold toPy pyOf; rfl, by unfold pyOf PyData.canLay0; rfl, by unfold pyOf PyData.depth; exact Nat.zero_le _⟩
  | n, .str s, h => ⟨by unfold toPy pyOf; rfl, by unfold flat at h; unfold pyOf PyData.canLay0; exact h, by unfold pyOf PyData.depth; exact Nat.zero_le _⟩
  | n + 1, .tup ds, h => by
    unfold flat at h
    obtain ⟨h1, h2, h3⟩ := flatL_py S h
    refine ⟨by unfold toPy pyOf; rw [h1]; rfl, by unfold pyOf PyData.canLay0; exact h2, by unfold pyOf PyData.depth; omega⟩
  | n + 1, .lst ds, h => by
    unfold flat at h
    obtain ⟨h1, h2, h3⟩ := flatL_py S h
    refine ⟨by unfold toPy pyOf; rw [h1]; rfl, by unfold pyOf PyData.canLay0; exact h2, by unfold pyOf PyData.depth; omega⟩
  | 0, .tup ds, h => by unfold flat at h; cases h
  | 0, .lst ds, h => by unfold flat at h; cases h
  | n, .frz ds, h => by unfold flat at h; cases h
  | n, .ref ds, h => by unfold flat at h; cases h
theorem flatL_py (S : Store) : ∀ {n : Nat} {ds : List D}, flatL n ds = true → toPyL S ds = some (pyOfL ds) ∧ PyData.canLayAll0 (pyOfL ds) = true ∧ PyData.depthAll (pyOfL ds) ≤ n
  | n, [], h => ⟨by unfold toPyL pyOfL; rfl, by unfold pyOfL PyData.canLayAll0; rfl, by unfold pyOfL PyData.depthAll; exact Nat.zero_le _⟩
  | n, d :: ds, h => by
    unfold flatL at h
    obtain ⟨h1, h2⟩ := Bool.and_eq_true_iff.mp h
    obtain ⟨a1, a2, a3⟩ := flat_py S h1
    obtain ⟨b1, b2, b3⟩ := flatL_py S h2
    refine ⟨by unfold toPyL pyOfL; rw [a1, b1], by unfold pyOfL PyData.canLayAll0; rw [a2, b2]; rfl, by unfold pyOfL PyData.depthAll; omega⟩
end
def eqD (x y : D) : Bool := PyData.eqv (pyOf x) (pyOf y)
theorem eqRes_flat {S : Store} {neg : Bool} {x y : D} (hx : flat 64 x = true) (hy : flat 64 y = true) : eqRes S neg x y = some (if neg then !eqD x y else eqD x y) := by
  obtain ⟨a1, a2, a3⟩ := flat_py S hx
  obtain ⟨b1, b2, b3⟩ := flat_py S hy
  unfold eqRes
  rw [a1, b1]
  dsimp only
  rw [if_pos]
  · rfl
  · unfold SeqAt.shaped
    rw [a2, b2, decide_eq_true a3, decide_eq_true b3]
    exact ⟨rfl, rfl⟩
mutual
/-- no True or False in it -/
def noB : D → Bool
  | .bl _ => false
  | .tup ds => noBL ds
  | .lst ds => noBL ds
  | .frz _ => false
  | .ref _ => false
  | _ => true
def noBL : List D → Bool
  | [] => true
  | d :: ds => noB d && noBL ds
end
mutual
theorem eqD_iff : ∀ {x y : D}, noB x = true → noB y = true → (eqD x y = true ↔ x = y)
  | .non, y, hx, hy => by
    cases y <;> simp_all [eqD, pyOf, PyData.eqv, noB]
  | .int i, y, hx, hy => by
    cases y <;> simp_all [eqD, pyOf, PyData.eqv, noB]
  | .str s, y, hx, hy => by
    cases y <;> simp_all [eqD, pyOf, PyData.eqv, noB]
  | .tup ds, y, hx, hy => by
    cases y with
    | tup es =>
      have := eqDL_iff (by unfold noB at hx; exact hx) (by unfold noB at hy; exact hy) (xs := ds) (ys := es)
      simp only [eqD, pyOf, PyData.eqv, this, D.tup.injEq]
    | _ => simp_all [eqD, pyOf, PyData.eqv, noB]
  | .lst ds, y, hx, hy => by
    cases y with
    | lst es =>
      have := eqDL_iff (by unfold noB at hx; exact hx) (by unfold noB at hy; exact hy) (xs := ds) (ys := es)
      simp only [eqD, pyOf, PyData.eqv, this, D.lst.injEq]
    | _ => simp_all [eqD, pyOf, PyData.eqv, noB]
  | .bl _, y, hx, hy => by unfold noB at hx; cases hx
  | .frz _, y, hx, hy => by unfold noB at hx; cases hx
  | .ref _, y, hx, hy => by unfold noB at hx; cases hx
theorem eqDL_iff : ∀ {xs ys : List D}, noBL xs = true → noBL ys = true → (PyData.eqvAll (pyOfL xs) (pyOfL ys) = true ↔ xs = ys)
  | [], [], _, _ => by simp [pyOfL, PyData.eqvAll]
  | [], y :: ys, _, _ => by simp [pyOfL, PyData.eqvAll]
  | x :: xs, [], _, _ => by simp [pyOfL, PyData.eqvAll]
  | x :: xs, y :: ys, hx, hy => by
    unfold noBL at hx hy
    obtain ⟨h1, h2⟩ := Bool.and_eq_true_iff.mp hx
    obtain ⟨h3, h4⟩ := Bool.and_eq_true_iff.mp hy
    have a := eqD_iff h1 h3
    have b := eqDL_iff h2 h4
    unfold eqD at a
    simp only [pyOfL, PyData.eqvAll, Bool.and_eq_true, a, b, List.cons.injEq]
end
section
variable {Q : D → Store → Prop} {QA : List D → Store → Prop} {QI : ItD → Store → Prop} {E : Er → Store → Prop} {ρ : Rho} {S : Store}
theorem W_eqF {neg : Bool} {x y : D} (hx : flat 64 x = true) (hy : flat 64 y = true) : W (fEq neg x y S) Q E = Q (.bl (if neg then !eqD x y else eqD x y)) S := by
  unfold fEq
  rw [eqRes_flat hx hy]
  rfl
theorem W_eqI {neg : Bool} {i j : Int} : W (fEq neg (.int i) (.int j) S) Q E = Q (.bl (if neg then !decide (i = j) else decide (i = j))) S := by
  rw [W_eqF (by unfold flat; rfl) (by unfold flat; rfl)]
  have : eqD (.int i) (.int j) = decide (i = j) := by
    simp only [eqD, pyOf, PyData.eqv]
    rfl
  rw [this]
/-- equal without True and False -/
theorem W_eqN {neg : Bool} {x y : D} [h : Decidable (x = y)] (hx : flat 64 x = true) (hy : flat 64 y = true) (nx : noB x = true) (ny : noB y = true) : W (fEq neg x y S) Q E = Q (.bl (if neg then !decide (x = y) else decide (x = y))) S := by
  rw [W_eqF hx hy]
  have : eqD x y = decide (x = y) := by
    rw [Bool.eq_iff_iff, eqD_iff nx ny, decide_eq_true_iff]
  rw [this]
/-! instances of built-in classes -/
theorem W_isi {T t : String} {d : D} {b : Bool} (h : tyD S d = some t) (hk : kitB t T = some b) : W (fIsi T d S) Q E = Q (.bl b) S := by
  unfold fIsi
  rw [h]
  dsimp only
  rw [hk]
  rfl
def kIsi (T : String) (t : String) (S : Store) : Prop := match kitB t T with
  | some b => Q (.bl b) S
  | none => False
theorem isi_int_i {i : Int} : W (fIsi "int" (.int i) S) Q E = Q (.bl true) S := W_isi rfl (by decide +kernel)
theorem isi_int_b {i : Bool} : W (fIsi "int" (.bl i) S) Q E = Q (.bl true) S := W_isi rfl (by decide +kernel)
theorem isi_int_n : W (fIsi "int" .non S) Q E = Q (.bl false) S := W_isi rfl (by decide +kernel)
theorem isi_int_s {s : Str} : W (fIsi "int" (.str s) S) Q E = Q (.bl false) S := W_isi rfl (by decide +kernel)
theorem isi_int_t {s : List D} : W (fIsi "int" (.tup s) S) Q E = Q (.bl false) S := W_isi rfl (by decide +kernel)
theorem isi_int_l {s : List D} : W (fIsi "int" (.lst s) S) Q E = Q (.bl false) S := W_isi rfl (by decide +kernel)
theorem isi_bool_i {i : Int} : W (fIsi "bool" (.int i) S) Q E = Q (.bl false) S := W_isi rfl (by decide +kernel)
theorem isi_bool_b {i : Bool} : W (fIsi "bool" (.bl i) S) Q E = Q (.bl true) S := W_isi rfl (by decide +kernel)
theorem isi_bool_n : W (fIsi "bool" .non S) Q E = Q (.bl false) S := W_isi rfl (by decide +kernel)
theorem isi_bool_s {s : Str} : W (fIsi "bool" (.str s) S) Q E = Q (.bl false) S := W_isi rfl (by decide +kernel)
theorem isi_bool_t {s : List D} : W (fIsi "bool" (.tup s) S) Q E = Q (.bl false) S := W_isi rfl (by decide +kernel)
theorem isi_bool_l {s : List D} : W (fIsi "bool" (.lst s) S) Q E = Q (.bl false) S := W_isi rfl (by decide +kernel)
theorem isi_tuple_i {i : Int} : W (fIsi "tuple" (.int i) S) Q E = Q (.bl false) S := W_isi rfl (by decide +kernel)
theorem isi_tuple_b {i : Bool} : W (fIsi "tuple" (.bl i) S) Q E = Q (.bl false) S := W_isi rfl (by decide +kernel)
theorem isi_tuple_n : W (fIsi "tuple" .non S) Q E = Q (.bl false) S := W_isi rfl (by decide +kernel)
theorem isi_tuple_s {s : Str} : W (fIsi "tuple" (.str s) S) Q E = Q (.bl false) S := W_isi rfl (by decide +kernel)
theorem isi_tuple_t {s : List D} : W (fIsi "tuple" (.tup s) S) Q E = Q (.bl true) S := W_isi rfl (by decide +kernel)
theorem isi_tuple_l {s : List D} : W (fIsi "tuple" (.lst s) S) Q E = Q (.bl false) S := W_isi rfl (by decide +kernel)
theorem isi_list_i {i : Int} : W (fIsi "list" (.int i) S) Q E = Q (.bl false) S := W_isi rfl (by decide +kernel)
theorem isi_list_b {i : Bool} : W (fIsi "list" (.bl i) S) Q E = Q (.bl false) S := W_isi rfl (by decide +kernel)
theorem isi_list_n : W (fIsi "list" .non S) Q E = Q (.bl false) S := W_isi rfl (by decide +kernel)
theorem isi_list_s {s : Str} : W (fIsi "list" (.str s) S) Q E = Q (.bl false) S := W_isi rfl (by decide +kernel)
theorem isi_list_t {s : List D} : W (fIsi "list" (.tup s) S) Q E = Q (.bl false) S := W_isi rfl (by decide +kernel)
theorem isi_list_l {s : List D} : W (fIsi "list" (.lst s) S) Q E = Q (.bl true) S := W_isi rfl (by decide +kernel)
theorem isi_str_i {i : Int} : W (fIsi "str" (.int i) S) Q E = Q (.bl false) S := W_isi rfl (by decide +kernel)
theorem isi_str_b {i : Bool} : W (fIsi "str" (.bl i) S) Q E = Q (.bl false) S := W_isi rfl (by decide +kernel)
theorem isi_str_n : W (fIsi "str" .non S) Q E = Q (.bl false) S := W_isi rfl (by decide +kernel)
theorem isi_str_s {s : Str} : W (fIsi "str" (.str s) S) Q E = Q (.bl true) S := W_isi rfl (by decide +kernel)
theorem isi_str_t {s : List D} : W (fIsi "str" (.tup s) S) Q E = Q (.bl false) S := W_isi rfl (by decide +kernel)
theorem isi_str_l {s : List D} : W (fIsi "str" (.lst s) S) Q E = Q (.bl false) S := W_isi rfl (by decide +kernel)
/-! ranges, enumerate -/
def kR1 (QI : ItD → Store → Prop) : List D → Store → Prop := fun ds S => match ds with
  | [.int j] => -(2 ^ 62) ≤ j ∧ j < 2 ^ 62 ∧ QI (itR 0 j.toNat) S
  | _ => False
theorem W_R1 {ma : MA0} (h : W (ma ρ S) (kR1 QI) E) : W (miR1 ma ρ S) QI E := by
  unfold miR1
  rw [W_bind]
  refine h.mono fun ds S1 h => ?_
  unfold kR1 at h
  split at h
  · obtain ⟨h1, h2, h3⟩ := h
    try dsimp only
    rw [if_pos ⟨h1, h2⟩]
    exact h3
  · exact h.elim
theorem k_R1 {j : Int} (h1 : -(2 ^ 62) ≤ j) (h2 : j < 2 ^ 62) (h : QI (itR 0 j.toNat) S) : kR1 QI [.int j] S := ⟨h1, h2, h⟩
def kR2 (QI : ItD → Store → Prop) : List D → Store → Prop := fun ds S => match ds with
  | [.int i, .int j] => -(2 ^ 62) ≤ i ∧ i < 2 ^ 62 ∧ -(2 ^ 62) ≤ j ∧ j < 2 ^ 62 ∧ QI (itR i (j - i).toNat) S
  | _ => False
theorem W_R2 {ma : MA0} (h : W (ma ρ S) (kR2 QI) E) : W (miR2 ma ρ S) QI E := by
  unfold miR2
  rw [W_bind]
  refine h.mono fun ds S1 h => ?_
  unfold kR2 at h
  split at h
  · obtain ⟨h1, h2, h3, h4, h5⟩ := h
    try dsimp only
    rw [if_pos ⟨h1, h2, h3, h4⟩]
    exact h5
  · exact h.elim
def kEn (QI : ItD → Store → Prop) : List D → Store → Prop := fun ds S => match ds with
  | [.tup xs] => QI (itE xs) S
  | [.lst xs] => QI (itE xs) S
  | _ => False
theorem W_E {ma : MA0} : W (miE ma ρ S) QI E = W (ma ρ S) (kEn QI) E := by
  unfold miE
  rw [W_bind]
  congr 1
  funext ds S1
  cases ds with
  | nil => rfl
  | cons d r => cases d <;> cases r <;> rfl
theorem k_en_tup {xs : List D} : kEn QI [.tup xs] S = QI (itE xs) S := rfl
theorem k_en_lst {xs : List D} : kEn QI [.lst xs] S = QI (itE xs) S := rfl
theorem k_R1_eq {j : Int} : kR1 QI [.int j] S = (-(2 ^ 62) ≤ j ∧ j < 2 ^ 62 ∧ QI (itR 0 j.toNat) S) := rfl
theorem k_R2_eq {i j : Int} : kR2 QI [.int i, .int j] S = (-(2 ^ 62) ≤ i ∧ i < 2 ^ 62 ∧ -(2 ^ 62) ≤ j ∧ j < 2 ^ 62 ∧ QI (itR i (j - i).toNat) S) := rfl
theorem W_allL {xs : List Bool} : W (fAll [.lst (xs.map .bl)] S) Q E = Q (.bl (xs.all id)) S := by
  unfold fAll
  dsimp only [lstOf]
  have : blsOf (xs.map D.bl) = some xs := by
    induction xs with
    | nil => rfl
    | cons x xs ih =>
      rw [List.map_cons]
      show (blsOf (xs.map D.bl)).map (x :: ·) = _
      rw [ih]
      rfl
  rw [this]
  rfl
end
section
variable {QA : List D → Store → Prop} {Q : D → Store → Prop} {E : Er → Store → Prop} {g : MG0} {it : ItD} {xs : List D} {tt : MT0} {te : ME0} {S : Store} {vs : List Nat} {ρ : Rho}
theorem length_rangeD (lo : Int) (n : Nat) : (rangeD lo n).length = n := by unfold rangeD; rw [List.length_map, List.length_range]
theorem rangeD_get {lo : Int} {n i : Nat} {d : D} (h : (rangeD lo n)[i]? = some d) : i < n ∧ d = .int (lo + i) := by
  have hl := (List.getElem?_eq_some_iff.mp h).1
  rw [length_rangeD] at hl
  unfold rangeD at h
  rw [List.getElem?_map, List.getElem?_range hl] at h
  exact ⟨hl, (Option.some.inj h).symm⟩
/-- a comprehension that changes nothing -/
def kEl (te : ME0) (Y : D → Store → Prop) : Rho → Store → Prop := fun ρ S => W (te ρ S) Y Er0
theorem k_el {Y : D → Store → Prop} : kEl te Y ρ S = W (te ρ S) Y Er0 := rfl
theorem k_lc_map {f : D → D} (hx : it.Lst xs) (hl : xs.length < sizeLine) (h : ∀ d ∈ xs, ∀ Y : D → Store → Prop, Y (f d) S → W (g d (wipeD ρ vs) S) (kEl te Y) Er0) (hq : QA (xs.map f) S) : kLc QA E g mYes te vs ρ it S := by
  refine k_lc hx (Nat.lt_trans hl (by decide)) (fun i acc S' => S' = S ∧ acc = (xs.take i).map f) ⟨rfl, rfl⟩ (fun i d acc S' hi hI => ?_) fun acc S' hI => ?_
  · obtain ⟨rfl, rfl⟩ := hI
    refine W.mono (h d (List.mem_of_getElem? hi) (fun y S2 => y = f d ∧ S2 = S') ⟨rfl, rfl⟩) fun ρ1 S1 h1 => ?_
    rw [k_el] at h1
    rw [k_lc1, W_yes, k_lc2_t]
    refine h1.mono fun y S2 h2 => ?_
    obtain ⟨rfl, rfl⟩ := h2
    refine ⟨?_, rfl, ?_⟩
    · rw [List.length_map, List.length_take]
      omega
    · rw [List.take_add_one, hi, List.map_append]
      rfl
  · obtain ⟨rfl, rfl⟩ := hI
    rw [List.take_length]
    exact hq
end
end MM

/-! What the further mirrors come to. -/
namespace MM
open PySem L2
section
variable (Q : D → Store → Prop) (QA : List D → Store → Prop) (QT : Bool → Store → Prop) (QS : Fl × Rho → Store → Prop) (QR : Rho → Store → Prop) (QI : ItD → Store → Prop) (E : Er → Store → Prop)
def kOpt (o : Option D) (S : Store) : Prop := match o with
  | some d => Q d S
  | none => False
def kOptL (o : Option (List D)) (S : Store) : Prop := match o with
  | some ds => QA ds S
  | none => False
def kSl1 (ml mh : MO0) (ρ : Rho) : D → Store → Prop := fun x S => W (ml ρ S) (fun lo S2 => W (mh ρ S2) (fun hi S3 => W (fSl x lo hi S3) Q E) E) E
def kSl2 (mh : MO0) (ρ : Rho) (x : D) : Option Int → Store → Prop := fun lo S2 => W (mh ρ S2) (fun hi S3 => W (fSl x lo hi S3) Q E) E
def kSl3 (x : D) (lo : Option Int) : Option Int → Store → Prop := fun hi S3 => W (fSl x lo hi S3) Q E
def kPart (QO : Option Int → Store → Prop) : D → Store → Prop := fun d S => match d with
  | .int i => QO (some i) S
  | _ => False
def kMeth1 (c x : Str) (m : List D → Store → Res D) (cds : List D) (ma : MA0) (ρ : Rho) : D → Store → Prop := fun o S => match o with
  | .ref n => match insAt S c n with
    | some fs => match fs.lookup x with
      | none => W (ma ρ S) (fun us S2 => W (m (o :: (us ++ cds)) S2) Q E) E
      | some _ => False
    | none => False
  | _ => False
def kMeth2 (m : List D → Store → Res D) (cds : List D) (o : D) : List D → Store → Prop := fun us S2 => W (m (o :: (us ++ cds)) S2) Q E
def kProp (c : Str) (m : List D → Store → Res D) : D → Store → Prop := fun o S => match o with
  | .ref n => match insAt S c n with
    | some _ => W (m [o] S) Q Er0
    | none => False
  | _ => False
def kMade (n : Nat) : D → Store → Prop := fun r S => match r with
  | .non => Q (.ref n) S
  | _ => False
def kMake (c : Str) (m : List D → Store → Res D) (cds : List D) : List D → Store → Prop := fun us S => W (m (.ref S.length :: (us ++ cds)) (S ++ [.ins c []])) (kMade Q S.length) E
def kFldS1 (c f : Str) (mo : ME0) (ρ : Rho) : D → Store → Prop := fun d S => W (mo ρ S) (fun x S2 => match x with
  | .ref n => match insAt S2 c n with
    | some fs => if fs.length < 1000 then QS (.nx, ρ) (S2.set n (.ins c (fput f d fs))) else False
    | none => False
  | _ => False) E
def kFldS2 (c f : Str) (ρ : Rho) (d : D) : D → Store → Prop := fun x S2 => match x with
  | .ref n => match insAt S2 c n with
    | some fs => if fs.length < 1000 then QS (.nx, ρ) (S2.set n (.ins c (fput f d fs))) else False
    | none => False
  | _ => False
def kApp1 (me : ME0) (ρ : Rho) : D → Store → Prop := fun o S => match o with
  | .ref n => match lstAt S n with
    | some _ => W (me ρ S) (fun d S2 => match lstAt S2 n with
      | some ds => if ds.length < sizeLine then Q .non (S2.set n (.lst (ds ++ [d]))) else False
      | none => False) E
    | none => False
  | _ => False
def kApp2 (n : Nat) : D → Store → Prop := fun d S2 => match lstAt S2 n with
  | some ds => if ds.length < sizeLine then Q .non (S2.set n (.lst (ds ++ [d]))) else False
  | none => False
def kSt1 (mi : ME0) (ρ : Rho) (d : D) : D → Store → Prop := fun o S => W (mi ρ S) (fun i S2 => match setAt S2 o i d with
  | some S3 => QR ρ S3
  | none => False) E
def kSt2 (ρ : Rho) (d o : D) : D → Store → Prop := fun i S2 => match setAt S2 o i d with
  | some S3 => QR ρ S3
  | none => False
def kGsl1 (ma mb : ME0) (ρ : Rho) (d : D) : D → Store → Prop := fun o S1 => W (ma ρ S1) (fun i S2 => W (mb ρ S2) (fun j S3 => match o, i, j, d with
  | .ref n, .int a, .int c, .lst es => match lstAt S3 n with
    | some ds => if 0 ≤ a ∧ a ≤ c ∧ c ≤ ds.length ∧ ds.length + es.length ≤ sizeLine then QR ρ (S3.set n (.lst (ds.take a.toNat ++ es ++ ds.drop c.toNat))) else False
    | none => False
  | _, _, _, _ => False) E) E
def kGsl2 (mb : ME0) (ρ : Rho) (d o : D) : D → Store → Prop := fun i S2 => W (mb ρ S2) (fun j S3 => match o, i, j, d with
  | .ref n, .int a, .int c, .lst es => match lstAt S3 n with
    | some ds => if 0 ≤ a ∧ a ≤ c ∧ c ≤ ds.length ∧ ds.length + es.length ≤ sizeLine then QR ρ (S3.set n (.lst (ds.take a.toNat ++ es ++ ds.drop c.toNat))) else False
    | none => False
  | _, _, _, _ => False) E
def kGsl3 (ρ : Rho) (d o i : D) : D → Store → Prop := fun j S3 => match o, i, j, d with
  | .ref n, .int a, .int c, .lst es => match lstAt S3 n with
    | some ds => if 0 ≤ a ∧ a ≤ c ∧ c ≤ ds.length ∧ ds.length + es.length ≤ sizeLine then QR ρ (S3.set n (.lst (ds.take a.toNat ++ es ++ ds.drop c.toNat))) else False
    | none => False
  | _, _, _, _ => False
def kRgT : Int × Int → Store → Prop := fun x S => if RgB x.1 x.2 = true then Q (.tup (rgD x.1 x.2)) S else False
def kRgL : Int × Int → Store → Prop := fun x S => if RgB x.1 x.2 = true then Q (.lst (rgD x.1 x.2)) S else False
def kRgS : Int × Int → Store → Prop := fun x S => if RgB x.1 x.2 = true then Q (.ref S.length) (S ++ [.lst (rgD x.1 x.2)]) else False
def kRg1 (QP : Int × Int → Store → Prop) : D → Store → Prop := fun d S => match d with
  | .int i => QP (0, i) S
  | _ => False
def kItS : D → Store → Prop := fun d S => match d with
  | .str z => QI (itL (signsD z)) S
  | _ => False
def kPar (i j : Nat) (ρ : Rho) : List D → Store → Prop := fun ds S => match ds with
  | [x, y] => QS (.nx, (ρ.set i (some x)).set j (some y)) S
  | _ => False
def kPar3 (i j l : Nat) (ρ : Rho) : List D → Store → Prop := fun ds S => match ds with
  | [x, y, z] => QS (.nx, ((ρ.set i (some x)).set j (some y)).set l (some z)) S
  | _ => False
def kDisp (n : Nat) : List (D × D) → Store → Prop := fun qs S1 => match pkeys qs, S1[n]? with
  | some kvs, some (.dct []) => if kvs.length ≤ 15 then Q (.ref n) (S1.set n (.dct (putAll [] kvs))) else False
  | _, _ => False
def kPs1 (QP : List (D × D) → Store → Prop) (mv : ME0) (ps : List (ME0 × ME0)) (ρ : Rho) : D → Store → Prop := fun x S => W (mv ρ S) (fun y S2 => W (mPairs ps ρ S2) (fun qs S3 => QP ((x, y) :: qs) S3) E) E
def kPs2 (QP : List (D × D) → Store → Prop) (ps : List (ME0 × ME0)) (ρ : Rho) (x : D) : D → Store → Prop := fun y S2 => W (mPairs ps ρ S2) (fun qs S3 => QP ((x, y) :: qs) S3) E
def kPs3 (QP : List (D × D) → Store → Prop) (x y : D) : List (D × D) → Store → Prop := fun qs S3 => QP ((x, y) :: qs) S3
def kEn2 : List D → Store → Prop := fun ds S => match ds with
  | [.tup xs] => QI (itE xs) S
  | [.lst xs] => QI (itE xs) S
  | [.frz xs] => QI (itE xs) S
  | [.ref n] => match lstAt S n with
    | some _ => QI (itSE n) S
    | none => False
  | _ => False
end
section
variable {Q : D → Store → Prop} {QA : List D → Store → Prop} {QT : Bool → Store → Prop} {QS : Fl × Rho → Store → Prop} {QR : Rho → Store → Prop} {QI : ItD → Store → Prop} {QO : Option Int → Store → Prop} {QP : Int × Int → Store → Prop} {QQ : List (D × D) → Store → Prop} {E : Er → Store → Prop} {ρ : Rho} {S : Store}
theorem k_opt {d : D} : kOpt Q (some d) S = Q d S := rfl
/-! items -/
theorem atI_nat {α : Type} {ds : List α} (n : Nat) : atI ds (n : Int) = ds[n]? := by
  unfold atI ixN
  rw [if_pos (Int.natCast_nonneg n)]
  by_cases h : n < ds.length
  · rw [if_pos (by omega), Int.toNat_natCast]
    try rfl
  · rw [if_neg (by omega), List.getElem?_eq_none (by omega)]
    try rfl
theorem atI_lit {α : Type} {ds : List α} (n : Nat) : atI ds (no_index (@OfNat.ofNat Int n _)) = ds[n]? := atI_nat n
theorem atI_of {α : Type} {ds : List α} {i : Int} (h : 0 ≤ i) : atI ds i = ds[i.toNat]? := by
  rw [← atI_nat, Int.toNat_of_nonneg h]
theorem W_ixDT {ds : List D} {i : Int} : W (fIxD (.tup ds) (.int i) S) Q E = kOpt Q (atI ds i) S := by
  show W (fIx (.tup ds) (.int i) S) Q E = _
  unfold fIx
  show W (match atI ds i with
    | some d => .ok d S
    | none => .bad) Q E = _
  cases atI ds i <;> rfl
theorem W_ixDL {ds : List D} {i : Int} : W (fIxD (.lst ds) (.int i) S) Q E = kOpt Q (atI ds i) S := by
  show W (fIx (.lst ds) (.int i) S) Q E = _
  unfold fIx
  show W (match atI ds i with
    | some d => .ok d S
    | none => .bad) Q E = _
  cases atI ds i <;> rfl
theorem W_ixDF {ds : List D} {i : Int} : W (fIxD (.frz ds) (.int i) S) Q E = kOpt Q (atI ds i) S := by
  show W (fIx (.frz ds) (.int i) S) Q E = _
  unfold fIx
  show W (match atI ds i with
    | some d => .ok d S
    | none => .bad) Q E = _
  cases atI ds i <;> rfl
theorem lst_of_get {n : Nat} {ds : List D} (h : S[n]? = some (.lst ds)) : lstAt S n = some ds := by
  unfold lstAt
  rw [h]
theorem W_ixDS {n : Nat} {ds : List D} {i : Int} (h : S[n]? = some (.lst ds)) : W (fIxD (.ref n) (.int i) S) Q E = kOpt Q (atI ds i) S := by
  have hd : dget S n (.int i) = none := by
    unfold dget
    rw [h]
  unfold fIxD
  dsimp only
  rw [hd]
  dsimp only
  unfold fIx
  rw [show seqOf S (.ref n) = some ds from lst_of_get h]
  show W (match atI ds i with
    | some d => .ok d S
    | none => .bad) Q E = _
  cases atI ds i <;> rfl
theorem W_ixDK {n : Nat} {kvs : List (Key × D)} {y d : D} {k : Key} (h : S[n]? = some (.dct kvs)) (hk : keyOf y = some k) (hd : alook kvs k = some d) : W (fIxD (.ref n) y S) Q E = Q d S := by
  have : dget S n y = some (some d) := by
    unfold dget
    rw [h]
    dsimp only
    rw [hk, Option.map_some, hd]
  unfold fIxD
  dsimp only
  rw [this]
  rfl
theorem W_lenS {n : Nat} {ds : List D} (h : S[n]? = some (.lst ds)) : W (fLen [.ref n] S) Q E = Q (.int ds.length) S := by
  unfold fLen
  dsimp only
  rw [show seqOf S (.ref n) = some ds from lst_of_get h]
  rfl
theorem W_lenZ {z : Str} (h : z.length ≤ sizeLine) : W (fLen [.str z] S) Q E = Q (.int z.length) S := by
  unfold fLen
  dsimp only [seqOf]
  rw [if_pos h]
  rfl
/-! targets -/
theorem W_gTpT {n : Nat} {gs : MGs0} {ds : List D} (h : ds.length = n) : W (gTpA n gs (.tup ds) ρ S) QR E = W (gs ds ρ S) QR E := by
  show W (if ds.length = n then gs ds ρ S else .bad) QR E = _
  rw [if_pos h]
theorem W_gTpL {n : Nat} {gs : MGs0} {ds : List D} (h : ds.length = n) : W (gTpA n gs (.lst ds) ρ S) QR E = W (gs ds ρ S) QR E := by
  show W (if ds.length = n then gs ds ρ S else .bad) QR E = _
  rw [if_pos h]
theorem W_gTpS {n m : Nat} {gs : MGs0} {ds : List D} (hm : S[m]? = some (.lst ds)) (h : ds.length = n) : W (gTpA n gs (.ref m) ρ S) QR E = W (gs ds ρ S) QR E := by
  unfold gTpA
  rw [show seqOf S (.ref m) = some ds from lst_of_get hm]
  show W (if ds.length = n then gs ds ρ S else .bad) QR E = _
  rw [if_pos h]
/-! slices -/
theorem W_noPart : W (mNoPart ρ S) QO E = QO none S := rfl
theorem W_part {me : ME0} : W (mPart me ρ S) QO E = W (me ρ S) (kPart QO) E := by
  unfold mPart; rw [W_bind]
  congr 1
  funext d S1
  cases d <;> rfl
theorem k_part {i : Int} : kPart QO (.int i) S = QO (some i) S := rfl
theorem W_sl {me : ME0} {ml mh : MO0} : W (mSl me ml mh ρ S) Q E = W (me ρ S) (kSl1 Q E ml mh ρ) E := by
  unfold mSl kSl1
  simp only [W_bind]
theorem k_sl1 {ml mh : MO0} {x : D} : kSl1 Q E ml mh ρ x S = W (ml ρ S) (kSl2 Q E mh ρ x) E := rfl
theorem k_sl2 {mh : MO0} {x : D} {lo : Option Int} : kSl2 Q E mh ρ x lo S = W (mh ρ S) (kSl3 Q E x lo) E := rfl
theorem k_sl3T {ds : List D} {lo hi : Option Int} : kSl3 Q E (.tup ds) lo hi S = Q (.tup (cutD ds lo hi)) S := rfl
theorem k_sl3L {ds : List D} {lo hi : Option Int} : kSl3 Q E (.lst ds) lo hi S = Q (.lst (cutD ds lo hi)) S := rfl
theorem k_sl3S {n : Nat} {ds : List D} {lo hi : Option Int} (h : S[n]? = some (.lst ds)) : kSl3 Q E (.ref n) lo hi S = Q (.lst (cutD ds lo hi)) S := by
  show W (match lstOf S (.ref n) with
    | some ds => .ok (.lst (cutD ds lo hi)) S
    | none => .bad) Q E = _
  rw [show lstOf S (.ref n) = some ds from lst_of_get h]
  rfl
theorem W_revT {ds : List D} : W (fRev (.tup ds) S) Q E = Q (.tup ds.reverse) S := rfl
theorem W_revL {ds : List D} : W (fRev (.lst ds) S) Q E = Q (.lst ds.reverse) S := rfl
theorem sIx_in {n d : Nat} {a : Int} (h0 : 0 ≤ a) : HT.sIx n d (some a) = min a.toNat n := by
  show (if a < 0 then (a + (n : Int)).toNat else min a.toNat n) = _
  rw [if_neg (by omega)]
theorem cutD_mid {α : Type} {xs : List α} {a b : Int} (h0 : 0 ≤ a) (h1 : a ≤ xs.length) (h2 : 0 ≤ b) (h3 : b ≤ xs.length) : cutD xs (some a) (some b) = (xs.drop a.toNat).take (b.toNat - a.toNat) := by
  unfold cutD
  rw [sIx_in h0, sIx_in h2, Nat.min_eq_left (by omega), Nat.min_eq_left (by omega)]
theorem cutD_lo {α : Type} {xs : List α} {b : Int} (h2 : 0 ≤ b) : cutD xs none (some b) = xs.take b.toNat := by
  unfold cutD
  have e1 : HT.sIx xs.length 0 none = 0 := rfl
  rw [e1, List.drop_zero, Nat.sub_zero]
  by_cases h3 : b ≤ xs.length
  · rw [sIx_in h2, Nat.min_eq_left (by omega)]
  · rw [sIx_in h2, Nat.min_eq_right (by omega), List.take_length, List.take_of_length_le (by omega)]
theorem cutD_hi {α : Type} {xs : List α} {a : Int} (h0 : 0 ≤ a) : cutD xs (some a) none = xs.drop a.toNat := by
  unfold cutD
  have e2 : HT.sIx xs.length xs.length none = xs.length := rfl
  rw [e2]
  by_cases h1 : a ≤ xs.length
  · rw [sIx_in h0, Nat.min_eq_left (by omega), List.take_of_length_le (by rw [List.length_drop]; omega)]
  · rw [sIx_in h0, Nat.min_eq_right (by omega), List.drop_of_length_le (Nat.le_refl _), List.drop_of_length_le (by omega), List.take_nil]
/-! instances -/
theorem ins_of_get {c : Str} {n : Nat} {fs : List (Str × D)} (h : S[n]? = some (.ins c fs)) : insAt S c n = some fs := by
  unfold insAt
  rw [h]
  show (if c = c then some fs else none) = _
  rw [if_pos rfl]
theorem W_fld {c f : Str} {n : Nat} {fs : List (Str × D)} {d : D} (h : S[n]? = some (.ins c fs)) (hf : fs.lookup f = some d) : W (fFld c f (.ref n) S) Q E = Q d S := by
  unfold fFld
  dsimp only
  rw [ins_of_get h]
  dsimp only
  rw [hf]
  rfl
theorem W_meth {c x : Str} {m : List D → Store → Res D} {cds : List D} {mo : ME0} {ma : MA0} : W (mMeth c x m cds mo ma ρ S) Q E = W (mo ρ S) (kMeth1 Q E c x m cds ma ρ) E := by
  unfold mMeth kMeth1
  rw [W_bind]
  congr 1
  funext o S1
  cases o with
  | ref n =>
    dsimp only
    cases insAt S1 c n with
    | none => rfl
    | some fs =>
      dsimp only
      cases fs.lookup x with
      | none => dsimp only; rw [W_bind]
      | some d => rfl
  | _ => rfl
theorem k_meth1 {c x : Str} {m : List D → Store → Res D} {cds : List D} {ma : MA0} {n : Nat} {fs : List (Str × D)} (h : S[n]? = some (.ins c fs)) (hf : fs.lookup x = none) : kMeth1 Q E c x m cds ma ρ (.ref n) S = W (ma ρ S) (kMeth2 Q E m cds (.ref n)) E := by
  unfold kMeth1
  dsimp only
  rw [ins_of_get h]
  dsimp only
  rw [hf]
  rfl
theorem k_meth2 {m : List D → Store → Res D} {cds us : List D} {o : D} : kMeth2 Q E m cds o us S = W (m (o :: (us ++ cds)) S) Q E := rfl
theorem W_calm_eq {α : Type} {r : Res α} {QQ : α → Store → Prop} : W r.calm QQ E = W r QQ Er0 := by
  cases r <;> rfl
theorem W_prop {c : Str} {m : List D → Store → Res D} {mo : ME0} : W (mPropC c m mo ρ S) Q E = W (mo ρ S) (kProp Q c m) E := by
  unfold mPropC kProp
  rw [W_bind]
  congr 1
  funext o S1
  cases o with
  | ref n =>
    dsimp only
    cases insAt S1 c n with
    | none => rfl
    | some fs => exact W_calm_eq
  | _ => rfl
theorem k_prop {c : Str} {m : List D → Store → Res D} {n : Nat} {fs : List (Str × D)} (h : S[n]? = some (.ins c fs)) : kProp Q c m (.ref n) S = W (m [.ref n] S) Q Er0 := by
  unfold kProp
  dsimp only
  rw [ins_of_get h]
theorem W_make {c : Str} {m : List D → Store → Res D} {cds : List D} {ma : MA0} : W (mMake c m cds ma ρ S) Q E = W (ma ρ S) (kMake Q E c m cds) E := by
  unfold mMake kMake
  rw [W_bind]
  congr 1
  funext us S1
  rw [W_bind]
  congr 1
  funext r S2
  cases r <;> rfl
theorem k_make {c : Str} {m : List D → Store → Res D} {cds us : List D} : kMake Q E c m cds us S = W (m (.ref S.length :: (us ++ cds)) (S ++ [.ins c []])) (kMade Q S.length) E := rfl
theorem k_made {n : Nat} : kMade Q n .non S = Q (.ref n) S := rfl
theorem W_sFld {c f : Str} {mv mo : ME0} : W (sFld c f mv mo ρ S) QS E = W (mv ρ S) (kFldS1 QS E c f mo ρ) E := by
  unfold sFld kFldS1
  rw [W_bind]
  congr 1
  funext d S1
  rw [W_bind]
  congr 1
  funext x S2
  cases x with
  | ref n =>
    dsimp only
    cases insAt S2 c n with
    | none => rfl
    | some fs =>
      dsimp only
      by_cases h : fs.length < 1000
      · rw [if_pos h, if_pos h]; rfl
      · rw [if_neg h, if_neg h]; rfl
  | _ => rfl
theorem k_fldS1 {c f : Str} {mo : ME0} {d : D} : kFldS1 QS E c f mo ρ d S = W (mo ρ S) (kFldS2 QS c f ρ d) E := rfl
theorem k_fldS2 {c f : Str} {d : D} {n : Nat} {fs : List (Str × D)} (h : S[n]? = some (.ins c fs)) (hl : fs.length < 1000) : kFldS2 QS c f ρ d (.ref n) S = QS (.nx, ρ) (S.set n (.ins c (fput f d fs))) := by
  unfold kFldS2
  dsimp only
  rw [ins_of_get h]
  dsimp only
  rw [if_pos hl]
/-! lists -/
theorem W_app {mo me : ME0} : W (mApp mo me ρ S) Q E = W (mo ρ S) (kApp1 Q E me ρ) E := by
  unfold mApp kApp1
  rw [W_bind]
  congr 1
  funext o S1
  cases o with
  | ref n =>
    dsimp only
    cases lstAt S1 n with
    | none => rfl
    | some ds0 =>
      dsimp only
      rw [W_bind]
      congr 1
      funext d S2
      cases lstAt S2 n with
      | none => rfl
      | some ds =>
        dsimp only
        by_cases h : ds.length < sizeLine
        · rw [if_pos h, if_pos h]; rfl
        · rw [if_neg h, if_neg h]; rfl
  | _ => rfl
theorem k_app1 {me : ME0} {n : Nat} {ds : List D} (h : S[n]? = some (.lst ds)) : kApp1 Q E me ρ (.ref n) S = W (me ρ S) (kApp2 Q n) E := by
  unfold kApp1
  dsimp only
  rw [lst_of_get h]
  rfl
theorem k_app2 {n : Nat} {ds : List D} {d : D} (h : S[n]? = some (.lst ds)) (hl : ds.length < sizeLine) : kApp2 Q n d S = Q .non (S.set n (.lst (ds ++ [d]))) := by
  unfold kApp2
  rw [lst_of_get h]
  dsimp only
  rw [if_pos hl]
theorem W_frL {f : List D → Store → Option (List D)} {ds es : List D} (h : f ds S = some es) : W (frL f ds S) Q E = Q (.lst es) S := by
  unfold frL
  rw [h]
  rfl
theorem W_frS {f : List D → Store → Option (List D)} {ds es : List D} (h : f ds S = some es) : W (frS f ds S) Q E = Q (.ref S.length) (S ++ [.lst es]) := by
  unfold frS
  rw [h]
  rfl
theorem lList_dct {n : Nat} {kvs : List (Key × D)} (h : S[n]? = some (.dct kvs)) : lList [.ref n] S = some (kvs.map fun (kv : Key × D) => keyD kv.1) := by
  have h1 : lSeq [.ref n] S = none := by
    show seqOf S (.ref n) = none
    show lstAt S n = none
    unfold lstAt
    rw [h]
  unfold lList
  rw [h1]
  show lDct [.ref n] S = _
  unfold lDct
  dsimp only
  rw [show dctAt S (.ref n) = some kvs by unfold dctAt; dsimp only; rw [h]]
  rfl
theorem lList_seq {d : D} {ds : List D} (h : seqOf S d = some ds) : lList [d] S = some ds := by
  unfold lList
  rw [show lSeq [d] S = some ds from h]
theorem W_bits {i : Int} : W (fBits (.int i) S) Q E = Q (.int (Builtin.Int.intBits i : Nat)) S := rfl
theorem intsOf_map (ns : List Int) : intsOf (ns.map D.int) = some ns := by
  induction ns with
  | nil => rfl
  | cons n ns ih =>
    show (intsOf (ns.map D.int)).map (n :: ·) = _
    rw [ih]
    rfl
theorem strsOf_map (ns : List Str) : strsOf (ns.map D.str) = some ns := by
  induction ns with
  | nil => rfl
  | cons n ns ih =>
    show (strsOf (ns.map D.str)).map (n :: ·) = _
    rw [ih]
    rfl
theorem W_lenSetT {ns : List Int} (h : ns.length ≤ 4000) : W (fLenSet (.tup (ns.map .int)) S) Q E = Q (.int (dstn ns).length) S := by
  unfold fLenSet
  dsimp only [seqOf]
  rw [intsOf_map]
  dsimp only
  rw [if_pos h]
  rfl
theorem W_lenSetL {ns : List Int} (h : ns.length ≤ 4000) : W (fLenSet (.lst (ns.map .int)) S) Q E = Q (.int (dstn ns).length) S := by
  unfold fLenSet
  show W (match (some (ns.map D.int) : Option (List D)) with
    | some ds => match intsOf ds with
      | some ns => if ns.length ≤ 4000 then .ok (.int (dstn ns).length) S else .bad
      | none => .bad
    | none => .bad) Q E = _
  dsimp only
  rw [intsOf_map]
  dsimp only
  rw [if_pos h]
  rfl
/-! o[i] = v -/
theorem W_gSt {mo mi : ME0} {d : D} : W (gSt mo mi d ρ S) QR E = W (mo ρ S) (kSt1 QR E mi ρ d) E := by
  unfold gSt kSt1
  rw [W_bind]
  congr 1
  funext o S1
  rw [W_bind]
  congr 1
  funext i S2
  cases setAt S2 o i d <;> rfl
theorem k_st1 {mi : ME0} {d o : D} : kSt1 QR E mi ρ d o S = W (mi ρ S) (kSt2 QR ρ d o) E := rfl
theorem k_st2L {n j : Nat} {ds : List D} {k : Int} {d : D} (h : S[n]? = some (.lst ds)) (hj : ixN ds.length k = some j) : kSt2 QR ρ d (.ref n) (.int k) S = QR ρ (S.set n (.lst (ds.set j d))) := by
  unfold kSt2 setAt
  dsimp only
  rw [h]
  dsimp only
  rw [hj]
  rfl
theorem k_st2K {n : Nat} {kvs : List (Key × D)} {k : Key} {y d : D} (h : S[n]? = some (.dct kvs)) (hk : keyOf y = some k) (hl : kvs.length < sizeLine) : kSt2 QR ρ d (.ref n) y S = QR ρ (S.set n (.dct (aput kvs k d))) := by
  unfold kSt2 setAt
  dsimp only
  rw [h]
  dsimp only
  rw [hk]
  dsimp only
  rw [if_pos hl]
theorem W_gSl {mo ma mb : ME0} {d : D} : W (gSl mo ma mb d ρ S) QR E = W (mo ρ S) (kGsl1 QR E ma mb ρ d) E := by
  unfold gSl kGsl1
  rw [W_bind]
  congr 1
  funext o S1
  rw [W_bind]
  congr 1
  funext i S2
  rw [W_bind]
  congr 1
  funext j S3
  cases o with
  | ref n =>
    cases i with
    | int a =>
      cases j with
      | int c =>
        cases d with
        | lst es =>
          dsimp only
          cases lstAt S3 n with
          | none => rfl
          | some ds =>
            dsimp only
            split
            · rfl
            · rfl
        | _ => rfl
      | _ => rfl
    | _ => rfl
  | _ => rfl
theorem k_gsl1 {ma mb : ME0} {d o : D} : kGsl1 QR E ma mb ρ d o S = W (ma ρ S) (kGsl2 QR E mb ρ d o) E := rfl
theorem k_gsl2 {mb : ME0} {d o i : D} : kGsl2 QR E mb ρ d o i S = W (mb ρ S) (kGsl3 QR ρ d o i) E := rfl
theorem k_gsl3 {n : Nat} {a c : Int} {es ds : List D} (h : S[n]? = some (.lst ds)) (h0 : 0 ≤ a) (h1 : a ≤ c) (h2 : c ≤ ds.length) (h3 : ds.length + es.length ≤ sizeLine) : kGsl3 QR ρ (.lst es) (.ref n) (.int a) (.int c) S = QR ρ (S.set n (.lst (ds.take a.toNat ++ es ++ ds.drop c.toNat))) := by
  unfold kGsl3
  dsimp only
  rw [lst_of_get h]
  dsimp only
  rw [if_pos ⟨h0, h1, h2, h3⟩]
/-! ranges as values -/
theorem W_rgT {m : MRg0} : W (mRgT m ρ S) Q E = W (m ρ S) (kRgT Q) E := by
  unfold mRgT kRgT
  rw [W_bind]
  congr 1
  funext x S1
  by_cases h : RgB x.1 x.2 = true
  · rw [if_pos h, if_pos h]; rfl
  · rw [if_neg h, if_neg h]; rfl
theorem W_rgL {m : MRg0} : W (mRgL m ρ S) Q E = W (m ρ S) (kRgL Q) E := by
  unfold mRgL kRgL
  rw [W_bind]
  congr 1
  funext x S1
  by_cases h : RgB x.1 x.2 = true
  · rw [if_pos h, if_pos h]; rfl
  · rw [if_neg h, if_neg h]; rfl
theorem W_rgS {m : MRg0} : W (mRgS m ρ S) Q E = W (m ρ S) (kRgS Q) E := by
  unfold mRgS kRgS
  rw [W_bind]
  congr 1
  funext x S1
  by_cases h : RgB x.1 x.2 = true
  · rw [if_pos h, if_pos h]; rfl
  · rw [if_neg h, if_neg h]; rfl
theorem W_rg1 {me : ME0} : W (mRg1 me ρ S) QP E = W (me ρ S) (kRg1 QP) E := by
  unfold mRg1
  rw [W_bind]
  congr 1
  funext d S1
  cases d <;> rfl
theorem k_rg1 {i : Int} : kRg1 QP (.int i) S = QP (0, i) S := rfl
theorem RgB_0 {i : Int} (h0 : 0 ≤ i) (h1 : i ≤ 2 ^ 24) : RgB 0 i = true := by
  unfold RgB
  exact decide_eq_true ⟨by omega, by omega, by omega, by omega, by omega⟩
theorem k_rgT {i : Int} (h0 : 0 ≤ i) (h1 : i ≤ 2 ^ 24) : kRgT Q (0, i) S = Q (.tup (rgD 0 i)) S := by
  unfold kRgT
  rw [if_pos (RgB_0 h0 h1)]
theorem k_rgL {i : Int} (h0 : 0 ≤ i) (h1 : i ≤ 2 ^ 24) : kRgL Q (0, i) S = Q (.lst (rgD 0 i)) S := by
  unfold kRgL
  rw [if_pos (RgB_0 h0 h1)]
theorem k_rgS {i : Int} (h0 : 0 ≤ i) (h1 : i ≤ 2 ^ 24) : kRgS Q (0, i) S = Q (.ref S.length) (S ++ [.lst (rgD 0 i)]) := by
  unfold kRgS
  rw [if_pos (RgB_0 h0 h1)]
/-! isinstance -/
theorem W_isiT {bs : List String} {t : String} {d : D} {b : Bool} (h : tyD S d = some t) (hk : kitAnyB t bs = some b) : W (fIsiT bs d S) Q E = Q (.bl b) S := by
  unfold fIsiT
  rw [h]
  dsimp only
  rw [hk]
  rfl
theorem W_isiC {c : Str} {n : Nat} {fs : List (Str × D)} (h : S[n]? = some (.ins c fs)) : W (fIsiC c (.ref n) S) Q E = Q (.bl true) S := by
  have ht : tyD S (.ref n) = none := by
    show tyO S[n]? = none
    rw [h]
    rfl
  unfold fIsiC
  rw [ht]
  dsimp only
  rw [ins_of_get h]
  rfl
theorem W_isiCn {c : Str} {t : String} {d : D} (h : tyD S d = some t) : W (fIsiC c d S) Q E = Q (.bl false) S := by
  unfold fIsiC
  rw [h]
  rfl
/-! walks -/
theorem W_miS {me : ME0} : W (miS me ρ S) QI E = W (me ρ S) (kItS QI) E := by
  unfold miS
  rw [W_bind]
  congr 1
  funext d S1
  cases d <;> rfl
theorem k_itS {z : Str} : kItS QI (.str z) S = QI (itL (signsD z)) S := rfl
theorem k_it_ref {n : Nat} {ds : List D} (h : S[n]? = some (.lst ds)) : kIt QI (.ref n) S = QI (itS n) S := by
  unfold kIt
  rw [show itOf S (.ref n) = some (itS n) by show (lstAt S n).map _ = _; rw [lst_of_get h]; rfl]
theorem W_E2 {ma : MA0} : W (miE2 ma ρ S) QI E = W (ma ρ S) (kEn2 QI) E := by
  unfold miE2
  rw [W_bind]
  congr 1
  funext ds S1
  cases ds with
  | nil => rfl
  | cons d r =>
    cases d <;> cases r <;> try rfl
    unfold kEn2
    dsimp only
    rename_i n
    cases lstAt S1 n <;> rfl
theorem k_en2_tup {xs : List D} : kEn2 QI [.tup xs] S = QI (itE xs) S := rfl
theorem k_en2_lst {xs : List D} : kEn2 QI [.lst xs] S = QI (itE xs) S := rfl
theorem k_en2_frz {xs : List D} : kEn2 QI [.frz xs] S = QI (itE xs) S := rfl
theorem k_en2_ref {n : Nat} {ds : List D} (h : S[n]? = some (.lst ds)) : kEn2 QI [.ref n] S = QI (itSE n) S := by
  unfold kEn2
  dsimp only
  rw [lst_of_get h]
theorem W_R1q {ma : MA0} : W (miR1 ma ρ S) QI E = W (ma ρ S) (kR1 QI) E := by
  unfold miR1
  rw [W_bind]
  congr 1
  funext ds S1
  match ds with
  | [] => rfl
  | [.int j] =>
    show W (if -(2 ^ 62) ≤ j ∧ j < 2 ^ 62 then .ok (itR 0 j.toNat) S1 else .bad) QI E = (-(2 ^ 62) ≤ j ∧ j < 2 ^ 62 ∧ QI (itR 0 j.toNat) S1)
    by_cases h : -(2 ^ 62) ≤ j ∧ j < 2 ^ 62
    · rw [if_pos h]
      exact propext ⟨fun q => ⟨h.1, h.2, q⟩, fun q => q.2.2⟩
    · rw [if_neg h]
      exact propext ⟨fun q => q.elim, fun q => h ⟨q.1, q.2.1⟩⟩
  | [.non] => rfl
  | [.bl _] => rfl
  | [.str _] => rfl
  | [.tup _] => rfl
  | [.lst _] => rfl
  | [.frz _] => rfl
  | [.ref _] => rfl
  | [.non, _] => rfl
  | [.bl _, _] => rfl
  | [.int _, _] => rfl
  | [.str _, _] => rfl
  | [.tup _, _] => rfl
  | [.lst _, _] => rfl
  | [.frz _, _] => rfl
  | [.ref _, _] => rfl
  | a :: _ :: _ :: _ => cases a <;> rfl
theorem W_par {i j : Nat} {ma : MA0} : W (sPar i j ma ρ S) QS E = W (ma ρ S) (kPar QS i j ρ) E := by
  unfold sPar
  rw [W_bind]
  congr 1
  funext ds S1
  match ds with
  | [] => rfl
  | [_] => rfl
  | [_, _] => rfl
  | _ :: _ :: _ :: _ => rfl
theorem k_par {i j : Nat} {x y : D} : kPar QS i j ρ [x, y] S = QS (.nx, (ρ.set i (some x)).set j (some y)) S := rfl
theorem W_par3 {i j l : Nat} {ma : MA0} : W (sPar3 i j l ma ρ S) QS E = W (ma ρ S) (kPar3 QS i j l ρ) E := by
  unfold sPar3
  rw [W_bind]
  congr 1
  funext ds S1
  match ds with
  | [] => rfl
  | [_] => rfl
  | [_, _] => rfl
  | [_, _, _] => rfl
  | _ :: _ :: _ :: _ :: _ => rfl
theorem k_par3 {i j l : Nat} {x y z : D} : kPar3 QS i j l ρ [x, y, z] S = QS (.nx, ((ρ.set i (some x)).set j (some y)).set l (some z)) S := rfl
/-! dicts -/
theorem W_dct0 : W (mDct0 ρ S) Q E = Q (.ref S.length) (S ++ [.dct []]) := rfl
theorem W_disp {ps : List (ME0 × ME0)} : W (mDisp ps ρ S) Q E = W (mPairs ps ρ (S ++ [.dct []])) (kDisp Q S.length) E := by
  unfold mDisp
  rw [W_bind]
  congr 1
  funext qs S1
  unfold kDisp
  cases pkeys qs with
  | none => rfl
  | some kvs =>
    cases S1[S.length]? with
    | none => rfl
    | some o =>
      cases o with
      | dct zs =>
        cases zs with
        | nil =>
          dsimp only
          by_cases h : kvs.length ≤ 15
          · rw [if_pos h, if_pos h]; rfl
          · rw [if_neg h, if_neg h]; rfl
        | cons a b => rfl
      | _ => rfl
theorem W_pnil : W (mPairs [] ρ S) QQ E = QQ [] S := rfl
theorem W_pcons {mk mv : ME0} {ps : List (ME0 × ME0)} : W (mPairs ((mk, mv) :: ps) ρ S) QQ E = W (mk ρ S) (kPs1 E QQ mv ps ρ) E := by
  unfold mPairs kPs1
  simp only [W_bind, W_ok]
theorem k_ps1 {mv : ME0} {ps : List (ME0 × ME0)} {x : D} : kPs1 E QQ mv ps ρ x S = W (mv ρ S) (kPs2 E QQ ps ρ x) E := rfl
theorem k_ps2 {ps : List (ME0 × ME0)} {x y : D} : kPs2 E QQ ps ρ x y S = W (mPairs ps ρ S) (kPs3 QQ x y) E := rfl
theorem k_ps3 {x y : D} {qs : List (D × D)} : kPs3 QQ x y qs S = QQ ((x, y) :: qs) S := rfl
theorem k_disp {n : Nat} {qs : List (D × D)} {kvs : List (Key × D)} (h : pkeys qs = some kvs) (hn : S[n]? = some (.dct [])) (hl : kvs.length ≤ 15) : kDisp Q n qs S = Q (.ref n) (S.set n (.dct (putAll [] kvs))) := by
  unfold kDisp
  rw [h, hn]
  dsimp only
  rw [if_pos hl]
end
/-! ### loops over what stands in the store -/
section
variable {QS : Fl × Rho → Store → Prop} {QA : List D → Store → Prop} {Q : D → Store → Prop} {E : Er → Store → Prop} {g : MG0} {b : MS0} {it : ItD} {xs : List D} {tt : MT0} {te mk mv : ME0}
theorem W_forLI (I : Nat → Rho → Store → Prop) (hx : ∀ i ρ S, I i ρ S → it.get i S = some xs[i]?) (hs : ∀ i d ρ S, xs[i]? = some d → I i ρ S → W (g d ρ S) (kBody QS E (I (i + 1)) b) E) (he : ∀ ρ S, I xs.length ρ S → QS (.nx, ρ) S) : ∀ (n i : Nat) (ρ : Rho) (S : Store), xs.length < i + n → i ≤ xs.length → I i ρ S → W (forL g b n i it ρ S) QS E
  | 0, i, ρ, S, h1, h2, _ => by omega
  | n + 1, i, ρ, S, h1, h2, hI => by
    unfold forL
    rw [hx i ρ S hI]
    cases hi : xs[i]? with
    | none =>
      have : i = xs.length := by have := List.getElem?_eq_none_iff.mp hi; omega
      subst this
      exact he ρ S hI
    | some d =>
      dsimp only
      rw [W_bind]
      refine (hs i d ρ S hi hI).mono fun ρ1 S1 h => ?_
      rw [W_bind]
      refine W.mono h fun x S2 h => ?_
      obtain ⟨hl, _⟩ := List.getElem?_eq_some_iff.mp hi
      obtain ⟨fl, ρ2⟩ := x
      cases fl with
      | nx => exact W_forLI I hx hs he n (i + 1) ρ2 S2 (by omega) (by omega) h
      | ct => exact W_forLI I hx hs he n (i + 1) ρ2 S2 (by omega) (by omega) h
      | bk => exact h
      | rt d => exact h
/-- as k_for, the walked thing as it stands where the invariant holds -/
theorem k_forI {ρ : Rho} {S : Store} (xs : List D) (hl : xs.length < BIG) (I : Nat → Rho → Store → Prop) (h0 : I 0 ρ S) (hx : ∀ i ρ S, I i ρ S → it.get i S = some xs[i]?) (hs : ∀ i d ρ S, xs[i]? = some d → I i ρ S → W (g d ρ S) (kBody QS E (I (i + 1)) b) E) (he : ∀ ρ S, I xs.length ρ S → QS (.nx, ρ) S) : kFor QS E g b ρ it S :=
  W_forLI I hx hs he BIG 0 ρ S (by omega) (by omega) h0
theorem get_itS {n : Nat} {S : Store} {ds : List D} (h : S[n]? = some (.lst ds)) (i : Nat) : (itS n).get i S = some ds[i]? := by
  show (lstAt S n).map (fun ds => ds[i]?) = _
  rw [lst_of_get h]
  rfl
theorem get_itSE {n : Nat} {S : Store} {ds : List D} (h : S[n]? = some (.lst ds)) (i : Nat) : (itSE n).get i S = some (enumD ds)[i]? := by
  show (lstAt S n).map (fun ds => ds[i]?.map fun d => D.tup [.int i, d]) = _
  rw [lst_of_get h]
  exact lst_E ds i S
theorem W_lcLoopI {ρ : Rho} (I : Nat → List D → Store → Prop) (hx : ∀ i acc S, I i acc S → it.get i S = some xs[i]?) (hs : ∀ i d acc S, xs[i]? = some d → I i acc S → W (g d ρ S) (kLc1 tt te (fun y S' => acc.length < sizeLine ∧ I (i + 1) (acc ++ [y]) S') (fun S' => I (i + 1) acc S')) Er0) (he : ∀ acc S, I xs.length acc S → QA acc S) :
    ∀ (n i : Nat) (acc : List D) (S : Store), xs.length < i + n → i ≤ xs.length → I i acc S → W (lcL g tt te n i it ρ acc S) QA E
  | 0, i, acc, S, h1, h2, _ => by omega
  | n + 1, i, acc, S, h1, h2, hI => by
    unfold lcL
    rw [hx i acc S hI]
    cases hi : xs[i]? with
    | none =>
      have : i = xs.length := by have := List.getElem?_eq_none_iff.mp hi; omega
      subst this
      exact he acc S hI
    | some d =>
      dsimp only
      rw [W_bind]
      obtain ⟨hl, _⟩ := List.getElem?_eq_some_iff.mp hi
      refine W_calm ((hs i d acc S hi hI).mono fun ρ1 S1 h => ?_)
      rw [W_bind]
      refine W_calm (W.mono h fun bb S2 h => ?_)
      cases bb with
      | true =>
        rw [if_pos rfl] at h ⊢
        rw [W_bind]
        refine W_calm (W.mono h fun y S3 h => ?_)
        rw [if_pos h.1]
        exact W_lcLoopI I hx hs he n (i + 1) _ S3 (by omega) (by omega) h.2
      | false =>
        rw [if_neg Bool.false_ne_true] at h ⊢
        exact W_lcLoopI I hx hs he n (i + 1) _ S2 (by omega) (by omega) h
theorem k_lcI {ρ : Rho} {S : Store} {vs : List Nat} (xs : List D) (hl : xs.length < BIG) (I : Nat → List D → Store → Prop) (h0 : I 0 [] S) (hx : ∀ i acc S, I i acc S → it.get i S = some xs[i]?) (hs : ∀ i d acc S, xs[i]? = some d → I i acc S → W (g d (wipeD ρ vs) S) (kLc1 tt te (fun y S' => acc.length < sizeLine ∧ I (i + 1) (acc ++ [y]) S') (fun S' => I (i + 1) acc S')) Er0) (he : ∀ acc S, I xs.length acc S → QA acc S) : kLc QA E g tt te vs ρ it S :=
  W_lcLoopI I hx hs he BIG 0 [] S (by omega) (by omega) h0
/-- a comprehension that keeps the store where it matters -/
theorem k_lc_mapI {ρ : Rho} {S : Store} {vs : List Nat} {f : D → D} (xs : List D) (hl : xs.length < sizeLine) (Z : Store → Prop) (h0 : Z S) (hx : ∀ i S, Z S → it.get i S = some xs[i]?) (h : ∀ d ∈ xs, ∀ S, Z S → ∀ Y : D → Store → Prop, (∀ S', Z S' → Y (f d) S') → W (g d (wipeD ρ vs) S) (kEl te Y) Er0) (hq : ∀ S', Z S' → QA (xs.map f) S') : kLc QA E g mYes te vs ρ it S := by
  refine k_lcI xs (Nat.lt_trans hl (by decide)) (fun i acc S' => Z S' ∧ acc = (xs.take i).map f) ⟨h0, rfl⟩ (fun i acc S' hI => hx i S' hI.1) (fun i d acc S' hi hI => ?_) fun acc S' hI => ?_
  · obtain ⟨hz, rfl⟩ := hI
    refine W.mono (h d (List.mem_of_getElem? hi) S' hz (fun y S2 => y = f d ∧ Z S2) fun S2 h2 => ⟨rfl, h2⟩) fun ρ1 S1 h1 => ?_
    rw [k_el] at h1
    rw [k_lc1, W_yes, k_lc2_t]
    refine h1.mono fun y S2 h2 => ?_
    obtain ⟨rfl, h2⟩ := h2
    refine ⟨?_, h2, ?_⟩
    · rw [List.length_map, List.length_take]
      omega
    · rw [List.take_add_one, hi, List.map_append]
      rfl
  · obtain ⟨hz, rfl⟩ := hI
    rw [List.take_length]
    exact hq S' hz
/-! dict comprehensions -/
def kDc (Q : D → Store → Prop) (E : Er → Store → Prop) (g : MG0) (tt : MT0) (mk mv : ME0) (vs : List Nat) (ρ : Rho) : ItD → Store → Prop := fun it S => W (dcL g tt mk mv S.length BIG 0 it (wipeD ρ vs) (S ++ [.dct []])) (fun _ S2 => Q (.ref S.length) S2) E
theorem W_dc {mi : MI0} {ρ : Rho} {S : Store} {vs : List Nat} : W (mDc mi g tt mk mv vs ρ S) Q E = W (mi ρ S) (kDc Q E g tt mk mv vs ρ) E := by
  unfold mDc kDc
  simp only [W_bind, W_ok]
/-- what a turn leads to -/
def kDc1 (tt : MT0) (mk mv : ME0) (Y : D → D → Store → Prop) (N : Store → Prop) : Rho → Store → Prop := fun ρ S => W (tt ρ S) (fun b S2 => if b = true then W (mk ρ S2) (fun y S3 => W (mv ρ S3) (fun z S4 => Y y z S4) Er0) Er0 else N S2) Er0
def kDc2 (mk mv : ME0) (ρ : Rho) (Y : D → D → Store → Prop) (N : Store → Prop) : Bool → Store → Prop := fun b S2 => if b = true then W (mk ρ S2) (fun y S3 => W (mv ρ S3) (fun z S4 => Y y z S4) Er0) Er0 else N S2
def kDc3 (mv : ME0) (ρ : Rho) (Y : D → D → Store → Prop) : D → Store → Prop := fun y S3 => W (mv ρ S3) (fun z S4 => Y y z S4) Er0
def kDc4 (Y : D → D → Store → Prop) (y : D) : D → Store → Prop := fun z S4 => Y y z S4
theorem k_dc1 {Y : D → D → Store → Prop} {N : Store → Prop} {ρ : Rho} {S : Store} : kDc1 tt mk mv Y N ρ S = W (tt ρ S) (kDc2 mk mv ρ Y N) Er0 := rfl
theorem k_dc2_t {Y : D → D → Store → Prop} {N : Store → Prop} {ρ : Rho} {S : Store} : kDc2 mk mv ρ Y N true S = W (mk ρ S) (kDc3 mv ρ Y) Er0 := rfl
theorem k_dc2_f {Y : D → D → Store → Prop} {N : Store → Prop} {ρ : Rho} {S : Store} : kDc2 mk mv ρ Y N false S = N S := rfl
theorem k_dc3 {Y : D → D → Store → Prop} {ρ : Rho} {S : Store} {y : D} : kDc3 mv ρ Y y S = W (mv ρ S) (kDc4 Y y) Er0 := rfl
theorem k_dc4 {Y : D → D → Store → Prop} {S : Store} {y z : D} : kDc4 Y y z S = Y y z S := rfl
theorem W_dcLoop {ρ : Rho} {n0 : Nat} {QU : Unit → Store → Prop} (I : Nat → Store → Prop) (hx : ∀ i S, I i S → it.get i S = some xs[i]?)
    (hs : ∀ i d S, xs[i]? = some d → I i S → W (g d ρ S) (kDc1 tt mk mv (fun y z S' => ∃ k kvs, keyOf y = some k ∧ S'[n0]? = some (.dct kvs) ∧ kvs.length < sizeLine ∧ I (i + 1) (S'.set n0 (.dct (aput kvs k z)))) (fun S' => I (i + 1) S')) Er0) (he : ∀ S, I xs.length S → QU () S) :
    ∀ (n i : Nat) (S : Store), xs.length < i + n → i ≤ xs.length → I i S → W (dcL g tt mk mv n0 n i it ρ S) QU E
  | 0, i, S, h1, h2, _ => by omega
  | n + 1, i, S, h1, h2, hI => by
    unfold dcL
    rw [hx i S hI]
    cases hi : xs[i]? with
    | none =>
      have : i = xs.length := by have := List.getElem?_eq_none_iff.mp hi; omega
      subst this
      exact he S hI
    | some d =>
      dsimp only
      rw [W_bind]
      obtain ⟨hl, _⟩ := List.getElem?_eq_some_iff.mp hi
      refine W_calm ((hs i d S hi hI).mono fun ρ1 S1 h => ?_)
      rw [W_bind]
      refine W_calm (W.mono h fun bb S2 h => ?_)
      cases bb with
      | true =>
        rw [if_pos rfl] at h ⊢
        rw [W_bind]
        refine W_calm (W.mono h fun y S3 h => ?_)
        rw [W_bind]
        refine W_calm (W.mono h fun z S4 h => ?_)
        obtain ⟨k, kvs, e1, e2, e3, e4⟩ := h
        rw [e1, e2]
        dsimp only
        rw [if_pos e3]
        exact W_dcLoop I hx hs he n (i + 1) _ (by omega) (by omega) e4
      | false =>
        rw [if_neg Bool.false_ne_true] at h ⊢
        exact W_dcLoop I hx hs he n (i + 1) S2 (by omega) (by omega) h
theorem k_dc {ρ : Rho} {S : Store} {vs : List Nat} (xs : List D) (hl : xs.length < BIG) (I : Nat → Store → Prop) (h0 : I 0 (S ++ [.dct []])) (hx : ∀ i S, I i S → it.get i S = some xs[i]?)
    (hs : ∀ i d S', xs[i]? = some d → I i S' → W (g d (wipeD ρ vs) S') (kDc1 tt mk mv (fun y z S' => ∃ k kvs, keyOf y = some k ∧ S'[S.length]? = some (.dct kvs) ∧ kvs.length < sizeLine ∧ I (i + 1) (S'.set S.length (.dct (aput kvs k z)))) (fun S' => I (i + 1) S')) Er0) (he : ∀ S', I xs.length S' → Q (.ref S.length) S') : kDc Q E g tt mk mv vs ρ it S :=
  W_dcLoop I hx hs he BIG 0 _ (by omega) (by omega) h0
end
/-! ### equality, lists of the store too -/
section
variable {Q : D → Store → Prop} {E : Er → Store → Prop} {S : Store}
mutual
theorem flat_pyR : ∀ {f n : Nat} {d : D}, flat n d = true → n < f → toPyR S f d = some (pyOf d)
  | 0, n, d, h, hf => by omega
  | f + 1, n, .non, h, hf => by unfold pyOf; rfl
  | f + 1, n, .bl b, h, hf => by unfold pyOf; rfl
  | f + 1, n, .int i, h, hf => by unfold pyOf; rfl
  | f + 1, n, .str z, h, hf => by unfold pyOf; rfl
  | f + 1, n + 1, .tup ds, h, hf => by
    unfold flat at h
    unfold pyOf
    show (optAll (ds.map (toPyR S f))).map PyData.tuple = _
    rw [flatL_pyR h (by omega)]
    rfl
  | f + 1, n + 1, .lst ds, h, hf => by
    unfold flat at h
    unfold pyOf
    show (optAll (ds.map (toPyR S f))).map PyData.list = _
    rw [flatL_pyR h (by omega)]
    rfl
  | f + 1, 0, .tup ds, h, hf => by unfold flat at h; cases h
  | f + 1, 0, .lst ds, h, hf => by unfold flat at h; cases h
  | f + 1, n, .frz ds, h, hf => by unfold flat at h; cases h
  | f + 1, n, .ref ds, h, hf => by unfold flat at h; cases h
theorem flatL_pyR : ∀ {f n : Nat} {ds : List D}, flatL n ds = true → n < f → optAll (ds.map (toPyR S f)) = some (pyOfL ds)
  | f, n, [], h, hf => by unfold pyOfL; rfl
  | f, n, d :: ds, h, hf => by
    unfold flatL at h
    obtain ⟨h1, h2⟩ := Bool.and_eq_true_iff.mp h
    rw [List.map_cons]
    unfold optAll pyOfL
    rw [flat_pyR h1 hf, flatL_pyR h2 hf]
end
theorem W_eq2F {neg : Bool} {x y : D} (hx : flat 64 x = true) (hy : flat 64 y = true) : W (fEq2 neg x y S) Q E = Q (.bl (if neg then !eqD x y else eqD x y)) S := by
  unfold fEq2
  rw [eqRes_flat hx hy]
  rfl
theorem W_eq2I {neg : Bool} {i j : Int} : W (fEq2 neg (.int i) (.int j) S) Q E = Q (.bl (if neg then !decide (i = j) else decide (i = j))) S := by
  rw [W_eq2F (by unfold flat; rfl) (by unfold flat; rfl)]
  have : eqD (.int i) (.int j) = decide (i = j) := by
    simp only [eqD, pyOf, PyData.eqv]
    rfl
  rw [this]
theorem W_eq2N {neg : Bool} {x y : D} [h : Decidable (x = y)] (hx : flat 64 x = true) (hy : flat 64 y = true) (nx : noB x = true) (ny : noB y = true) : W (fEq2 neg x y S) Q E = Q (.bl (if neg then !decide (x = y) else decide (x = y))) S := by
  rw [W_eq2F hx hy]
  have : eqD x y = decide (x = y) := by
    rw [Bool.eq_iff_iff, eqD_iff nx ny, decide_eq_true_iff]
  rw [this]
theorem W_eq2Ref {neg : Bool} {n : Nat} {xs : List D} {y : D} (h : S[n]? = some (.lst xs)) (hx : flat 64 (.lst xs) = true) (hy : flat 64 y = true) : W (fEq2 neg (.ref n) y S) Q E = Q (.bl (if neg then !eqD (.lst xs) y else eqD (.lst xs) y)) S := by
  have h1 : eqRes S neg (.ref n) y = none := by
    unfold eqRes
    rw [show toPy S (.ref n) = none by unfold toPy; rfl]
  have e1 : toPyR S 70 (.ref n) = some (pyOf (.lst xs)) := by
    show (match lstAt S n with
      | some ds => (optAll (ds.map (toPyR S 69))).map PyData.list
      | none => none) = _
    rw [lst_of_get h]
    unfold flat at hx
    show (optAll (xs.map (toPyR S 69))).map PyData.list = _
    rw [flatL_pyR (n := 63) hx (by decide)]
    unfold pyOf
    rfl
  have e2 : toPyR S 70 y = some (pyOf y) := flat_pyR (n := 64) hy (by decide)
  have h2 : eqResR S neg (.ref n) y = some (if neg then !eqD (.lst xs) y else eqD (.lst xs) y) := by
    obtain ⟨a1, a2, a3⟩ := flat_py S hx
    obtain ⟨b1, b2, b3⟩ := flat_py S hy
    unfold eqResR
    rw [e1, e2]
    dsimp only
    rw [if_pos]
    · rfl
    · unfold SeqAt.shaped
      rw [a2, b2, decide_eq_true a3, decide_eq_true b3]
      exact ⟨rfl, rfl⟩
  unfold fEq2
  rw [h1]
  dsimp only
  rw [h2]
  rfl
end
end MM

namespace MM
open PySem PySem.Spec L2 PyProof.Rows
/-! ### the text by places, what is asked of the top -/
def topS (i : Nat) : Stmt := PySem.Challenge.pw_lazytags_k34_idle_steps_and_swaps.main.body.getD i (.Pass ⟨0, 0, 0, 0⟩)
abbrev s__law_at : Stmt := topS 41
abbrev s__law_purse : Stmt := topS 43
abbrev s__law_mixed : Stmt := topS 42
abbrev s__law_draw : Stmt := topS 44
abbrev s__law_machine : Stmt := topS 45
abbrev s__law_own : Stmt := topS 46
abbrev s_is_integer : Stmt := topS 15
abbrev s_require_size : Stmt := topS 17
abbrev s_is_name : Stmt := topS 23
abbrev s_is_row : Stmt := topS 16
abbrev s_is_map : Stmt := topS 24
abbrev s_taken_maps : Stmt := topS 25
abbrev s_fault_of : Stmt := topS 18
abbrev s_taken_asks : Stmt := topS 26
abbrev s_Setting__init : Stmt := inClass (topS 27) 0
abbrev s__law_setting : Stmt := topS 47
abbrev s__law_deeds : Stmt := topS 48
abbrev s__law_plan : Stmt := topS 49
abbrev s__law_form : Stmt := topS 50
abbrev s_require_setting : Stmt := topS 28
abbrev s_require_length : Stmt := topS 33
abbrev s_Setting__deeds : Stmt := inClass (topS 27) 4
abbrev s_Setting__has_deed : Stmt := inClass (topS 27) 7
abbrev s_is_range : Stmt := topS 31
abbrev s_is_step : Stmt := topS 32
abbrev s_require_plan : Stmt := topS 34
abbrev s_entry_after : Stmt := topS 35
abbrev s_plain_form : Stmt := topS 36
abbrev s_form_of : Stmt := topS 37
abbrev s_swaps : Stmt := topS 39
abbrev s_idle : Stmt := topS 38
abbrev s__law_right : Stmt := topS 51
abbrev s_law : Stmt := topS 52
structure Bi (mg : Str → Option Value) : Prop where
  b_all : mg "all" = none
  b_bool : mg "bool" = none
  b_dict : mg "dict" = none
  b_enumerate : mg "enumerate" = none
  b_int : mg "int" = none
  b_isinstance : mg "isinstance" = none
  b_len : mg "len" = none
  b_list : mg "list" = none
  b_max : mg "max" = none
  b_min : mg "min" = none
  b_range : mg "range" = none
  b_set : mg "set" = none
  b_sorted : mg "sorted" = none
  b_str : mg "str" = none
  b_tuple : mg "tuple" = none
  c_LETTERS : ∃ t, mg "LETTERS" = some (.str "abcdefghijklmnopqrstuvwxyz" t)
  c_MOST_ANSWER : ∃ t, mg "MOST_ANSWER" = some (.int 99 t)
  c_MOST_LENGTH : ∃ t, mg "MOST_LENGTH" = some (.int 60 t)
  c_MOST_LETTERS : ∃ t, mg "MOST_LETTERS" = some (.int 8 t)
  c_MOST_VALUES : ∃ t, mg "MOST_VALUES" = some (.int 4 t)
  c_TURN : ∃ t, mg "TURN" = some (.str "turn" t)
structure Ci_Setting (K : PySem.W.Frag) (mg : Str → Option Value) (C : Addr) : Prop where
  A : ClsAt K mg "Setting" C
  na_size : NoAttr K C "size"
  na_own_maps : NoAttr K C "own_maps"
  na_own_asks : NoAttr K C "own_asks"
  na_turning : NoAttr K C "turning"
  I : IsiAt K mg "Setting" C
section
variable {T : List Addr} {P : Program} {w : World} {K : PySem.W.Frag} {mg : Str → Option Value} {base : Heap}
/-! ### _law_at -/
theorem sc__law_at : FnScope ["_law_script", "_law_k"] ["_law_script", "_law_k"] (defScope s__law_at) := ⟨rfl, rfl, rfl, by decide +kernel, rfl, by decide +kernel, by decide +kernel⟩
def m__law_at : List D → Store → Res D := mDef 2 ((sSeq (sIf (mB (mOp fLtI (mVar 1) (mCall fLen (mCons (mVar 0) mNil)))) (sRet (mOp fIxD (mVar 0) (mVar 1))) sNx)
  (sRet (mC (.int 0)))))
theorem ok__law_at {f : Addr} {fd : FuncData} (D : DefAt K mg "_law_at" s__law_at f fd) (B : Bi mg) : Cl T P w K mg base 1 "_law_at" ["_law_script", "_law_k"] f fd 2 m__law_at := by
  refine ⟨fn_ok D.F sc__law_at rfl (fun cdv A outer s H E hr => ?_), D.m, D.F.kp, D.F.binds fun _ _ _ _ _ _ us hl => match us, hl with | [_, _], _ => rfl⟩
  let X := cxOf (L2.CX P w) P w K mg base ["_law_script", "_law_k"] "_law_at" (defScope s__law_at) f cdv A outer s H E
  have tk : Takes X (fun cls d _ H => E cls d H) := takes_of rfl rfl rfl rfl
  have hx : Passes (L2.CX P w) X E := passes_call tk fun _ _ _ _ z => z
  have po : PassesOwn (model P w) X.A X.env X.xe := passes_of rfl
  exact (mss_cons (ms_if (mt_cmp op_lt o_lt (me_var 1) (me_len (by rfl) B.b_len (ma_cons (me_var 0) ma_nil))) (mss_one (ms_ret (me_ixD hr.units (me_var 0) (me_var 1)))) mss_nil)
      (mss_one (ms_ret me_int)))
/-! ### _law_purse -/
theorem sc__law_purse : FnScope ["_law_script", "_law_at_here", "_law_cell"] ["_law_script", "_law_at_here"] (defScope s__law_purse) := ⟨rfl, rfl, rfl, by decide +kernel, rfl, by decide +kernel, by decide +kernel⟩
def m__law_purse : List D → Store → Res D := mDef 3 ((sSeq (sAsg (mCall m__law_at (mCons (mVar 0) (mCons (mVar 1) mNil))) (gN 2))
  (sRet (mLstS (mCons (mOp fMod (mCall fInt (mCons (mCall fMax2 (mCons (mOp fSub (mVar 2) (mOp fPowW (mC (.int 10)) (mC (.int 18)))) (mCons (mC (.int 0)) mNil))) mNil)) (mOp fPowW (mOp fPowW (mC (.int 10)) (mC (.int 60))) (mC (.int 10)))) (mCons (mOp fMod (mCall fInt (mCons (mVar 2) mNil)) (mC (.int 2147483647))) (mCons (mOp fMul (mC (.int 1000)) (mVar 1)) mNil)))))))
theorem ok__law_purse {f : Addr} {fd : FuncData} (D : DefAt K mg "_law_purse" s__law_purse f fd) (B : Bi mg) {f__law_at : Addr} {fd__law_at : FuncData} (C__law_at : Cl T P w K mg base 1 "_law_at" ["_law_script", "_law_k"] f__law_at fd__law_at 2 m__law_at) : Cl T P w K mg base 2 "_law_purse" ["_law_script", "_law_at_here"] f fd 2 m__law_purse := by
  refine ⟨fn_ok D.F sc__law_purse rfl (fun cdv A outer s H E hr => ?_), D.m, D.F.kp, D.F.binds fun _ _ _ _ _ _ us hl => match us, hl with | [_, _], _ => rfl⟩
  let X := cxOf (L2.CX P w) P w K mg base ["_law_script", "_law_at_here", "_law_cell"] "_law_purse" (defScope s__law_purse) f cdv A outer s H E
  have tk : Takes X (fun cls d _ H => E cls d H) := takes_of rfl rfl rfl rfl
  have hx : Passes (L2.CX P w) X E := passes_call tk fun _ _ _ _ z => z
  have po : PassesOwn (model P w) X.A X.env X.xe := passes_of rfl
  exact (mss_cons (ms_set (i := 2) sc__law_purse.nd rfl (me_call C__law_at.ok (hr.mono (by decide)) (by rfl) C__law_at.m C__law_at.kp C__law_at.b hx (ma_cons (me_var 0) (ma_cons (me_var 1) ma_nil))))
      (mss_one (ms_ret (me_lstS (ma_cons (me_mod (me_int1 (by rfl) B.b_int (ma_cons (me_max2 rfl (by rfl) B.b_max (ma_cons (me_sub (me_var 2) (me_powW me_int me_int)) (ma_cons me_int ma_nil))) ma_nil)) (me_powW (me_powW me_int me_int) me_int)) (ma_cons (me_mod (me_int1 (by rfl) B.b_int (ma_cons (me_var 2) ma_nil)) me_int) (ma_cons (me_mulA me_int (me_var 1)) ma_nil)))))))
/-! ### _law_mixed -/
theorem sc__law_mixed : FnScope ["_law_cell", "_law_k", "_law_number"] ["_law_cell", "_law_k"] (defScope s__law_mixed) := ⟨rfl, rfl, rfl, by decide +kernel, rfl, by decide +kernel, by decide +kernel⟩
def m__law_mixed : List D → Store → Res D := mDef 3 ((sSeq (sAsg (mOp fMod (mCall fInt (mCons (mOp fAdd (mOp fAdd (mOp fAdd (mOp fMul (mVar 0) (mC (.int 1103515245))) (mOp fMul (mOp fMul (mC (.int 7919)) (mVar 1)) (mVar 1))) (mVar 1)) (mC (.int 1))) mNil)) (mC (.int 2147483647))) (gN 2))
  (sSeq (sAsg (mOp fMod (mCall fInt (mCons (mOp fAdd (mOp fMul (mVar 2) (mVar 2)) (mC (.int 69621))) mNil)) (mC (.int 2147483629))) (gN 2))
  (sRet (mOp fMod (mCall fInt (mCons (mOp fMul (mVar 2) (mC (.int 48271))) mNil)) (mC (.int 2147483587)))))))
theorem ok__law_mixed {f : Addr} {fd : FuncData} (D : DefAt K mg "_law_mixed" s__law_mixed f fd) (B : Bi mg) : Cl T P w K mg base 1 "_law_mixed" ["_law_cell", "_law_k"] f fd 2 m__law_mixed := by
  refine ⟨fn_ok D.F sc__law_mixed rfl (fun cdv A outer s H E hr => ?_), D.m, D.F.kp, D.F.binds fun _ _ _ _ _ _ us hl => match us, hl with | [_, _], _ => rfl⟩
  let X := cxOf (L2.CX P w) P w K mg base ["_law_cell", "_law_k", "_law_number"] "_law_mixed" (defScope s__law_mixed) f cdv A outer s H E
  have tk : Takes X (fun cls d _ H => E cls d H) := takes_of rfl rfl rfl rfl
  have hx : Passes (L2.CX P w) X E := passes_call tk fun _ _ _ _ z => z
  have po : PassesOwn (model P w) X.A X.env X.xe := passes_of rfl
  exact (mss_cons (ms_set (i := 2) sc__law_mixed.nd rfl (me_mod (me_int1 (by rfl) B.b_int (ma_cons (me_add (me_add (me_add (me_mulA (me_var 0) me_int) (me_mulA (me_mulA me_int (me_var 1)) (me_var 1))) (me_var 1)) me_int) ma_nil)) me_int))
      (mss_cons (ms_set (i := 2) sc__law_mixed.nd rfl (me_mod (me_int1 (by rfl) B.b_int (ma_cons (me_add (me_mulA (me_var 2) (me_var 2)) me_int) ma_nil)) me_int))
      (mss_one (ms_ret (me_mod (me_int1 (by rfl) B.b_int (ma_cons (me_mulA (me_var 2) me_int) ma_nil)) me_int)))))
/-! ### _law_draw -/
theorem sc__law_draw : FnScope ["_law_purse_here", "_law_out_of", "_law_number", "_law_k", "_law_drawn"] ["_law_purse_here", "_law_out_of"] (defScope s__law_draw) := ⟨rfl, rfl, rfl, by decide +kernel, rfl, by decide +kernel, by decide +kernel⟩
def m__law_draw : List D → Store → Res D := mDef 5 ((sSeq (sIf (mB (mOp fGtI (mOp fIxD (mVar 0) (mC (.int 0))) (mC (.int 0)))) (sSeq (sAsg (mOp fMod (mCall fInt (mCons (mOp fIxD (mVar 0) (mC (.int 0))) mNil)) (mVar 1)) (gN 4))
  (sSeq (sAsg (mOp fFloor (mOp fIxD (mVar 0) (mC (.int 0))) (mVar 1)) (gSt (mVar 0) (mC (.int 0))))
  (sRet (mVar 4)))) sNx)
  (sSeq (sAsg (mC (.int 0)) (gN 2))
  (sSeq (sFor (miR1 (mCons (mOp fAdd (mC (.int 1)) (mOp fFloor (mUn fBits (mVar 1)) (mC (.int 30)))) mNil)) (gN 3)
  (sSeq (sAsg (mOp fAdd (mOp fIxD (mVar 0) (mC (.int 2))) (mC (.int 1))) (gSt (mVar 0) (mC (.int 2))))
  (sAsg (mOp fAdd (mOp fMul (mVar 2) (mC (.int 2147483587))) (mCall m__law_mixed (mCons (mOp fIxD (mVar 0) (mC (.int 1))) (mCons (mOp fIxD (mVar 0) (mC (.int 2))) mNil)))) (gN 2))))
  (sRet (mOp fMod (mCall fInt (mCons (mVar 2) mNil)) (mVar 1)))))))
theorem ok__law_draw {f : Addr} {fd : FuncData} (D : DefAt K mg "_law_draw" s__law_draw f fd) (B : Bi mg) {f__law_mixed : Addr} {fd__law_mixed : FuncData} (C__law_mixed : Cl T P w K mg base 1 "_law_mixed" ["_law_cell", "_law_k"] f__law_mixed fd__law_mixed 2 m__law_mixed) : Cl T P w K mg base 2 "_law_draw" ["_law_purse_here", "_law_out_of"] f fd 2 m__law_draw := by
  refine ⟨fn_ok D.F sc__law_draw rfl (fun cdv A outer s H E hr => ?_), D.m, D.F.kp, D.F.binds fun _ _ _ _ _ _ us hl => match us, hl with | [_, _], _ => rfl⟩
  let X := cxOf (L2.CX P w) P w K mg base ["_law_purse_here", "_law_out_of", "_law_number", "_law_k", "_law_drawn"] "_law_draw" (defScope s__law_draw) f cdv A outer s H E
  have tk : Takes X (fun cls d _ H => E cls d H) := takes_of rfl rfl rfl rfl
  have hx : Passes (L2.CX P w) X E := passes_call tk fun _ _ _ _ z => z
  have po : PassesOwn (model P w) X.A X.env X.xe := passes_of rfl
  exact (mss_cons (ms_if (mt_cmp op_gt o_gt (me_ixD hr.units (me_var 0) me_int) me_int) (mss_cons (ms_set (i := 4) sc__law_draw.nd rfl (me_mod (me_int1 (by rfl) B.b_int (ma_cons (me_ixD hr.units (me_var 0) me_int) ma_nil)) (me_var 1)))
      (mss_cons (ms_asg (me_floor (me_ixD hr.units (me_var 0) me_int) (me_var 1)) (mg_st hr.units (me_var 0) me_int))
      (mss_one (ms_ret (me_var 4))))) mss_nil)
      (mss_cons (ms_set (i := 2) sc__law_draw.nd rfl me_int)
      (mss_cons (ms_for po rfl (mi_range1 (by rfl) B.b_range (ma_cons (me_add me_int (me_floor (me_bits (me_var 1)) me_int)) ma_nil)) (mg_name (i := 3) sc__law_draw.nd rfl) (mss_cons (ms_asg (me_add (me_ixD hr.units (me_var 0) me_int) me_int) (mg_st hr.units (me_var 0) me_int))
      (mss_one (ms_set (i := 2) sc__law_draw.nd rfl (me_add (me_mulA (me_var 2) me_int) (me_call C__law_mixed.ok (hr.mono (by decide)) (by rfl) C__law_mixed.m C__law_mixed.kp C__law_mixed.b hx (ma_cons (me_ixD hr.units (me_var 0) me_int) (ma_cons (me_ixD hr.units (me_var 0) me_int) ma_nil))))))))
      (mss_one (ms_ret (me_mod (me_int1 (by rfl) B.b_int (ma_cons (me_var 2) ma_nil)) (me_var 1)))))))
/-! ### _law_machine -/
theorem sc__law_machine : FnScope ["_law_purse_here", "_law_size", "_law_most", "_law_many", "_law_steps", "_law_state", "_law_value"] ["_law_purse_here", "_law_size", "_law_most"] (defScope s__law_machine) := ⟨rfl, rfl, rfl, by decide +kernel, rfl, by decide +kernel, by decide +kernel⟩
def m__law_machine : List D → Store → Res D := mDef 7 ((sSeq (sAsg (mOp fAdd (mC (.int 1)) (mCall m__law_draw (mCons (mVar 0) (mCons (mVar 2) mNil)))) (gN 3))
  (sSeq (sAsg (mCall fTuple (mCons (mLc (miR1 (mCons (mVar 3) mNil)) (gN 5) mYes (mCall fTuple (mCons (mLc (miR1 (mCons (mVar 1) mNil)) (gN 6) mYes (mCall m__law_draw (mCons (mVar 0) (mCons (mVar 3) mNil))) [6]) mNil)) [5]) mNil)) (gN 4))
  (sRet (mTup (mCons (mCall m__law_draw (mCons (mVar 0) (mCons (mVar 3) mNil))) (mCons (mVar 4) (mCons (mCall fTuple (mCons (mLc (miR1 (mCons (mVar 3) mNil)) (gN 5) mYes (mOp fIxD (mLst (mCons (mC (.int 0)) (mCons (mC (.int 1)) (mCons (mC (.int 2)) (mCons (mC (.int 99)) mNil))))) (mCall m__law_draw (mCons (mVar 0) (mCons (mC (.int 4)) mNil)))) [5]) mNil)) mNil))))))))
theorem ok__law_machine {f : Addr} {fd : FuncData} (D : DefAt K mg "_law_machine" s__law_machine f fd) (B : Bi mg) {f__law_draw : Addr} {fd__law_draw : FuncData} (C__law_draw : Cl T P w K mg base 2 "_law_draw" ["_law_purse_here", "_law_out_of"] f__law_draw fd__law_draw 2 m__law_draw) : Cl T P w K mg base 3 "_law_machine" ["_law_purse_here", "_law_size", "_law_most"] f fd 3 m__law_machine := by
  refine ⟨fn_ok D.F sc__law_machine rfl (fun cdv A outer s H E hr => ?_), D.m, D.F.kp, D.F.binds fun _ _ _ _ _ _ us hl => match us, hl with | [_, _, _], _ => rfl⟩
  let X := cxOf (L2.CX P w) P w K mg base ["_law_purse_here", "_law_size", "_law_most", "_law_many", "_law_steps", "_law_state", "_law_value"] "_law_machine" (defScope s__law_machine) f cdv A outer s H E
  have tk : Takes X (fun cls d _ H => E cls d H) := takes_of rfl rfl rfl rfl
  have hx : Passes (L2.CX P w) X E := passes_call tk fun _ _ _ _ z => z
  have po : PassesOwn (model P w) X.A X.env X.xe := passes_of rfl
  exact (mss_cons (ms_set (i := 3) sc__law_machine.nd rfl (me_add me_int (me_call C__law_draw.ok (hr.mono (by decide)) (by rfl) C__law_draw.m C__law_draw.kp C__law_draw.b hx (ma_cons (me_var 0) (ma_cons (me_var 2) ma_nil)))))
      (mss_cons (ms_set (i := 4) sc__law_machine.nd rfl (me_tuple (by rfl) B.b_tuple (ma_cons (me_lc (own := [("_law_state", 5)]) rfl sc__law_machine.nd (mi_range1 (by rfl) B.b_range (ma_cons (me_var 3) ma_nil)) (by kernel_rfl) ⟨fun _ _ _ _ _ => (mgc_name (i := 5) sc__law_machine.nd rfl (by decide)), fun _ _ _ _ _ => mts_nil, fun _ _ _ _ _ => (me_tuple (by rfl) B.b_tuple (ma_cons (me_lc (own := [("_law_value", 6)]) rfl sc__law_machine.nd (mi_range1 (by rfl) B.b_range (ma_cons (me_var 1) ma_nil)) (by kernel_rfl) ⟨fun _ _ _ _ _ => (mgc_name (i := 6) sc__law_machine.nd rfl (by decide)), fun _ _ _ _ _ => mts_nil, fun _ _ _ _ _ => (me_call C__law_draw.ok (hr.mono (by decide)) (by rfl) C__law_draw.m C__law_draw.kp C__law_draw.b passL (ma_cons (me_var 0) (ma_cons (me_var 3) ma_nil)))⟩) ma_nil))⟩) ma_nil)))
      (mss_one (ms_ret (me_tup (ma_cons (me_call C__law_draw.ok (hr.mono (by decide)) (by rfl) C__law_draw.m C__law_draw.kp C__law_draw.b hx (ma_cons (me_var 0) (ma_cons (me_var 3) ma_nil))) (ma_cons (me_var 4) (ma_cons (me_tuple (by rfl) B.b_tuple (ma_cons (me_lc (own := [("_law_state", 5)]) rfl sc__law_machine.nd (mi_range1 (by rfl) B.b_range (ma_cons (me_var 3) ma_nil)) (by kernel_rfl) ⟨fun _ _ _ _ _ => (mgc_name (i := 5) sc__law_machine.nd rfl (by decide)), fun _ _ _ _ _ => mts_nil, fun _ _ _ _ _ => (me_ixD hr.units (me_lst (ma_cons me_int (ma_cons me_int (ma_cons me_int (ma_cons me_int ma_nil))))) (me_call C__law_draw.ok (hr.mono (by decide)) (by rfl) C__law_draw.m C__law_draw.kp C__law_draw.b passL (ma_cons (me_var 0) (ma_cons me_int ma_nil))))⟩) ma_nil)) ma_nil))))))))
/-! ### _law_own -/
theorem sc__law_own : FnScope ["_law_purse_here", "_law_wide", "_law_most", "_law_size", "_law_menus", "_law_name", "_law_maps", "_law_asks", "_law_value"] ["_law_purse_here", "_law_wide", "_law_most"] (defScope s__law_own) := ⟨rfl, rfl, rfl, by decide +kernel, rfl, by decide +kernel, by decide +kernel⟩
def m__law_own : List D → Store → Res D := mDef 9 ((sSeq (sAsg (mOp fAdd (mC (.int 1)) (mCall m__law_draw (mCons (mVar 0) (mCons (mVar 1) mNil)))) (gN 3))
  (sSeq (sPar 6 7 (mCons mDct0 (mCons mDct0 mNil)))
  (sSeq (sAsg (mLst (mCons (mLst (mCons (mC (.str "b")) (mCons (mC (.str "flip")) (mCons (mC (.str "zz")) mNil)))) (mCons (mLst (mCons (mC (.str "a")) (mCons (mC (.str "odd")) (mCons (mC (.str "zz")) mNil)))) (mCons (mLst (mCons (mC (.str "t")) (mCons (mC (.str "tu")) (mCons (mC (.str "turnip")) mNil)))) mNil)))) (gN 4))
  (sSeq (sFor (miA (mSl (mOp fIxD (mVar 4) (mCall m__law_draw (mCons (mVar 0) (mCons (mC (.int 3)) mNil)))) mNoPart (mPart (mCall m__law_draw (mCons (mVar 0) (mCons (mC (.int 4)) mNil)))))) (gN 5)
  (sAsg (mCall fTuple (mCons (mLc (miR1 (mCons (mVar 3) mNil)) (gN 8) mYes (mCall m__law_draw (mCons (mVar 0) (mCons (mVar 3) mNil))) [8]) mNil)) (gSt (mVar 6) (mVar 5))))
  (sSeq (sFor (miA (mSl (mOp fIxD (mLst (mCons (mLst (mCons (mC (.str "odd")) (mCons (mC (.str "a")) (mCons (mC (.str "longname")) mNil)))) (mCons (mLst (mCons (mC (.str "o")) (mCons (mC (.str "odd")) (mCons (mC (.str "oddity")) mNil)))) mNil))) (mCall m__law_draw (mCons (mVar 0) (mCons (mC (.int 2)) mNil)))) mNoPart (mPart (mCall m__law_draw (mCons (mVar 0) (mCons (mC (.int 3)) mNil)))))) (gN 5)
  (sAsg (mCall m__law_machine (mCons (mVar 0) (mCons (mVar 3) (mCons (mVar 2) mNil)))) (gSt (mVar 7) (mVar 5))))
  (sRet (mLst (mCons (mVar 3) (mCons (mVar 6) (mCons (mVar 7) (mCons (mOp (fEq2 false) (mCall m__law_draw (mCons (mVar 0) (mCons (mC (.int 2)) mNil))) (mC (.int 0))) mNil))))))))))))
theorem ok__law_own {f : Addr} {fd : FuncData} (D : DefAt K mg "_law_own" s__law_own f fd) (B : Bi mg) {f__law_draw : Addr} {fd__law_draw : FuncData} (C__law_draw : Cl T P w K mg base 2 "_law_draw" ["_law_purse_here", "_law_out_of"] f__law_draw fd__law_draw 2 m__law_draw) {f__law_machine : Addr} {fd__law_machine : FuncData} (C__law_machine : Cl T P w K mg base 3 "_law_machine" ["_law_purse_here", "_law_size", "_law_most"] f__law_machine fd__law_machine 3 m__law_machine) : Cl T P w K mg base 4 "_law_own" ["_law_purse_here", "_law_wide", "_law_most"] f fd 3 m__law_own := by
  refine ⟨fn_ok D.F sc__law_own rfl (fun cdv A outer s H E hr => ?_), D.m, D.F.kp, D.F.binds fun _ _ _ _ _ _ us hl => match us, hl with | [_, _, _], _ => rfl⟩
  let X := cxOf (L2.CX P w) P w K mg base ["_law_purse_here", "_law_wide", "_law_most", "_law_size", "_law_menus", "_law_name", "_law_maps", "_law_asks", "_law_value"] "_law_own" (defScope s__law_own) f cdv A outer s H E
  have tk : Takes X (fun cls d _ H => E cls d H) := takes_of rfl rfl rfl rfl
  have hx : Passes (L2.CX P w) X E := passes_call tk fun _ _ _ _ z => z
  have po : PassesOwn (model P w) X.A X.env X.xe := passes_of rfl
  exact (mss_cons (ms_set (i := 3) sc__law_own.nd rfl (me_add me_int (me_call C__law_draw.ok (hr.mono (by decide)) (by rfl) C__law_draw.m C__law_draw.kp C__law_draw.b hx (ma_cons (me_var 0) (ma_cons (me_var 1) ma_nil)))))
      (mss_cons (ms_par (i := 6) (j := 7) rfl sc__law_own.nd rfl rfl (by decide) rfl rfl (ma_cons me_dct0 (ma_cons me_dct0 ma_nil)) (by kernel_rfl))
      (mss_cons (ms_set (i := 4) sc__law_own.nd rfl (me_lst (ma_cons (me_lst (ma_cons me_str (ma_cons me_str (ma_cons me_str ma_nil)))) (ma_cons (me_lst (ma_cons me_str (ma_cons me_str (ma_cons me_str ma_nil)))) (ma_cons (me_lst (ma_cons me_str (ma_cons me_str (ma_cons me_str ma_nil)))) ma_nil)))))
      (mss_cons (ms_for po rfl (mi_any (me_sl (me_ixD hr.units (me_var 4) (me_call C__law_draw.ok (hr.mono (by decide)) (by rfl) C__law_draw.m C__law_draw.kp C__law_draw.b hx (ma_cons (me_var 0) (ma_cons me_int ma_nil)))) mo_none (mo_some (me_call C__law_draw.ok (hr.mono (by decide)) (by rfl) C__law_draw.m C__law_draw.kp C__law_draw.b hx (ma_cons (me_var 0) (ma_cons me_int ma_nil)))))) (mg_name (i := 5) sc__law_own.nd rfl) (mss_one (ms_asg (me_tuple (by rfl) B.b_tuple (ma_cons (me_lc (own := [("_law_value", 8)]) rfl sc__law_own.nd (mi_range1 (by rfl) B.b_range (ma_cons (me_var 3) ma_nil)) (by kernel_rfl) ⟨fun _ _ _ _ _ => (mgc_name (i := 8) sc__law_own.nd rfl (by decide)), fun _ _ _ _ _ => mts_nil, fun _ _ _ _ _ => (me_call C__law_draw.ok (hr.mono (by decide)) (by rfl) C__law_draw.m C__law_draw.kp C__law_draw.b passL (ma_cons (me_var 0) (ma_cons (me_var 3) ma_nil)))⟩) ma_nil)) (mg_st hr.units (me_var 6) (me_var 5)))))
      (mss_cons (ms_for po rfl (mi_any (me_sl (me_ixD hr.units (me_lst (ma_cons (me_lst (ma_cons me_str (ma_cons me_str (ma_cons me_str ma_nil)))) (ma_cons (me_lst (ma_cons me_str (ma_cons me_str (ma_cons me_str ma_nil)))) ma_nil))) (me_call C__law_draw.ok (hr.mono (by decide)) (by rfl) C__law_draw.m C__law_draw.kp C__law_draw.b hx (ma_cons (me_var 0) (ma_cons me_int ma_nil)))) mo_none (mo_some (me_call C__law_draw.ok (hr.mono (by decide)) (by rfl) C__law_draw.m C__law_draw.kp C__law_draw.b hx (ma_cons (me_var 0) (ma_cons me_int ma_nil)))))) (mg_name (i := 5) sc__law_own.nd rfl) (mss_one (ms_asg (me_call C__law_machine.ok (hr.mono (by decide)) (by rfl) C__law_machine.m C__law_machine.kp C__law_machine.b hx (ma_cons (me_var 0) (ma_cons (me_var 3) (ma_cons (me_var 2) ma_nil)))) (mg_st hr.units (me_var 7) (me_var 5)))))
      (mss_one (ms_ret (me_lst (ma_cons (me_var 3) (ma_cons (me_var 6) (ma_cons (me_var 7) (ma_cons (me_cmp (op_eqD hr.units) o_eq2 (me_call C__law_draw.ok (hr.mono (by decide)) (by rfl) C__law_draw.m C__law_draw.kp C__law_draw.b hx (ma_cons (me_var 0) (ma_cons me_int ma_nil))) me_int) ma_nil))))))))))))
/-! ### is_integer -/
theorem sc_is_integer : FnScope ["thing", "low", "high"] ["thing", "low", "high"] (defScope s_is_integer) := ⟨rfl, rfl, rfl, by decide +kernel, rfl, by decide +kernel, by decide +kernel⟩
def m_is_integer : List D → Store → Res D := mDef 3 ((sRet (mAndV (mUn (fIsi "int") (mVar 0)) (mAndV (mNotV (mUn (fIsi "bool") (mVar 0))) (mCmpC fLeI fLeI (mVar 1) (mVar 0) (mVar 2))))))
theorem ok_is_integer {f : Addr} {fd : FuncData} (D : DefAt K mg "is_integer" s_is_integer f fd) (B : Bi mg) : Cl T P w K mg base 1 "is_integer" ["thing", "low", "high"] f fd 3 m_is_integer := by
  refine ⟨fn_ok D.F sc_is_integer rfl (fun cdv A outer s H E hr => ?_), D.m, D.F.kp, D.F.binds fun _ _ _ _ _ _ us hl => match us, hl with | [_, _, _], _ => rfl⟩
  let X := cxOf (L2.CX P w) P w K mg base ["thing", "low", "high"] "is_integer" (defScope s_is_integer) f cdv A outer s H E
  have tk : Takes X (fun cls d _ H => E cls d H) := takes_of rfl rfl rfl rfl
  have hx : Passes (L2.CX P w) X E := passes_call tk fun _ _ _ _ z => z
  have po : PassesOwn (model P w) X.A X.env X.xe := passes_of rfl
  exact (mss_one (ms_ret (me_and (me_isi (by rfl) B.b_isinstance (by rfl) B.b_int (by decide +kernel) (me_var 0)) (me_and (me_not (me_isi (by rfl) B.b_isinstance (by rfl) B.b_bool (by decide +kernel) (me_var 0))) (me_one (me_chain op_le o_le op_le o_le (me_var 1) (me_var 0) (me_var 2)))))))
/-! ### require_size -/
theorem sc_require_size : FnScope ["size"] ["size"] (defScope s_require_size) := ⟨rfl, rfl, rfl, by decide +kernel, rfl, by decide +kernel, by decide +kernel⟩
def m_require_size : List D → Store → Res D := mDef 1 ((sIf (mNotT (mB (mCall m_is_integer (mCons (mVar 0) (mCons (mC (.int 1)) (mCons (mC (.int 4)) mNil)))))) sNever sNx))
theorem ok_require_size {f : Addr} {fd : FuncData} (D : DefAt K mg "require_size" s_require_size f fd) (B : Bi mg) {f_is_integer : Addr} {fd_is_integer : FuncData} (C_is_integer : Cl T P w K mg base 1 "is_integer" ["thing", "low", "high"] f_is_integer fd_is_integer 3 m_is_integer) : Cl T P w K mg base 2 "require_size" ["size"] f fd 1 m_require_size := by
  refine ⟨fn_ok D.F sc_require_size rfl (fun cdv A outer s H E hr => ?_), D.m, D.F.kp, D.F.binds fun _ _ _ _ _ _ us hl => match us, hl with | [_], _ => rfl⟩
  let X := cxOf (L2.CX P w) P w K mg base ["size"] "require_size" (defScope s_require_size) f cdv A outer s H E
  have tk : Takes X (fun cls d _ H => E cls d H) := takes_of rfl rfl rfl rfl
  have hx : Passes (L2.CX P w) X E := passes_call tk fun _ _ _ _ z => z
  have po : PassesOwn (model P w) X.A X.env X.xe := passes_of rfl
  exact (mss_one (ms_if (mt_not (mt_val (me_call C_is_integer.ok (hr.mono (by decide)) (by rfl) C_is_integer.m C_is_integer.kp C_is_integer.b hx (ma_cons (me_var 0) (ma_cons me_int (ma_cons (me_gint (by rfl) B.c_MOST_VALUES.choose_spec) ma_nil)))))) (mss_one ms_never) mss_nil))
/-! ### is_name -/
theorem sc_is_name : FnScope ["thing", "sign"] ["thing"] (defScope s_is_name) := ⟨rfl, rfl, rfl, by decide +kernel, rfl, by decide +kernel, by decide +kernel⟩
def m_is_name : List D → Store → Res D := mDef 2 ((sSeq (sIf (mOrT (mNotT (mB (mUn (fIsi "str") (mVar 0)))) (mOrT (mB (mOp (fEq2 false) (mVar 0) (mC (.str "turn")))) (mNotT (mB (mCmpC fLeI fLeI (mC (.int 1)) (mCall fLen (mCons (mVar 0) mNil)) (mC (.int 8))))))) (sRet (mC (.bl false))) sNx)
  (sRet (mCall fAll (mCons (mLc (miS (mVar 0)) (gN 1) mYes (mOp (fIn false) (mVar 1) (mC (.str "abcdefghijklmnopqrstuvwxyz"))) [1]) mNil)))))
theorem ok_is_name {f : Addr} {fd : FuncData} (D : DefAt K mg "is_name" s_is_name f fd) (B : Bi mg) : Cl T P w K mg base 1 "is_name" ["thing"] f fd 1 m_is_name := by
  refine ⟨fn_ok D.F sc_is_name rfl (fun cdv A outer s H E hr => ?_), D.m, D.F.kp, D.F.binds fun _ _ _ _ _ _ us hl => match us, hl with | [_], _ => rfl⟩
  let X := cxOf (L2.CX P w) P w K mg base ["thing", "sign"] "is_name" (defScope s_is_name) f cdv A outer s H E
  have tk : Takes X (fun cls d _ H => E cls d H) := takes_of rfl rfl rfl rfl
  have hx : Passes (L2.CX P w) X E := passes_call tk fun _ _ _ _ z => z
  have po : PassesOwn (model P w) X.A X.env X.xe := passes_of rfl
  exact (mss_cons (ms_if (mw_pt (mw_or (mt_not (mt_val (me_isi (by rfl) B.b_isinstance (by rfl) B.b_str (by decide +kernel) (me_var 0)))) (mw_or (mt_cmp (op_eqD hr.units) o_eq2 (me_var 0) (me_gstr (by rfl) B.c_TURN.choose_spec)) (mw_or1 (mt_not (mt_chain op_le o_le op_le o_le me_int (me_len (by rfl) B.b_len (ma_cons (me_var 0) ma_nil)) (me_gint (by rfl) B.c_MOST_LETTERS.choose_spec))))))) (mss_one (ms_ret me_bl)) mss_nil)
      (mss_one (ms_ret (me_all rfl (by rfl) B.b_all (ma_cons (me_lc (own := [("sign", 1)]) rfl sc_is_name.nd (mi_str (me_var 0)) (by kernel_rfl) ⟨fun _ _ _ _ _ => (mgc_name (i := 1) sc_is_name.nd rfl (by decide)), fun _ _ _ _ _ => mts_nil, fun _ _ _ _ _ => (me_cmp (hm := by rfl) (op_in hr.units) o_in (me_var 1) (me_gstr (by rfl) B.c_LETTERS.choose_spec))⟩) ma_nil)))))
/-! ### is_row -/
theorem sc_is_row : FnScope ["thing", "size", "value"] ["thing", "size"] (defScope s_is_row) := ⟨rfl, rfl, rfl, by decide +kernel, rfl, by decide +kernel, by decide +kernel⟩
def m_is_row : List D → Store → Res D := mDef 3 ((sRet (mAndV (mUn (fIsi "tuple") (mVar 0)) (mCall fAll (mCons (mLc (miA (mVar 0)) (gN 2) mYes (mCall m_is_integer (mCons (mVar 2) (mCons (mC (.int 0)) (mCons (mOp fSub (mVar 1) (mC (.int 1))) mNil)))) [2]) mNil)))))
theorem ok_is_row {f : Addr} {fd : FuncData} (D : DefAt K mg "is_row" s_is_row f fd) (B : Bi mg) {f_is_integer : Addr} {fd_is_integer : FuncData} (C_is_integer : Cl T P w K mg base 1 "is_integer" ["thing", "low", "high"] f_is_integer fd_is_integer 3 m_is_integer) : Cl T P w K mg base 2 "is_row" ["thing", "size"] f fd 2 m_is_row := by
  refine ⟨fn_ok D.F sc_is_row rfl (fun cdv A outer s H E hr => ?_), D.m, D.F.kp, D.F.binds fun _ _ _ _ _ _ us hl => match us, hl with | [_, _], _ => rfl⟩
  let X := cxOf (L2.CX P w) P w K mg base ["thing", "size", "value"] "is_row" (defScope s_is_row) f cdv A outer s H E
  have tk : Takes X (fun cls d _ H => E cls d H) := takes_of rfl rfl rfl rfl
  have hx : Passes (L2.CX P w) X E := passes_call tk fun _ _ _ _ z => z
  have po : PassesOwn (model P w) X.A X.env X.xe := passes_of rfl
  exact (mss_one (ms_ret (me_and (me_isi (by rfl) B.b_isinstance (by rfl) B.b_tuple (by decide +kernel) (me_var 0)) (me_one (me_all rfl (by rfl) B.b_all (ma_cons (me_lc (own := [("value", 2)]) rfl sc_is_row.nd (mi_any (me_var 0)) (by kernel_rfl) ⟨fun _ _ _ _ _ => (mgc_name (i := 2) sc_is_row.nd rfl (by decide)), fun _ _ _ _ _ => mts_nil, fun _ _ _ _ _ => (me_call C_is_integer.ok (hr.mono (by decide)) (by rfl) C_is_integer.m C_is_integer.kp C_is_integer.b passL (ma_cons (me_var 2) (ma_cons me_int (ma_cons (me_sub (me_var 1) me_int) ma_nil))))⟩) ma_nil))))))
/-! ### is_map -/
theorem sc_is_map : FnScope ["thing", "size"] ["thing", "size"] (defScope s_is_map) := ⟨rfl, rfl, rfl, by decide +kernel, rfl, by decide +kernel, by decide +kernel⟩
def m_is_map : List D → Store → Res D := mDef 2 ((sRet (mAndV (mCall m_is_row (mCons (mVar 0) (mCons (mVar 1) mNil))) (mOp (fEq2 false) (mCall fLen (mCons (mVar 0) mNil)) (mVar 1)))))
theorem ok_is_map {f : Addr} {fd : FuncData} (D : DefAt K mg "is_map" s_is_map f fd) (B : Bi mg) {f_is_row : Addr} {fd_is_row : FuncData} (C_is_row : Cl T P w K mg base 2 "is_row" ["thing", "size"] f_is_row fd_is_row 2 m_is_row) : Cl T P w K mg base 3 "is_map" ["thing", "size"] f fd 2 m_is_map := by
  refine ⟨fn_ok D.F sc_is_map rfl (fun cdv A outer s H E hr => ?_), D.m, D.F.kp, D.F.binds fun _ _ _ _ _ _ us hl => match us, hl with | [_, _], _ => rfl⟩
  let X := cxOf (L2.CX P w) P w K mg base ["thing", "size"] "is_map" (defScope s_is_map) f cdv A outer s H E
  have tk : Takes X (fun cls d _ H => E cls d H) := takes_of rfl rfl rfl rfl
  have hx : Passes (L2.CX P w) X E := passes_call tk fun _ _ _ _ z => z
  have po : PassesOwn (model P w) X.A X.env X.xe := passes_of rfl
  exact (mss_one (ms_ret (me_and (me_call C_is_row.ok (hr.mono (by decide)) (by rfl) C_is_row.m C_is_row.kp C_is_row.b hx (ma_cons (me_var 0) (ma_cons (me_var 1) ma_nil))) (me_one (me_cmp (op_eqD hr.units) o_eq2 (me_len (by rfl) B.b_len (ma_cons (me_var 0) ma_nil)) (me_var 1))))))
/-! ### taken_maps -/
theorem sc_taken_maps : FnScope ["maps", "size", "name"] ["maps", "size"] (defScope s_taken_maps) := ⟨rfl, rfl, rfl, by decide +kernel, rfl, by decide +kernel, by decide +kernel⟩
def m_taken_maps : List D → Store → Res D := mDef 3 ((sSeq (sIf (mB (mOp (fIs false) (mVar 0) (mC .non))) (sRet mDct0) sNx)
  (sSeq (sIf (mNotT (mB (mUn (fIsi "dict") (mVar 0)))) sNever sNx)
  (sSeq (sFor (miA (mCall (frL oSorted) (mCons (mVar 0) mNil))) (gN 2)
  (sIf (mOrT (mNotT (mB (mCall m_is_name (mCons (mVar 2) mNil)))) (mNotT (mB (mCall m_is_map (mCons (mOp fIxD (mVar 0) (mVar 2)) (mCons (mVar 1) mNil)))))) sNever sNx))
  (sRet (mDc (miA (mCall (frL oSorted) (mCons (mVar 0) mNil))) (gN 2) mYes (mVar 2) (mOp fIxD (mVar 0) (mVar 2)) [2]))))))
theorem ok_taken_maps {f : Addr} {fd : FuncData} (D : DefAt K mg "taken_maps" s_taken_maps f fd) (B : Bi mg) {f_is_map : Addr} {fd_is_map : FuncData} (C_is_map : Cl T P w K mg base 3 "is_map" ["thing", "size"] f_is_map fd_is_map 2 m_is_map) {f_is_name : Addr} {fd_is_name : FuncData} (C_is_name : Cl T P w K mg base 1 "is_name" ["thing"] f_is_name fd_is_name 1 m_is_name) : Cl T P w K mg base 4 "taken_maps" ["maps", "size"] f fd 2 m_taken_maps := by
  refine ⟨fn_ok D.F sc_taken_maps rfl (fun cdv A outer s H E hr => ?_), D.m, D.F.kp, D.F.binds fun _ _ _ _ _ _ us hl => match us, hl with | [_, _], _ => rfl⟩
  let X := cxOf (L2.CX P w) P w K mg base ["maps", "size", "name"] "taken_maps" (defScope s_taken_maps) f cdv A outer s H E
  have tk : Takes X (fun cls d _ H => E cls d H) := takes_of rfl rfl rfl rfl
  have hx : Passes (L2.CX P w) X E := passes_call tk fun _ _ _ _ z => z
  have po : PassesOwn (model P w) X.A X.env X.xe := passes_of rfl
  exact (mss_cons (ms_if (mt_cmp op_isN o_isN (me_var 0) me_non) (mss_one (ms_ret me_dct0)) mss_nil)
      (mss_cons (ms_if (mt_not (mt_val (me_isi (by rfl) B.b_isinstance (by rfl) B.b_dict (by decide +kernel) (me_var 0)))) (mss_one ms_never) mss_nil)
      (mss_cons (ms_for po rfl (mi_any (me_sorted rfl (by rfl) B.b_sorted (ma_cons (me_var 0) ma_nil))) (mg_name (i := 2) sc_taken_maps.nd rfl) (mss_one (ms_if (mw_pt (mw_or (mt_not (mt_val (me_call C_is_name.ok (hr.mono (by decide)) (by rfl) C_is_name.m C_is_name.kp C_is_name.b hx (ma_cons (me_var 2) ma_nil)))) (mw_or1 (mt_not (mt_val (me_call C_is_map.ok (hr.mono (by decide)) (by rfl) C_is_map.m C_is_map.kp C_is_map.b hx (ma_cons (me_ixD hr.units (me_var 0) (me_var 2)) (ma_cons (me_var 1) ma_nil)))))))) (mss_one ms_never) mss_nil)))
      (mss_one (ms_ret (me_dc (own := [("name", 2)]) rfl sc_taken_maps.nd (mi_any (me_sorted rfl (by rfl) B.b_sorted (ma_cons (me_var 0) ma_nil))) (by kernel_rfl) ⟨fun _ _ _ _ _ => (mgc_name (i := 2) sc_taken_maps.nd rfl (by decide)), fun _ _ _ _ _ => mts_nil, fun _ _ _ _ _ => (me_var 2), fun _ _ _ _ _ => (me_ixD hr.units (me_var 0) (me_var 2))⟩))))))
/-! ### fault_of -/
theorem sc_fault_of : FnScope ["thing", "size", "start", "steps", "answers", "k", "row", "one"] ["thing", "size"] (defScope s_fault_of) := ⟨rfl, rfl, rfl, by decide +kernel, rfl, by decide +kernel, by decide +kernel⟩
def m_fault_of : List D → Store → Res D := mDef 8 ((sSeq (sIf (mOrT (mNotT (mB (mUn (fIsi "tuple") (mVar 0)))) (mB (mOp (fEq2 true) (mCall fLen (mCons (mVar 0) mNil)) (mC (.int 3))))) (sRet (mTup (mCons (mC (.str "form")) mNil))) sNx)
  (sSeq (sAsg (mVar 0) (gTpA 3 (gsCons (gN 2) (gsCons (gN 3) (gsCons (gN 4) gsNil)))))
  (sSeq (sIf (mOrT (mNotT (mB (mUn (fIsi "tuple") (mVar 3)))) (mOrT (mNotT (mB (mUn (fIsi "tuple") (mVar 4)))) (mOrT (mB (mOp (fEq2 false) (mVar 3) (mTup mNil))) (mB (mOp (fEq2 false) (mVar 4) (mTup mNil)))))) (sRet (mTup (mCons (mC (.str "form")) mNil))) sNx)
  (sSeq (sFor (miE2 (mCons (mVar 3) mNil)) (gTpA 2 (gsCons (gN 5) (gsCons (gN 6) gsNil)))
  (sIf (mOrT (mNotT (mB (mCall m_is_row (mCons (mVar 6) (mCons (mCall fLen (mCons (mVar 3) mNil)) mNil))))) (mB (mOp (fEq2 true) (mCall fLen (mCons (mVar 6) mNil)) (mVar 1)))) (sRet (mTup (mCons (mC (.str "steps")) (mCons (mVar 5) mNil)))) sNx))
  (sSeq (sIf (mOrT (mB (mOp (fEq2 true) (mCall fLen (mCons (mVar 4) mNil)) (mCall fLen (mCons (mVar 3) mNil)))) (mNotT (mB (mCall fAll (mCons (mLc (miA (mVar 4)) (gN 7) mYes (mCall m_is_integer (mCons (mVar 7) (mCons (mC (.int 0)) (mCons (mC (.int 99)) mNil)))) [7]) mNil))))) (sRet (mTup (mCons (mC (.str "answers")) mNil))) sNx)
  (sRet (mIfE (mB (mCall m_is_integer (mCons (mVar 2) (mCons (mC (.int 0)) (mCons (mOp fSub (mCall fLen (mCons (mVar 3) mNil)) (mC (.int 1))) mNil))))) (mC .non) (mTup (mCons (mC (.str "start")) mNil))))))))))
theorem ok_fault_of {f : Addr} {fd : FuncData} (D : DefAt K mg "fault_of" s_fault_of f fd) (B : Bi mg) {f_is_integer : Addr} {fd_is_integer : FuncData} (C_is_integer : Cl T P w K mg base 1 "is_integer" ["thing", "low", "high"] f_is_integer fd_is_integer 3 m_is_integer) {f_is_row : Addr} {fd_is_row : FuncData} (C_is_row : Cl T P w K mg base 2 "is_row" ["thing", "size"] f_is_row fd_is_row 2 m_is_row) : Cl T P w K mg base 3 "fault_of" ["thing", "size"] f fd 2 m_fault_of := by
  refine ⟨fn_ok D.F sc_fault_of rfl (fun cdv A outer s H E hr => ?_), D.m, D.F.kp, D.F.binds fun _ _ _ _ _ _ us hl => match us, hl with | [_, _], _ => rfl⟩
  let X := cxOf (L2.CX P w) P w K mg base ["thing", "size", "start", "steps", "answers", "k", "row", "one"] "fault_of" (defScope s_fault_of) f cdv A outer s H E
  have tk : Takes X (fun cls d _ H => E cls d H) := takes_of rfl rfl rfl rfl
  have hx : Passes (L2.CX P w) X E := passes_call tk fun _ _ _ _ z => z
  have po : PassesOwn (model P w) X.A X.env X.xe := passes_of rfl
  exact (mss_cons (ms_if (mw_pt (mw_or (mt_not (mt_val (me_isi (by rfl) B.b_isinstance (by rfl) B.b_tuple (by decide +kernel) (me_var 0)))) (mw_or1 (mt_cmp (op_neD hr.units) o_ne2 (me_len (by rfl) B.b_len (ma_cons (me_var 0) ma_nil)) me_int)))) (mss_one (ms_ret (me_tup (ma_cons me_str ma_nil)))) mss_nil)
      (mss_cons (ms_asg (me_var 0) (mg_tupA rfl (mgs_cons (mg_name (i := 2) sc_fault_of.nd rfl) (mgs_cons (mg_name (i := 3) sc_fault_of.nd rfl) (mgs_cons (mg_name (i := 4) sc_fault_of.nd rfl) mgs_nil)))))
      (mss_cons (ms_if (mw_pt (mw_or (mt_not (mt_val (me_isi (by rfl) B.b_isinstance (by rfl) B.b_tuple (by decide +kernel) (me_var 3)))) (mw_or (mt_not (mt_val (me_isi (by rfl) B.b_isinstance (by rfl) B.b_tuple (by decide +kernel) (me_var 4)))) (mw_or (mt_cmp (op_eqD hr.units) o_eq2 (me_var 3) (me_tup ma_nil)) (mw_or1 (mt_cmp (op_eqD hr.units) o_eq2 (me_var 4) (me_tup ma_nil))))))) (mss_one (ms_ret (me_tup (ma_cons me_str ma_nil)))) mss_nil)
      (mss_cons (ms_for po rfl (mi_enum2 (by rfl) B.b_enumerate (ma_cons (me_var 3) ma_nil)) (mg_tupA rfl (mgs_cons (mg_name (i := 5) sc_fault_of.nd rfl) (mgs_cons (mg_name (i := 6) sc_fault_of.nd rfl) mgs_nil))) (mss_one (ms_if (mw_pt (mw_or (mt_not (mt_val (me_call C_is_row.ok (hr.mono (by decide)) (by rfl) C_is_row.m C_is_row.kp C_is_row.b hx (ma_cons (me_var 6) (ma_cons (me_len (by rfl) B.b_len (ma_cons (me_var 3) ma_nil)) ma_nil))))) (mw_or1 (mt_cmp (op_neD hr.units) o_ne2 (me_len (by rfl) B.b_len (ma_cons (me_var 6) ma_nil)) (me_var 1))))) (mss_one (ms_ret (me_tup (ma_cons me_str (ma_cons (me_var 5) ma_nil))))) mss_nil)))
      (mss_cons (ms_if (mw_pt (mw_or (mt_cmp (op_neD hr.units) o_ne2 (me_len (by rfl) B.b_len (ma_cons (me_var 4) ma_nil)) (me_len (by rfl) B.b_len (ma_cons (me_var 3) ma_nil))) (mw_or1 (mt_not (mt_val (me_all rfl (by rfl) B.b_all (ma_cons (me_lc (own := [("one", 7)]) rfl sc_fault_of.nd (mi_any (me_var 4)) (by kernel_rfl) ⟨fun _ _ _ _ _ => (mgc_name (i := 7) sc_fault_of.nd rfl (by decide)), fun _ _ _ _ _ => mts_nil, fun _ _ _ _ _ => (me_call C_is_integer.ok (hr.mono (by decide)) (by rfl) C_is_integer.m C_is_integer.kp C_is_integer.b passL (ma_cons (me_var 7) (ma_cons me_int (ma_cons (me_gint (by rfl) B.c_MOST_ANSWER.choose_spec) ma_nil))))⟩) ma_nil))))))) (mss_one (ms_ret (me_tup (ma_cons me_str ma_nil)))) mss_nil)
      (mss_one (ms_ret (me_if (mt_val (me_call C_is_integer.ok (hr.mono (by decide)) (by rfl) C_is_integer.m C_is_integer.kp C_is_integer.b hx (ma_cons (me_var 2) (ma_cons me_int (ma_cons (me_sub (me_len (by rfl) B.b_len (ma_cons (me_var 3) ma_nil)) me_int) ma_nil))))) me_non (me_tup (ma_cons me_str ma_nil))))))))))
/-! ### taken_asks -/
theorem sc_taken_asks : FnScope ["asks", "size", "name"] ["asks", "size"] (defScope s_taken_asks) := ⟨rfl, rfl, rfl, by decide +kernel, rfl, by decide +kernel, by decide +kernel⟩
def m_taken_asks : List D → Store → Res D := mDef 3 ((sSeq (sIf (mB (mOp (fIs false) (mVar 0) (mC .non))) (sRet mDct0) sNx)
  (sSeq (sIf (mNotT (mB (mUn (fIsi "dict") (mVar 0)))) sNever sNx)
  (sSeq (sFor (miA (mCall (frL oSorted) (mCons (mVar 0) mNil))) (gN 2)
  (sIf (mOrT (mNotT (mB (mCall m_is_name (mCons (mVar 2) mNil)))) (mB (mOp (fIs true) (mCall m_fault_of (mCons (mOp fIxD (mVar 0) (mVar 2)) (mCons (mVar 1) mNil))) (mC .non)))) sNever sNx))
  (sRet (mDc (miA (mCall (frL oSorted) (mCons (mVar 0) mNil))) (gN 2) mYes (mVar 2) (mOp fIxD (mVar 0) (mVar 2)) [2]))))))
theorem ok_taken_asks {f : Addr} {fd : FuncData} (D : DefAt K mg "taken_asks" s_taken_asks f fd) (B : Bi mg) {f_fault_of : Addr} {fd_fault_of : FuncData} (C_fault_of : Cl T P w K mg base 3 "fault_of" ["thing", "size"] f_fault_of fd_fault_of 2 m_fault_of) {f_is_name : Addr} {fd_is_name : FuncData} (C_is_name : Cl T P w K mg base 1 "is_name" ["thing"] f_is_name fd_is_name 1 m_is_name) : Cl T P w K mg base 4 "taken_asks" ["asks", "size"] f fd 2 m_taken_asks := by
  refine ⟨fn_ok D.F sc_taken_asks rfl (fun cdv A outer s H E hr => ?_), D.m, D.F.kp, D.F.binds fun _ _ _ _ _ _ us hl => match us, hl with | [_, _], _ => rfl⟩
  let X := cxOf (L2.CX P w) P w K mg base ["asks", "size", "name"] "taken_asks" (defScope s_taken_asks) f cdv A outer s H E
  have tk : Takes X (fun cls d _ H => E cls d H) := takes_of rfl rfl rfl rfl
  have hx : Passes (L2.CX P w) X E := passes_call tk fun _ _ _ _ z => z
  have po : PassesOwn (model P w) X.A X.env X.xe := passes_of rfl
  exact (mss_cons (ms_if (mt_cmp op_isN o_isN (me_var 0) me_non) (mss_one (ms_ret me_dct0)) mss_nil)
      (mss_cons (ms_if (mt_not (mt_val (me_isi (by rfl) B.b_isinstance (by rfl) B.b_dict (by decide +kernel) (me_var 0)))) (mss_one ms_never) mss_nil)
      (mss_cons (ms_for po rfl (mi_any (me_sorted rfl (by rfl) B.b_sorted (ma_cons (me_var 0) ma_nil))) (mg_name (i := 2) sc_taken_asks.nd rfl) (mss_one (ms_if (mw_pt (mw_or (mt_not (mt_val (me_call C_is_name.ok (hr.mono (by decide)) (by rfl) C_is_name.m C_is_name.kp C_is_name.b hx (ma_cons (me_var 2) ma_nil)))) (mw_or1 (mt_cmp op_notN o_notN (me_call C_fault_of.ok (hr.mono (by decide)) (by rfl) C_fault_of.m C_fault_of.kp C_fault_of.b hx (ma_cons (me_ixD hr.units (me_var 0) (me_var 2)) (ma_cons (me_var 1) ma_nil))) me_non)))) (mss_one ms_never) mss_nil)))
      (mss_one (ms_ret (me_dc (own := [("name", 2)]) rfl sc_taken_asks.nd (mi_any (me_sorted rfl (by rfl) B.b_sorted (ma_cons (me_var 0) ma_nil))) (by kernel_rfl) ⟨fun _ _ _ _ _ => (mgc_name (i := 2) sc_taken_asks.nd rfl (by decide)), fun _ _ _ _ _ => mts_nil, fun _ _ _ _ _ => (me_var 2), fun _ _ _ _ _ => (me_ixD hr.units (me_var 0) (me_var 2))⟩))))))
/-! ### Setting.__init__ -/
theorem sc_Setting__init : FnScope ["self", "size", "maps", "asks", "turning"] ["self", "size", "maps", "asks", "turning"] (defScope s_Setting__init) := ⟨rfl, rfl, rfl, by decide +kernel, rfl, by decide +kernel, by decide +kernel⟩
def m_Setting__init : List D → Store → Res D := mDef 5 ((sSeq (sExpr (mCall m_require_size (mCons (mVar 1) mNil)))
  (sSeq (sFld "Setting" "size" (mVar 1) (mVar 0))
  (sSeq (sFld "Setting" "own_maps" (mCall m_taken_maps (mCons (mVar 2) (mCons (mVar 1) mNil))) (mVar 0))
  (sSeq (sFld "Setting" "own_asks" (mCall m_taken_asks (mCons (mVar 3) (mCons (mVar 1) mNil))) (mVar 0))
  (sSeq (sIf (mNotT (mB (mUn (fIsi "bool") (mVar 4)))) sNever sNx)
  (sFld "Setting" "turning" (mVar 4) (mVar 0))))))))
theorem ok_Setting__init {C_Setting : Addr} {f : Addr} {fd : FuncData} (D : DefID K C_Setting "Setting.__init__" s_Setting__init [V.non, V.non, V.bl false] f fd) (B : Bi mg) (CC_Setting : Ci_Setting K mg C_Setting) {f_require_size : Addr} {fd_require_size : FuncData} (C_require_size : Cl T P w K mg base 2 "require_size" ["size"] f_require_size fd_require_size 1 m_require_size) {f_taken_asks : Addr} {fd_taken_asks : FuncData} (C_taken_asks : Cl T P w K mg base 4 "taken_asks" ["asks", "size"] f_taken_asks fd_taken_asks 2 m_taken_asks) {f_taken_maps : Addr} {fd_taken_maps : FuncData} (C_taken_maps : Cl T P w K mg base 4 "taken_maps" ["maps", "size"] f_taken_maps fd_taken_maps 2 m_taken_maps) : ClI T P w K mg base 5 C_Setting ["self", "size", "maps", "asks", "turning"] f fd 5 m_Setting__init := by
  refine ⟨fn_okD D.F sc_Setting__init rfl (fun cdv A outer s H E hr => ?_), D.M⟩
  let X := cxOf (L2.CX P w) P w K mg base ["self", "size", "maps", "asks", "turning"] "Setting.__init__" (defScope s_Setting__init) f cdv A outer s H E
  have tk : Takes X (fun cls d _ H => E cls d H) := takes_of rfl rfl rfl rfl
  have hx : Passes (L2.CX P w) X E := passes_call tk fun _ _ _ _ z => z
  have po : PassesOwn (model P w) X.A X.env X.xe := passes_of rfl
  exact (mss_cons (ms_expr (me_call C_require_size.ok (hr.mono (by decide)) (by rfl) C_require_size.m C_require_size.kp C_require_size.b hx (ma_cons (me_var 1) ma_nil)))
      (mss_cons (ms_fld CC_Setting.A CC_Setting.na_size (me_var 1) (me_var 0))
      (mss_cons (ms_fld CC_Setting.A CC_Setting.na_own_maps (me_call C_taken_maps.ok (hr.mono (by decide)) (by rfl) C_taken_maps.m C_taken_maps.kp C_taken_maps.b hx (ma_cons (me_var 2) (ma_cons (me_var 1) ma_nil))) (me_var 0))
      (mss_cons (ms_fld CC_Setting.A CC_Setting.na_own_asks (me_call C_taken_asks.ok (hr.mono (by decide)) (by rfl) C_taken_asks.m C_taken_asks.kp C_taken_asks.b hx (ma_cons (me_var 3) (ma_cons (me_var 1) ma_nil))) (me_var 0))
      (mss_cons (ms_if (mt_not (mt_val (me_isi (by rfl) B.b_isinstance (by rfl) B.b_bool (by decide +kernel) (me_var 4)))) (mss_one ms_never) mss_nil)
      (mss_one (ms_fld CC_Setting.A CC_Setting.na_turning (me_var 4) (me_var 0))))))))
/-! ### _law_setting -/
theorem sc__law_setting : FnScope ["_law_own_here"] ["_law_own_here"] (defScope s__law_setting) := ⟨rfl, rfl, rfl, by decide +kernel, rfl, by decide +kernel, by decide +kernel⟩
def m__law_setting : List D → Store → Res D := mDef 1 ((sRet (mMake "Setting" m_Setting__init [] (mCons (mOp fIxD (mVar 0) (mC (.int 0))) (mCons (mOp fIxD (mVar 0) (mC (.int 1))) (mCons (mOp fIxD (mVar 0) (mC (.int 2))) (mCons (mOp fIxD (mVar 0) (mC (.int 3))) mNil)))))))
theorem ok__law_setting {f : Addr} {fd : FuncData} (D : DefAt K mg "_law_setting" s__law_setting f fd) (B : Bi mg) {C_Setting : Addr} (CC_Setting : Ci_Setting K mg C_Setting) {f_Setting__init : Addr} {fd_Setting__init : FuncData} (C_Setting__init : ClI T P w K mg base 5 C_Setting ["self", "size", "maps", "asks", "turning"] f_Setting__init fd_Setting__init 5 m_Setting__init) (D_Setting__init : DefID K C_Setting "Setting.__init__" s_Setting__init [V.non, V.non, V.bl false] f_Setting__init fd_Setting__init) : Cl T P w K mg base 7 "_law_setting" ["_law_own_here"] f fd 1 m__law_setting := by
  refine ⟨fn_ok D.F sc__law_setting rfl (fun cdv A outer s H E hr => ?_), D.m, D.F.kp, D.F.binds fun _ _ _ _ _ _ us hl => match us, hl with | [_], _ => rfl⟩
  let X := cxOf (L2.CX P w) P w K mg base ["_law_own_here"] "_law_setting" (defScope s__law_setting) f cdv A outer s H E
  have tk : Takes X (fun cls d _ H => E cls d H) := takes_of rfl rfl rfl rfl
  have hx : Passes (L2.CX P w) X E := passes_call tk fun _ _ _ _ z => z
  have po : PassesOwn (model P w) X.A X.env X.xe := passes_of rfl
  exact (mss_one (ms_ret (me_makeE (cds := []) CC_Setting.A C_Setting__init.M C_Setting__init.ok (hr.mono (by decide)) (by rfl) (D_Setting__init.F.binds 5 3 rfl (fun _ _ _ _ _ _ _ us its h1 h2 => match us, its, h1, h2 with | [_, _, _, _, _], [_, _, _], _, _ => ⟨_, rfl, rfl⟩)) Consts.nil hx (ma_cons (me_ixD hr.units (me_var 0) me_int) (ma_cons (me_ixD hr.units (me_var 0) me_int) (ma_cons (me_ixD hr.units (me_var 0) me_int) (ma_cons (me_ixD hr.units (me_var 0) me_int) ma_nil)))))))
/-! ### _law_deeds -/
theorem sc__law_deeds : FnScope ["_law_own_here"] ["_law_own_here"] (defScope s__law_deeds) := ⟨rfl, rfl, rfl, by decide +kernel, rfl, by decide +kernel, by decide +kernel⟩
def m__law_deeds : List D → Store → Res D := mDef 1 ((sRet (mCall (frL oSorted) (mCons (mOp fAdd (mCall (frL lList) (mCons (mOp fIxD (mVar 0) (mC (.int 1))) mNil)) (mOp fMul (mLst (mCons (mC (.str "turn")) mNil)) (mCall fInt (mCons (mOp fIxD (mVar 0) (mC (.int 3))) mNil)))) mNil))))
theorem ok__law_deeds {f : Addr} {fd : FuncData} (D : DefAt K mg "_law_deeds" s__law_deeds f fd) (B : Bi mg) : Cl T P w K mg base 1 "_law_deeds" ["_law_own_here"] f fd 1 m__law_deeds := by
  refine ⟨fn_ok D.F sc__law_deeds rfl (fun cdv A outer s H E hr => ?_), D.m, D.F.kp, D.F.binds fun _ _ _ _ _ _ us hl => match us, hl with | [_], _ => rfl⟩
  let X := cxOf (L2.CX P w) P w K mg base ["_law_own_here"] "_law_deeds" (defScope s__law_deeds) f cdv A outer s H E
  have tk : Takes X (fun cls d _ H => E cls d H) := takes_of rfl rfl rfl rfl
  have hx : Passes (L2.CX P w) X E := passes_call tk fun _ _ _ _ z => z
  have po : PassesOwn (model P w) X.A X.env X.xe := passes_of rfl
  exact (mss_one (ms_ret (me_sorted rfl (by rfl) B.b_sorted (ma_cons (me_add (me_list rfl (by rfl) B.b_list (ma_cons (me_ixD hr.units (me_var 0) me_int) ma_nil)) (me_mulA (me_lst (ma_cons me_str ma_nil)) (me_int1 (by rfl) B.b_int (ma_cons (me_ixD hr.units (me_var 0) me_int) ma_nil)))) ma_nil))))
/-! ### _law_plan -/
theorem sc__law_plan : FnScope ["_law_purse_here", "_law_own_here", "_law_long", "_law_most", "_law_acts", "_law_found", "_law_k", "_law_first", "_law_last"] ["_law_purse_here", "_law_own_here", "_law_long", "_law_most"] (defScope s__law_plan) := ⟨rfl, rfl, rfl, by decide +kernel, rfl, by decide +kernel, by decide +kernel⟩
def m__law_plan : List D → Store → Res D := mDef 9 ((sSeq (sAsg (mCall m__law_deeds (mCons (mVar 1) mNil)) (gN 4))
  (sSeq (sAsg (mLstS mNil) (gN 5))
  (sSeq (sFor (miR1 (mCons (mOp fMul (mCall m__law_draw (mCons (mVar 0) (mCons (mOp fAdd (mVar 3) (mC (.int 1))) mNil))) (mCall fInt (mCons (mOp (fEq2 true) (mVar 4) (mLst mNil)) mNil))) mNil)) (gN 6)
  (sSeq (sAsg (mCall (frL oSorted) (mCons (mLst (mCons (mCall m__law_draw (mCons (mVar 0) (mCons (mOp fAdd (mVar 2) (mC (.int 1))) mNil))) (mCons (mCall m__law_draw (mCons (mVar 0) (mCons (mOp fAdd (mVar 2) (mC (.int 1))) mNil))) mNil))) mNil)) (gTpA 2 (gsCons (gN 7) (gsCons (gN 8) gsNil))))
  (sExpr (mApp (mVar 5) (mTup (mCons (mOp fIxD (mVar 4) (mCall m__law_draw (mCons (mVar 0) (mCons (mCall fLen (mCons (mVar 4) mNil)) mNil)))) (mCons (mVar 7) (mCons (mVar 8) mNil))))))))
  (sRet (mVar 5))))))
theorem ok__law_plan {f : Addr} {fd : FuncData} (D : DefAt K mg "_law_plan" s__law_plan f fd) (B : Bi mg) {f__law_deeds : Addr} {fd__law_deeds : FuncData} (C__law_deeds : Cl T P w K mg base 1 "_law_deeds" ["_law_own_here"] f__law_deeds fd__law_deeds 1 m__law_deeds) {f__law_draw : Addr} {fd__law_draw : FuncData} (C__law_draw : Cl T P w K mg base 2 "_law_draw" ["_law_purse_here", "_law_out_of"] f__law_draw fd__law_draw 2 m__law_draw) : Cl T P w K mg base 3 "_law_plan" ["_law_purse_here", "_law_own_here", "_law_long", "_law_most"] f fd 4 m__law_plan := by
  refine ⟨fn_ok D.F sc__law_plan rfl (fun cdv A outer s H E hr => ?_), D.m, D.F.kp, D.F.binds fun _ _ _ _ _ _ us hl => match us, hl with | [_, _, _, _], _ => rfl⟩
  let X := cxOf (L2.CX P w) P w K mg base ["_law_purse_here", "_law_own_here", "_law_long", "_law_most", "_law_acts", "_law_found", "_law_k", "_law_first", "_law_last"] "_law_plan" (defScope s__law_plan) f cdv A outer s H E
  have tk : Takes X (fun cls d _ H => E cls d H) := takes_of rfl rfl rfl rfl
  have hx : Passes (L2.CX P w) X E := passes_call tk fun _ _ _ _ z => z
  have po : PassesOwn (model P w) X.A X.env X.xe := passes_of rfl
  exact (mss_cons (ms_set (i := 4) sc__law_plan.nd rfl (me_call C__law_deeds.ok (hr.mono (by decide)) (by rfl) C__law_deeds.m C__law_deeds.kp C__law_deeds.b hx (ma_cons (me_var 1) ma_nil)))
      (mss_cons (ms_set (i := 5) sc__law_plan.nd rfl (me_lstS ma_nil))
      (mss_cons (ms_for po rfl (mi_range1 (by rfl) B.b_range (ma_cons (me_mulA (me_call C__law_draw.ok (hr.mono (by decide)) (by rfl) C__law_draw.m C__law_draw.kp C__law_draw.b hx (ma_cons (me_var 0) (ma_cons (me_add (me_var 3) me_int) ma_nil))) (me_int1 (by rfl) B.b_int (ma_cons (me_cmp (op_neD hr.units) o_ne2 (me_var 4) (me_lst ma_nil)) ma_nil))) ma_nil)) (mg_name (i := 6) sc__law_plan.nd rfl) (mss_cons (ms_asg (me_sorted rfl (by rfl) B.b_sorted (ma_cons (me_lst (ma_cons (me_call C__law_draw.ok (hr.mono (by decide)) (by rfl) C__law_draw.m C__law_draw.kp C__law_draw.b hx (ma_cons (me_var 0) (ma_cons (me_add (me_var 2) me_int) ma_nil))) (ma_cons (me_call C__law_draw.ok (hr.mono (by decide)) (by rfl) C__law_draw.m C__law_draw.kp C__law_draw.b hx (ma_cons (me_var 0) (ma_cons (me_add (me_var 2) me_int) ma_nil))) ma_nil))) ma_nil)) (mg_tupA rfl (mgs_cons (mg_name (i := 7) sc__law_plan.nd rfl) (mgs_cons (mg_name (i := 8) sc__law_plan.nd rfl) mgs_nil))))
      (mss_one (ms_expr (me_append (me_var 5) (me_tup (ma_cons (me_ixD hr.units (me_var 4) (me_call C__law_draw.ok (hr.mono (by decide)) (by rfl) C__law_draw.m C__law_draw.kp C__law_draw.b hx (ma_cons (me_var 0) (ma_cons (me_len (by rfl) B.b_len (ma_cons (me_var 4) ma_nil)) ma_nil)))) (ma_cons (me_var 7) (ma_cons (me_var 8) ma_nil)))))))))
      (mss_one (ms_ret (me_var 5))))))
/-! ### _law_form -/
theorem sc__law_form : FnScope ["_law_own_here", "_law_steps", "_law_long", "_law_goal", "_law_place", "_law_act", "_law_first", "_law_last", "_law_some", "_law_line", "_law_value"] ["_law_own_here", "_law_steps", "_law_long"] (defScope s__law_form) := ⟨rfl, rfl, rfl, by decide +kernel, rfl, by decide +kernel, by decide +kernel⟩
def m__law_form : List D → Store → Res D := mDef 11 ((sSeq (sAsg (mLstS mNil) (gN 3))
  (sSeq (sFor (miR1 (mCons (mVar 2) mNil)) (gN 4)
  (sExpr (mApp (mVar 3) (mLst (mCons (mVar 4) (mCons (mRgT (mRg1 (mOp fIxD (mVar 0) (mC (.int 0))))) mNil))))))
  (sSeq (sFor (miA (mVar 1)) (gTpA 3 (gsCons (gN 5) (gsCons (gN 6) (gsCons (gN 7) gsNil))))
  (sIf (mB (mOp (fEq2 false) (mVar 5) (mC (.str "turn")))) (sAsg (mOp fAdd (mOp fAdd (mSl (mVar 3) mNoPart (mPart (mVar 6))) (mUn fRev (mSl (mVar 3) (mPart (mVar 6)) (mPart (mVar 7))))) (mSl (mVar 3) (mPart (mVar 7)) mNoPart)) (gN 3)) (sSeq (sAsg (mLc (miA (mSl (mVar 3) (mPart (mVar 6)) (mPart (mVar 7)))) (gTpA 2 (gsCons (gN 4) (gsCons (gN 9) gsNil))) mYes (mLst (mCons (mVar 4) (mCons (mCall fTuple (mCons (mLc (miA (mVar 9)) (gN 10) mYes (mOp fIxD (mOp fIxD (mOp fIxD (mVar 0) (mC (.int 1))) (mVar 5)) (mVar 10)) [10]) mNil)) mNil))) [4, 9]) (gN 8))
  (sAsg (mOp fAdd (mOp fAdd (mSl (mVar 3) mNoPart (mPart (mVar 6))) (mVar 8)) (mSl (mVar 3) (mPart (mVar 7)) mNoPart)) (gN 3)))))
  (sRet (mCall fTuple (mCons (mLc (miA (mVar 3)) (gTpA 2 (gsCons (gN 4) (gsCons (gN 9) gsNil))) mYes (mTup (mCons (mOp fIxD (mLst (mCons (mVar 4) (mCons (mC .non) mNil))) (mCall fInt (mCons (mOp (fEq2 false) (mUn fLenSet (mVar 9)) (mC (.int 1))) mNil))) (mCons (mVar 9) mNil))) [4, 9]) mNil)))))))
theorem ok__law_form {f : Addr} {fd : FuncData} (D : DefAt K mg "_law_form" s__law_form f fd) (B : Bi mg) : Cl T P w K mg base 1 "_law_form" ["_law_own_here", "_law_steps", "_law_long"] f fd 3 m__law_form := by
  refine ⟨fn_ok D.F sc__law_form rfl (fun cdv A outer s H E hr => ?_), D.m, D.F.kp, D.F.binds fun _ _ _ _ _ _ us hl => match us, hl with | [_, _, _], _ => rfl⟩
  let X := cxOf (L2.CX P w) P w K mg base ["_law_own_here", "_law_steps", "_law_long", "_law_goal", "_law_place", "_law_act", "_law_first", "_law_last", "_law_some", "_law_line", "_law_value"] "_law_form" (defScope s__law_form) f cdv A outer s H E
  have tk : Takes X (fun cls d _ H => E cls d H) := takes_of rfl rfl rfl rfl
  have hx : Passes (L2.CX P w) X E := passes_call tk fun _ _ _ _ z => z
  have po : PassesOwn (model P w) X.A X.env X.xe := passes_of rfl
  exact (mss_cons (ms_set (i := 3) sc__law_form.nd rfl (me_lstS ma_nil))
      (mss_cons (ms_for po rfl (mi_range1 (by rfl) B.b_range (ma_cons (me_var 2) ma_nil)) (mg_name (i := 4) sc__law_form.nd rfl) (mss_one (ms_expr (me_append (me_var 3) (me_lst (ma_cons (me_var 4) (ma_cons (me_tupRg rfl (by rfl) B.b_tuple (mrg_1 (by rfl) B.b_range (me_ixD hr.units (me_var 0) me_int))) ma_nil)))))))
      (mss_cons (ms_for po rfl (mi_any (me_var 1)) (mg_tupA rfl (mgs_cons (mg_name (i := 5) sc__law_form.nd rfl) (mgs_cons (mg_name (i := 6) sc__law_form.nd rfl) (mgs_cons (mg_name (i := 7) sc__law_form.nd rfl) mgs_nil)))) (mss_one (ms_if (mt_cmp (op_eqD hr.units) o_eq2 (me_var 5) me_str) (mss_one (ms_set (i := 3) sc__law_form.nd rfl (me_add (me_add (me_sl (me_var 3) mo_none (mo_some (me_var 6))) (me_rev (me_sl (me_var 3) (mo_some (me_var 6)) (mo_some (me_var 7))))) (me_sl (me_var 3) (mo_some (me_var 7)) mo_none)))) (mss_cons (ms_setLc (i := 8) (own := [("_law_place", 4), ("_law_line", 9)]) rfl sc__law_form.nd rfl rfl (sw_true rfl rfl rfl (by kernel_rfl)) (mi_any (me_sl (me_var 3) (mo_some (me_var 6)) (mo_some (me_var 7)))) (by kernel_rfl) ⟨fun _ _ _ _ _ => (mgc_tupA (K := K) rfl rfl (mgcs_cons (mgc_name (i := 4) sc__law_form.nd rfl (by decide)) (mgcs_cons (mgc_name (i := 9) sc__law_form.nd rfl (by decide)) mgcs_nil))), fun _ _ _ _ _ => mts_nil, fun _ _ _ _ _ => (me_lst (ma_cons (me_var 4) (ma_cons (me_tuple (by rfl) B.b_tuple (ma_cons (me_lc (own := [("_law_value", 10)]) rfl sc__law_form.nd (mi_any (me_var 9)) (by kernel_rfl) ⟨fun _ _ _ _ _ => (mgc_name (i := 10) sc__law_form.nd rfl (by decide)), fun _ _ _ _ _ => mts_nil, fun _ _ _ _ _ => (me_ixD hr.units (me_ixD hr.units (me_ixD hr.units (me_var 0) me_int) (me_var 5)) (me_var 10))⟩) ma_nil)) ma_nil)))⟩)
      (mss_one (ms_set (i := 3) sc__law_form.nd rfl (me_add (me_add (me_sl (me_var 3) mo_none (mo_some (me_var 6))) (me_var 8)) (me_sl (me_var 3) (mo_some (me_var 7)) mo_none))))))))
      (mss_one (ms_ret (me_tuple (by rfl) B.b_tuple (ma_cons (me_lc (own := [("_law_place", 4), ("_law_line", 9)]) rfl sc__law_form.nd (mi_any (me_var 3)) (by kernel_rfl) ⟨fun _ _ _ _ _ => (mgc_tupA (K := K) rfl rfl (mgcs_cons (mgc_name (i := 4) sc__law_form.nd rfl (by decide)) (mgcs_cons (mgc_name (i := 9) sc__law_form.nd rfl (by decide)) mgcs_nil))), fun _ _ _ _ _ => mts_nil, fun _ _ _ _ _ => (me_tup (ma_cons (me_ixD hr.units (me_lst (ma_cons (me_var 4) (ma_cons me_non ma_nil))) (me_int1 (by rfl) B.b_int (ma_cons (me_cmp (op_eqD hr.units) o_eq2 (me_lenSet rfl (by rfl) B.b_len (by rfl) B.b_set (me_var 9)) me_int) ma_nil))) (ma_cons (me_var 9) ma_nil)))⟩) ma_nil)))))))
/-! ### require_setting -/
theorem sc_require_setting : FnScope ["setting"] ["setting"] (defScope s_require_setting) := ⟨rfl, rfl, rfl, by decide +kernel, rfl, by decide +kernel, by decide +kernel⟩
def m_require_setting : List D → Store → Res D := mDef 1 ((sIf (mNotT (mB (mUn (fIsiC "Setting") (mVar 0)))) sNever sNx))
theorem ok_require_setting {f : Addr} {fd : FuncData} (D : DefAt K mg "require_setting" s_require_setting f fd) (B : Bi mg) {C_Setting : Addr} (CC_Setting : Ci_Setting K mg C_Setting) : Cl T P w K mg base 1 "require_setting" ["setting"] f fd 1 m_require_setting := by
  refine ⟨fn_ok D.F sc_require_setting rfl (fun cdv A outer s H E hr => ?_), D.m, D.F.kp, D.F.binds fun _ _ _ _ _ _ us hl => match us, hl with | [_], _ => rfl⟩
  let X := cxOf (L2.CX P w) P w K mg base ["setting"] "require_setting" (defScope s_require_setting) f cdv A outer s H E
  have tk : Takes X (fun cls d _ H => E cls d H) := takes_of rfl rfl rfl rfl
  have hx : Passes (L2.CX P w) X E := passes_call tk fun _ _ _ _ z => z
  have po : PassesOwn (model P w) X.A X.env X.xe := passes_of rfl
  exact (mss_one (ms_if (mt_not (mt_val (me_isiC CC_Setting.I (by rfl) B.b_isinstance (by rfl) (me_var 0)))) (mss_one ms_never) mss_nil))
/-! ### require_length -/
theorem sc_require_length : FnScope ["length"] ["length"] (defScope s_require_length) := ⟨rfl, rfl, rfl, by decide +kernel, rfl, by decide +kernel, by decide +kernel⟩
def m_require_length : List D → Store → Res D := mDef 1 ((sIf (mNotT (mB (mCall m_is_integer (mCons (mVar 0) (mCons (mC (.int 0)) (mCons (mC (.int 60)) mNil)))))) sNever sNx))
theorem ok_require_length {f : Addr} {fd : FuncData} (D : DefAt K mg "require_length" s_require_length f fd) (B : Bi mg) {f_is_integer : Addr} {fd_is_integer : FuncData} (C_is_integer : Cl T P w K mg base 1 "is_integer" ["thing", "low", "high"] f_is_integer fd_is_integer 3 m_is_integer) : Cl T P w K mg base 2 "require_length" ["length"] f fd 1 m_require_length := by
  refine ⟨fn_ok D.F sc_require_length rfl (fun cdv A outer s H E hr => ?_), D.m, D.F.kp, D.F.binds fun _ _ _ _ _ _ us hl => match us, hl with | [_], _ => rfl⟩
  let X := cxOf (L2.CX P w) P w K mg base ["length"] "require_length" (defScope s_require_length) f cdv A outer s H E
  have tk : Takes X (fun cls d _ H => E cls d H) := takes_of rfl rfl rfl rfl
  have hx : Passes (L2.CX P w) X E := passes_call tk fun _ _ _ _ z => z
  have po : PassesOwn (model P w) X.A X.env X.xe := passes_of rfl
  exact (mss_one (ms_if (mt_not (mt_val (me_call C_is_integer.ok (hr.mono (by decide)) (by rfl) C_is_integer.m C_is_integer.kp C_is_integer.b hx (ma_cons (me_var 0) (ma_cons me_int (ma_cons (me_gint (by rfl) B.c_MOST_LENGTH.choose_spec) ma_nil)))))) (mss_one ms_never) mss_nil))
/-! ### Setting.deeds -/
theorem sc_Setting__deeds : FnScope ["self"] ["self"] (defScope s_Setting__deeds) := ⟨rfl, rfl, rfl, by decide +kernel, rfl, by decide +kernel, by decide +kernel⟩
def m_Setting__deeds : List D → Store → Res D := mDef 1 ((sRet (mCall fTuple (mCons (mCall (frL oSorted) (mCons (mOp fAdd (mCall (frL lList) (mCons (mUn (fFld "Setting" "own_maps") (mVar 0)) mNil)) (mOp fMul (mLst (mCons (mC (.str "turn")) mNil)) (mCall fInt (mCons (mUn (fFld "Setting" "turning") (mVar 0)) mNil)))) mNil)) mNil))))
theorem ok_Setting__deeds {C_Setting : Addr} {f : Addr} {fd : FuncData} (D : DefP K C_Setting "deeds" "Setting.deeds" s_Setting__deeds f fd) (B : Bi mg) (CC_Setting : Ci_Setting K mg C_Setting) : ClP T P w K mg base 1 C_Setting "deeds" f fd m_Setting__deeds := by
  refine ⟨fn_ok D.F sc_Setting__deeds rfl (fun cdv A outer s H E hr => ?_), D.M, D.F.binds fun _ _ _ _ _ _ us hl => match us, hl with | [_], _ => rfl⟩
  let X := cxOf (L2.CX P w) P w K mg base ["self"] "Setting.deeds" (defScope s_Setting__deeds) f cdv A outer s H E
  have tk : Takes X (fun cls d _ H => E cls d H) := takes_of rfl rfl rfl rfl
  have hx : Passes (L2.CX P w) X E := passes_call tk fun _ _ _ _ z => z
  have po : PassesOwn (model P w) X.A X.env X.xe := passes_of rfl
  exact (mss_one (ms_ret (me_tuple (by rfl) B.b_tuple (ma_cons (me_sorted rfl (by rfl) B.b_sorted (ma_cons (me_add (me_list rfl (by rfl) B.b_list (ma_cons (me_fld CC_Setting.A CC_Setting.na_own_maps (me_var 0)) ma_nil)) (me_mulA (me_lst (ma_cons (me_gstr (by rfl) B.c_TURN.choose_spec) ma_nil)) (me_int1 (by rfl) B.b_int (ma_cons (me_fld CC_Setting.A CC_Setting.na_turning (me_var 0)) ma_nil)))) ma_nil)) ma_nil))))
/-! ### Setting.has_deed -/
theorem sc_Setting__has_deed : FnScope ["self", "thing"] ["self", "thing"] (defScope s_Setting__has_deed) := ⟨rfl, rfl, rfl, by decide +kernel, rfl, by decide +kernel, by decide +kernel⟩
def m_Setting__has_deed : List D → Store → Res D := mDef 2 ((sRet (mAndV (mUn (fIsi "str") (mVar 1)) (mOp (fIn false) (mVar 1) (mPropC "Setting" m_Setting__deeds (mVar 0))))))
theorem ok_Setting__has_deed {C_Setting : Addr} {f : Addr} {fd : FuncData} (D : DefM K C_Setting "has_deed" "Setting.has_deed" s_Setting__has_deed f fd) (B : Bi mg) (CC_Setting : Ci_Setting K mg C_Setting) {f_Setting__deeds : Addr} {fd_Setting__deeds : FuncData} (C_Setting__deeds : ClP T P w K mg base 1 C_Setting "deeds" f_Setting__deeds fd_Setting__deeds m_Setting__deeds) : ClM T P w K mg base 3 C_Setting "has_deed" ["self", "thing"] f fd 2 m_Setting__has_deed := by
  refine ⟨fn_ok D.F sc_Setting__has_deed rfl (fun cdv A outer s H E hr => ?_), D.M, D.F.binds fun _ _ _ _ _ _ us hl => match us, hl with | [_, _], _ => rfl⟩
  let X := cxOf (L2.CX P w) P w K mg base ["self", "thing"] "Setting.has_deed" (defScope s_Setting__has_deed) f cdv A outer s H E
  have tk : Takes X (fun cls d _ H => E cls d H) := takes_of rfl rfl rfl rfl
  have hx : Passes (L2.CX P w) X E := passes_call tk fun _ _ _ _ z => z
  have po : PassesOwn (model P w) X.A X.env X.xe := passes_of rfl
  exact (mss_one (ms_ret (me_and (me_isi (by rfl) B.b_isinstance (by rfl) B.b_str (by decide +kernel) (me_var 1)) (me_one (me_cmp (hm := by rfl) (op_in hr.units) o_in (me_var 1) (me_propC CC_Setting.A C_Setting__deeds (hr.mono (by decide)) (me_var 0)))))))
/-! ### is_range -/
theorem sc_is_range : FnScope ["start", "stop", "length"] ["start", "stop", "length"] (defScope s_is_range) := ⟨rfl, rfl, rfl, by decide +kernel, rfl, by decide +kernel, by decide +kernel⟩
def m_is_range : List D → Store → Res D := mDef 3 ((sRet (mAndV (mCall m_is_integer (mCons (mVar 0) (mCons (mC (.int 0)) (mCons (mVar 2) mNil)))) (mAndV (mCall m_is_integer (mCons (mVar 1) (mCons (mC (.int 0)) (mCons (mVar 2) mNil)))) (mOp fLeI (mVar 0) (mVar 1))))))
theorem ok_is_range {f : Addr} {fd : FuncData} (D : DefAt K mg "is_range" s_is_range f fd) (B : Bi mg) {f_is_integer : Addr} {fd_is_integer : FuncData} (C_is_integer : Cl T P w K mg base 1 "is_integer" ["thing", "low", "high"] f_is_integer fd_is_integer 3 m_is_integer) : Cl T P w K mg base 2 "is_range" ["start", "stop", "length"] f fd 3 m_is_range := by
  refine ⟨fn_ok D.F sc_is_range rfl (fun cdv A outer s H E hr => ?_), D.m, D.F.kp, D.F.binds fun _ _ _ _ _ _ us hl => match us, hl with | [_, _, _], _ => rfl⟩
  let X := cxOf (L2.CX P w) P w K mg base ["start", "stop", "length"] "is_range" (defScope s_is_range) f cdv A outer s H E
  have tk : Takes X (fun cls d _ H => E cls d H) := takes_of rfl rfl rfl rfl
  have hx : Passes (L2.CX P w) X E := passes_call tk fun _ _ _ _ z => z
  have po : PassesOwn (model P w) X.A X.env X.xe := passes_of rfl
  exact (mss_one (ms_ret (me_and (me_call C_is_integer.ok (hr.mono (by decide)) (by rfl) C_is_integer.m C_is_integer.kp C_is_integer.b hx (ma_cons (me_var 0) (ma_cons me_int (ma_cons (me_var 2) ma_nil)))) (me_and (me_call C_is_integer.ok (hr.mono (by decide)) (by rfl) C_is_integer.m C_is_integer.kp C_is_integer.b hx (ma_cons (me_var 1) (ma_cons me_int (ma_cons (me_var 2) ma_nil)))) (me_one (me_cmp op_le o_le (me_var 0) (me_var 1)))))))
/-! ### is_step -/
theorem sc_is_step : FnScope ["setting", "thing", "length"] ["setting", "thing", "length"] (defScope s_is_step) := ⟨rfl, rfl, rfl, by decide +kernel, rfl, by decide +kernel, by decide +kernel⟩
def m_is_step : List D → Store → Res D := mDef 3 ((sSeq (sIf (mOrT (mNotT (mB (mUn (fIsi "tuple") (mVar 1)))) (mB (mOp (fEq2 true) (mCall fLen (mCons (mVar 1) mNil)) (mC (.int 3))))) (sRet (mC (.bl false))) sNx)
  (sRet (mAndV (mMeth "Setting" "has_deed" m_Setting__has_deed [] (mVar 0) (mCons (mOp fIxD (mVar 1) (mC (.int 0))) mNil)) (mCall m_is_range (mCons (mOp fIxD (mVar 1) (mC (.int 1))) (mCons (mOp fIxD (mVar 1) (mC (.int 2))) (mCons (mVar 2) mNil))))))))
theorem ok_is_step {f : Addr} {fd : FuncData} (D : DefAt K mg "is_step" s_is_step f fd) (B : Bi mg) {C_Setting : Addr} (CC_Setting : Ci_Setting K mg C_Setting) {f_Setting__has_deed : Addr} {fd_Setting__has_deed : FuncData} (C_Setting__has_deed : ClM T P w K mg base 3 C_Setting "has_deed" ["self", "thing"] f_Setting__has_deed fd_Setting__has_deed 2 m_Setting__has_deed) {f_is_range : Addr} {fd_is_range : FuncData} (C_is_range : Cl T P w K mg base 2 "is_range" ["start", "stop", "length"] f_is_range fd_is_range 3 m_is_range) : Cl T P w K mg base 4 "is_step" ["setting", "thing", "length"] f fd 3 m_is_step := by
  refine ⟨fn_ok D.F sc_is_step rfl (fun cdv A outer s H E hr => ?_), D.m, D.F.kp, D.F.binds fun _ _ _ _ _ _ us hl => match us, hl with | [_, _, _], _ => rfl⟩
  let X := cxOf (L2.CX P w) P w K mg base ["setting", "thing", "length"] "is_step" (defScope s_is_step) f cdv A outer s H E
  have tk : Takes X (fun cls d _ H => E cls d H) := takes_of rfl rfl rfl rfl
  have hx : Passes (L2.CX P w) X E := passes_call tk fun _ _ _ _ z => z
  have po : PassesOwn (model P w) X.A X.env X.xe := passes_of rfl
  exact (mss_cons (ms_if (mw_pt (mw_or (mt_not (mt_val (me_isi (by rfl) B.b_isinstance (by rfl) B.b_tuple (by decide +kernel) (me_var 1)))) (mw_or1 (mt_cmp (op_neD hr.units) o_ne2 (me_len (by rfl) B.b_len (ma_cons (me_var 1) ma_nil)) me_int)))) (mss_one (ms_ret me_bl)) mss_nil)
      (mss_one (ms_ret (me_and (me_meth CC_Setting.A C_Setting__has_deed.M C_Setting__has_deed.ok (hr.mono (by decide)) C_Setting__has_deed.b .nil Consts.nil hx (me_var 0) (ma_cons (me_ixD hr.units (me_var 1) me_int) ma_nil)) (me_one (me_call C_is_range.ok (hr.mono (by decide)) (by rfl) C_is_range.m C_is_range.kp C_is_range.b hx (ma_cons (me_ixD hr.units (me_var 1) me_int) (ma_cons (me_ixD hr.units (me_var 1) me_int) (ma_cons (me_var 2) ma_nil)))))))))
/-! ### require_plan -/
theorem sc_require_plan : FnScope ["setting", "plan", "length", "place", "step"] ["setting", "plan", "length"] (defScope s_require_plan) := ⟨rfl, rfl, rfl, by decide +kernel, rfl, by decide +kernel, by decide +kernel⟩
def m_require_plan : List D → Store → Res D := mDef 5 ((sSeq (sIf (mNotT (mB (mUn (fIsiT ["tuple", "list"]) (mVar 1)))) sNever sNx)
  (sFor (miE2 (mCons (mVar 1) mNil)) (gTpA 2 (gsCons (gN 3) (gsCons (gN 4) gsNil)))
  (sIf (mNotT (mB (mCall m_is_step (mCons (mVar 0) (mCons (mVar 4) (mCons (mVar 2) mNil)))))) sNever sNx))))
theorem ok_require_plan {f : Addr} {fd : FuncData} (D : DefAt K mg "require_plan" s_require_plan f fd) (B : Bi mg) {f_is_step : Addr} {fd_is_step : FuncData} (C_is_step : Cl T P w K mg base 4 "is_step" ["setting", "thing", "length"] f_is_step fd_is_step 3 m_is_step) : Cl T P w K mg base 5 "require_plan" ["setting", "plan", "length"] f fd 3 m_require_plan := by
  refine ⟨fn_ok D.F sc_require_plan rfl (fun cdv A outer s H E hr => ?_), D.m, D.F.kp, D.F.binds fun _ _ _ _ _ _ us hl => match us, hl with | [_, _, _], _ => rfl⟩
  let X := cxOf (L2.CX P w) P w K mg base ["setting", "plan", "length", "place", "step"] "require_plan" (defScope s_require_plan) f cdv A outer s H E
  have tk : Takes X (fun cls d _ H => E cls d H) := takes_of rfl rfl rfl rfl
  have hx : Passes (L2.CX P w) X E := passes_call tk fun _ _ _ _ z => z
  have po : PassesOwn (model P w) X.A X.env X.xe := passes_of rfl
  exact (mss_cons (ms_if (mt_not (mt_val (me_isiT (tyTup2 (by rfl) B.b_tuple (by decide +kernel) (by rfl) B.b_list (by decide +kernel)) (by rfl) B.b_isinstance (me_var 1)))) (mss_one ms_never) mss_nil)
      (mss_one (ms_for po rfl (mi_enum2 (by rfl) B.b_enumerate (ma_cons (me_var 1) ma_nil)) (mg_tupA rfl (mgs_cons (mg_name (i := 3) sc_require_plan.nd rfl) (mgs_cons (mg_name (i := 4) sc_require_plan.nd rfl) mgs_nil))) (mss_one (ms_if (mt_not (mt_val (me_call C_is_step.ok (hr.mono (by decide)) (by rfl) C_is_step.m C_is_step.kp C_is_step.b hx (ma_cons (me_var 0) (ma_cons (me_var 4) (ma_cons (me_var 2) ma_nil)))))) (mss_one ms_never) mss_nil)))))
/-! ### entry_after -/
theorem sc_entry_after : FnScope ["setting", "deed", "entry", "source", "mapping", "value"] ["setting", "deed", "entry"] (defScope s_entry_after) := ⟨rfl, rfl, rfl, by decide +kernel, rfl, by decide +kernel, by decide +kernel⟩
def m_entry_after : List D → Store → Res D := mDef 6 ((sSeq (sAsg (mVar 2) (gTpA 2 (gsCons (gN 3) (gsCons (gN 4) gsNil))))
  (sRet (mTup (mCons (mVar 3) (mCons (mCall fTuple (mCons (mLc (miA (mVar 4)) (gN 5) mYes (mOp fIxD (mOp fIxD (mUn (fFld "Setting" "own_maps") (mVar 0)) (mVar 1)) (mVar 5)) [5]) mNil)) mNil))))))
theorem ok_entry_after {f : Addr} {fd : FuncData} (D : DefAt K mg "entry_after" s_entry_after f fd) (B : Bi mg) {C_Setting : Addr} (CC_Setting : Ci_Setting K mg C_Setting) : Cl T P w K mg base 1 "entry_after" ["setting", "deed", "entry"] f fd 3 m_entry_after := by
  refine ⟨fn_ok D.F sc_entry_after rfl (fun cdv A outer s H E hr => ?_), D.m, D.F.kp, D.F.binds fun _ _ _ _ _ _ us hl => match us, hl with | [_, _, _], _ => rfl⟩
  let X := cxOf (L2.CX P w) P w K mg base ["setting", "deed", "entry", "source", "mapping", "value"] "entry_after" (defScope s_entry_after) f cdv A outer s H E
  have tk : Takes X (fun cls d _ H => E cls d H) := takes_of rfl rfl rfl rfl
  have hx : Passes (L2.CX P w) X E := passes_call tk fun _ _ _ _ z => z
  have po : PassesOwn (model P w) X.A X.env X.xe := passes_of rfl
  exact (mss_cons (ms_asg (me_var 2) (mg_tupA rfl (mgs_cons (mg_name (i := 3) sc_entry_after.nd rfl) (mgs_cons (mg_name (i := 4) sc_entry_after.nd rfl) mgs_nil))))
      (mss_one (ms_ret (me_tup (ma_cons (me_var 3) (ma_cons (me_tuple (by rfl) B.b_tuple (ma_cons (me_lc (own := [("value", 5)]) rfl sc_entry_after.nd (mi_any (me_var 4)) (by kernel_rfl) ⟨fun _ _ _ _ _ => (mgc_name (i := 5) sc_entry_after.nd rfl (by decide)), fun _ _ _ _ _ => mts_nil, fun _ _ _ _ _ => (me_ixD hr.units (me_ixD hr.units (me_fld CC_Setting.A CC_Setting.na_own_maps (me_var 0)) (me_var 1)) (me_var 5))⟩) ma_nil)) ma_nil))))))
/-! ### plain_form -/
theorem sc_plain_form : FnScope ["setting", "plan", "length", "row", "deed", "start", "stop", "place", "entry", "source", "mapping"] ["setting", "plan", "length"] (defScope s_plain_form) := ⟨rfl, rfl, rfl, by decide +kernel, rfl, by decide +kernel, by decide +kernel⟩
def m_plain_form : List D → Store → Res D := mDef 11 ((sSeq (sAsg (mLcS (miR1 (mCons (mVar 2) mNil)) (gN 7) mYes (mTup (mCons (mVar 7) (mCons (mRgT (mRg1 (mUn (fFld "Setting" "size") (mVar 0)))) mNil))) [7]) (gN 3))
  (sSeq (sFor (miA (mVar 1)) (gTpA 3 (gsCons (gN 4) (gsCons (gN 5) (gsCons (gN 6) gsNil))))
  (sIf (mB (mOp (fEq2 false) (mVar 4) (mC (.str "turn")))) (sAsg (mUn fRev (mSl (mVar 3) (mPart (mVar 5)) (mPart (mVar 6)))) (gSl (mVar 3) (mVar 5) (mVar 6))) (sAsg (mLc (miA (mSl (mVar 3) (mPart (mVar 5)) (mPart (mVar 6)))) (gN 8) mYes (mCall m_entry_after (mCons (mVar 0) (mCons (mVar 4) (mCons (mVar 8) mNil)))) [8]) (gSl (mVar 3) (mVar 5) (mVar 6)))))
  (sRet (mCall fTuple (mCons (mLc (miA (mVar 3)) (gTpA 2 (gsCons (gN 9) (gsCons (gN 10) gsNil))) mYes (mTup (mCons (mIfE (mB (mOp (fEq2 false) (mUn fLenSet (mVar 10)) (mC (.int 1)))) (mC .non) (mVar 9)) (mCons (mVar 10) mNil))) [9, 10]) mNil))))))
theorem ok_plain_form {f : Addr} {fd : FuncData} (D : DefAt K mg "plain_form" s_plain_form f fd) (B : Bi mg) {C_Setting : Addr} (CC_Setting : Ci_Setting K mg C_Setting) {f_entry_after : Addr} {fd_entry_after : FuncData} (C_entry_after : Cl T P w K mg base 1 "entry_after" ["setting", "deed", "entry"] f_entry_after fd_entry_after 3 m_entry_after) : Cl T P w K mg base 2 "plain_form" ["setting", "plan", "length"] f fd 3 m_plain_form := by
  refine ⟨fn_ok D.F sc_plain_form rfl (fun cdv A outer s H E hr => ?_), D.m, D.F.kp, D.F.binds fun _ _ _ _ _ _ us hl => match us, hl with | [_, _, _], _ => rfl⟩
  let X := cxOf (L2.CX P w) P w K mg base ["setting", "plan", "length", "row", "deed", "start", "stop", "place", "entry", "source", "mapping"] "plain_form" (defScope s_plain_form) f cdv A outer s H E
  have tk : Takes X (fun cls d _ H => E cls d H) := takes_of rfl rfl rfl rfl
  have hx : Passes (L2.CX P w) X E := passes_call tk fun _ _ _ _ z => z
  have po : PassesOwn (model P w) X.A X.env X.xe := passes_of rfl
  exact (mss_cons (ms_setLcS (i := 3) (own := [("place", 7)]) rfl sc_plain_form.nd rfl rfl (sw_true rfl rfl rfl (by kernel_rfl)) (mi_range1 (by rfl) B.b_range (ma_cons (me_var 2) ma_nil)) (by kernel_rfl) ⟨fun _ _ _ _ _ => (mgc_name (i := 7) sc_plain_form.nd rfl (by decide)), fun _ _ _ _ _ => mts_nil, fun _ _ _ _ _ => (me_tup (ma_cons (me_var 7) (ma_cons (me_tupRg rfl (by rfl) B.b_tuple (mrg_1 (by rfl) B.b_range (me_fld CC_Setting.A CC_Setting.na_size (me_var 0)))) ma_nil)))⟩)
      (mss_cons (ms_for po rfl (mi_any (me_var 1)) (mg_tupA rfl (mgs_cons (mg_name (i := 4) sc_plain_form.nd rfl) (mgs_cons (mg_name (i := 5) sc_plain_form.nd rfl) (mgs_cons (mg_name (i := 6) sc_plain_form.nd rfl) mgs_nil)))) (mss_one (ms_if (mt_cmp (op_eqD hr.units) o_eq2 (me_var 4) (me_gstr (by rfl) B.c_TURN.choose_spec)) (mss_one (ms_asg (me_rev (me_sl (me_var 3) (mo_some (me_var 5)) (mo_some (me_var 6)))) (mg_sl (me_var 3) (me_var 5) (me_var 6)))) (mss_one (ms_asg (me_lc (own := [("entry", 8)]) rfl sc_plain_form.nd (mi_any (me_sl (me_var 3) (mo_some (me_var 5)) (mo_some (me_var 6)))) (by kernel_rfl) ⟨fun _ _ _ _ _ => (mgc_name (i := 8) sc_plain_form.nd rfl (by decide)), fun _ _ _ _ _ => mts_nil, fun _ _ _ _ _ => (me_call C_entry_after.ok (hr.mono (by decide)) (by rfl) C_entry_after.m C_entry_after.kp C_entry_after.b passL (ma_cons (me_var 0) (ma_cons (me_var 4) (ma_cons (me_var 8) ma_nil))))⟩) (mg_sl (me_var 3) (me_var 5) (me_var 6)))))))
      (mss_one (ms_ret (me_tuple (by rfl) B.b_tuple (ma_cons (me_lc (own := [("source", 9), ("mapping", 10)]) rfl sc_plain_form.nd (mi_any (me_var 3)) (by kernel_rfl) ⟨fun _ _ _ _ _ => (mgc_tupA (K := K) rfl rfl (mgcs_cons (mgc_name (i := 9) sc_plain_form.nd rfl (by decide)) (mgcs_cons (mgc_name (i := 10) sc_plain_form.nd rfl (by decide)) mgcs_nil))), fun _ _ _ _ _ => mts_nil, fun _ _ _ _ _ => (me_tup (ma_cons (me_if (mt_cmp (op_eqD hr.units) o_eq2 (me_lenSet rfl (by rfl) B.b_len (by rfl) B.b_set (me_var 10)) me_int) me_non (me_var 9)) (ma_cons (me_var 10) ma_nil)))⟩) ma_nil))))))
/-! ### form_of -/
theorem sc_form_of : FnScope ["setting", "plan", "length"] ["setting", "plan", "length"] (defScope s_form_of) := ⟨rfl, rfl, rfl, by decide +kernel, rfl, by decide +kernel, by decide +kernel⟩
def m_form_of : List D → Store → Res D := mDef 3 ((sSeq (sExpr (mCall m_require_setting (mCons (mVar 0) mNil)))
  (sSeq (sExpr (mCall m_require_length (mCons (mVar 2) mNil)))
  (sSeq (sExpr (mCall m_require_plan (mCons (mVar 0) (mCons (mVar 1) (mCons (mVar 2) mNil)))))
  (sRet (mCall m_plain_form (mCons (mVar 0) (mCons (mVar 1) (mCons (mVar 2) mNil)))))))))
theorem ok_form_of {f : Addr} {fd : FuncData} (D : DefAt K mg "form_of" s_form_of f fd) (B : Bi mg) {f_plain_form : Addr} {fd_plain_form : FuncData} (C_plain_form : Cl T P w K mg base 2 "plain_form" ["setting", "plan", "length"] f_plain_form fd_plain_form 3 m_plain_form) {f_require_length : Addr} {fd_require_length : FuncData} (C_require_length : Cl T P w K mg base 2 "require_length" ["length"] f_require_length fd_require_length 1 m_require_length) {f_require_plan : Addr} {fd_require_plan : FuncData} (C_require_plan : Cl T P w K mg base 5 "require_plan" ["setting", "plan", "length"] f_require_plan fd_require_plan 3 m_require_plan) {f_require_setting : Addr} {fd_require_setting : FuncData} (C_require_setting : Cl T P w K mg base 1 "require_setting" ["setting"] f_require_setting fd_require_setting 1 m_require_setting) : Cl T P w K mg base 6 "form_of" ["setting", "plan", "length"] f fd 3 m_form_of := by
  refine ⟨fn_ok D.F sc_form_of rfl (fun cdv A outer s H E hr => ?_), D.m, D.F.kp, D.F.binds fun _ _ _ _ _ _ us hl => match us, hl with | [_, _, _], _ => rfl⟩
  let X := cxOf (L2.CX P w) P w K mg base ["setting", "plan", "length"] "form_of" (defScope s_form_of) f cdv A outer s H E
  have tk : Takes X (fun cls d _ H => E cls d H) := takes_of rfl rfl rfl rfl
  have hx : Passes (L2.CX P w) X E := passes_call tk fun _ _ _ _ z => z
  have po : PassesOwn (model P w) X.A X.env X.xe := passes_of rfl
  exact (mss_cons (ms_expr (me_call C_require_setting.ok (hr.mono (by decide)) (by rfl) C_require_setting.m C_require_setting.kp C_require_setting.b hx (ma_cons (me_var 0) ma_nil)))
      (mss_cons (ms_expr (me_call C_require_length.ok (hr.mono (by decide)) (by rfl) C_require_length.m C_require_length.kp C_require_length.b hx (ma_cons (me_var 2) ma_nil)))
      (mss_cons (ms_expr (me_call C_require_plan.ok (hr.mono (by decide)) (by rfl) C_require_plan.m C_require_plan.kp C_require_plan.b hx (ma_cons (me_var 0) (ma_cons (me_var 1) (ma_cons (me_var 2) ma_nil)))))
      (mss_one (ms_ret (me_call C_plain_form.ok (hr.mono (by decide)) (by rfl) C_plain_form.m C_plain_form.kp C_plain_form.b hx (ma_cons (me_var 0) (ma_cons (me_var 1) (ma_cons (me_var 2) ma_nil)))))))))
/-! ### swaps -/
theorem sc_swaps : FnScope ["setting", "plan", "length", "form", "found", "k", "some"] ["setting", "plan", "length"] (defScope s_swaps) := ⟨rfl, rfl, rfl, by decide +kernel, rfl, by decide +kernel, by decide +kernel⟩
def m_swaps : List D → Store → Res D := mDef 7 ((sSeq (sAsg (mCall m_form_of (mCons (mVar 0) (mCons (mVar 1) (mCons (mVar 2) mNil)))) (gN 3))
  (sSeq (sAsg (mLstS mNil) (gN 4))
  (sSeq (sFor (miR1 (mCons (mOp fSub (mCall fLen (mCons (mVar 1) mNil)) (mC (.int 1))) mNil)) (gN 5)
  (sSeq (sAsg (mOp fAdd (mOp fAdd (mCall (frL lList) (mCons (mSl (mVar 1) mNoPart (mPart (mVar 5))) mNil)) (mLst (mCons (mOp fIxD (mVar 1) (mOp fAdd (mVar 5) (mC (.int 1)))) (mCons (mOp fIxD (mVar 1) (mVar 5)) mNil)))) (mCall (frL lList) (mCons (mSl (mVar 1) (mPart (mOp fAdd (mVar 5) (mC (.int 2)))) mNoPart) mNil))) (gN 6))
  (sIf (mB (mOp (fEq2 false) (mCall m_plain_form (mCons (mVar 0) (mCons (mVar 6) (mCons (mVar 2) mNil)))) (mVar 3))) (sExpr (mApp (mVar 4) (mVar 5))) sNx)))
  (sRet (mVar 4))))))
theorem ok_swaps {f : Addr} {fd : FuncData} (D : DefAt K mg "swaps" s_swaps f fd) (B : Bi mg) {f_form_of : Addr} {fd_form_of : FuncData} (C_form_of : Cl T P w K mg base 6 "form_of" ["setting", "plan", "length"] f_form_of fd_form_of 3 m_form_of) {f_plain_form : Addr} {fd_plain_form : FuncData} (C_plain_form : Cl T P w K mg base 2 "plain_form" ["setting", "plan", "length"] f_plain_form fd_plain_form 3 m_plain_form) : Cl T P w K mg base 7 "swaps" ["setting", "plan", "length"] f fd 3 m_swaps := by
  refine ⟨fn_ok D.F sc_swaps rfl (fun cdv A outer s H E hr => ?_), D.m, D.F.kp, D.F.binds fun _ _ _ _ _ _ us hl => match us, hl with | [_, _, _], _ => rfl⟩
  let X := cxOf (L2.CX P w) P w K mg base ["setting", "plan", "length", "form", "found", "k", "some"] "swaps" (defScope s_swaps) f cdv A outer s H E
  have tk : Takes X (fun cls d _ H => E cls d H) := takes_of rfl rfl rfl rfl
  have hx : Passes (L2.CX P w) X E := passes_call tk fun _ _ _ _ z => z
  have po : PassesOwn (model P w) X.A X.env X.xe := passes_of rfl
  exact (mss_cons (ms_set (i := 3) sc_swaps.nd rfl (me_call C_form_of.ok (hr.mono (by decide)) (by rfl) C_form_of.m C_form_of.kp C_form_of.b hx (ma_cons (me_var 0) (ma_cons (me_var 1) (ma_cons (me_var 2) ma_nil)))))
      (mss_cons (ms_set (i := 4) sc_swaps.nd rfl (me_lstS ma_nil))
      (mss_cons (ms_for po rfl (mi_range1 (by rfl) B.b_range (ma_cons (me_sub (me_len (by rfl) B.b_len (ma_cons (me_var 1) ma_nil)) me_int) ma_nil)) (mg_name (i := 5) sc_swaps.nd rfl) (mss_cons (ms_set (i := 6) sc_swaps.nd rfl (me_add (me_add (me_list rfl (by rfl) B.b_list (ma_cons (me_sl (me_var 1) mo_none (mo_some (me_var 5))) ma_nil)) (me_lst (ma_cons (me_ixD hr.units (me_var 1) (me_add (me_var 5) me_int)) (ma_cons (me_ixD hr.units (me_var 1) (me_var 5)) ma_nil)))) (me_list rfl (by rfl) B.b_list (ma_cons (me_sl (me_var 1) (mo_some (me_add (me_var 5) me_int)) mo_none) ma_nil))))
      (mss_one (ms_if (mt_cmp (op_eqD hr.units) o_eq2 (me_call C_plain_form.ok (hr.mono (by decide)) (by rfl) C_plain_form.m C_plain_form.kp C_plain_form.b hx (ma_cons (me_var 0) (ma_cons (me_var 6) (ma_cons (me_var 2) ma_nil)))) (me_var 3)) (mss_one (ms_expr (me_append (me_var 4) (me_var 5)))) mss_nil))))
      (mss_one (ms_ret (me_var 4))))))
/-! ### idle -/
theorem sc_idle : FnScope ["setting", "plan", "length", "form", "left", "k", "some"] ["setting", "plan", "length"] (defScope s_idle) := ⟨rfl, rfl, rfl, by decide +kernel, rfl, by decide +kernel, by decide +kernel⟩
def m_idle : List D → Store → Res D := mDef 7 ((sSeq (sAsg (mCall m_form_of (mCons (mVar 0) (mCons (mVar 1) (mCons (mVar 2) mNil)))) (gN 3))
  (sSeq (sAsg (mLc (miR1 (mCons (mCall fLen (mCons (mVar 1) mNil)) mNil)) (gN 5) mYes (mOp fAdd (mCall (frL lList) (mCons (mSl (mVar 1) mNoPart (mPart (mVar 5))) mNil)) (mCall (frL lList) (mCons (mSl (mVar 1) (mPart (mOp fAdd (mVar 5) (mC (.int 1)))) mNoPart) mNil))) [5]) (gN 4))
  (sRet (mLcS (miE2 (mCons (mVar 4) mNil)) (gTpA 2 (gsCons (gN 5) (gsCons (gN 6) gsNil))) (mB (mOp (fEq2 false) (mCall m_plain_form (mCons (mVar 0) (mCons (mVar 6) (mCons (mVar 2) mNil)))) (mVar 3))) (mVar 5) [5, 6])))))
theorem ok_idle {f : Addr} {fd : FuncData} (D : DefAt K mg "idle" s_idle f fd) (B : Bi mg) {f_form_of : Addr} {fd_form_of : FuncData} (C_form_of : Cl T P w K mg base 6 "form_of" ["setting", "plan", "length"] f_form_of fd_form_of 3 m_form_of) {f_plain_form : Addr} {fd_plain_form : FuncData} (C_plain_form : Cl T P w K mg base 2 "plain_form" ["setting", "plan", "length"] f_plain_form fd_plain_form 3 m_plain_form) : Cl T P w K mg base 7 "idle" ["setting", "plan", "length"] f fd 3 m_idle := by
  refine ⟨fn_ok D.F sc_idle rfl (fun cdv A outer s H E hr => ?_), D.m, D.F.kp, D.F.binds fun _ _ _ _ _ _ us hl => match us, hl with | [_, _, _], _ => rfl⟩
  let X := cxOf (L2.CX P w) P w K mg base ["setting", "plan", "length", "form", "left", "k", "some"] "idle" (defScope s_idle) f cdv A outer s H E
  have tk : Takes X (fun cls d _ H => E cls d H) := takes_of rfl rfl rfl rfl
  have hx : Passes (L2.CX P w) X E := passes_call tk fun _ _ _ _ z => z
  have po : PassesOwn (model P w) X.A X.env X.xe := passes_of rfl
  exact (mss_cons (ms_set (i := 3) sc_idle.nd rfl (me_call C_form_of.ok (hr.mono (by decide)) (by rfl) C_form_of.m C_form_of.kp C_form_of.b hx (ma_cons (me_var 0) (ma_cons (me_var 1) (ma_cons (me_var 2) ma_nil)))))
      (mss_cons (ms_setLc (i := 4) (own := [("k", 5)]) rfl sc_idle.nd rfl rfl (sw_true rfl rfl rfl (by kernel_rfl)) (mi_range1 (by rfl) B.b_range (ma_cons (me_len (by rfl) B.b_len (ma_cons (me_var 1) ma_nil)) ma_nil)) (by kernel_rfl) ⟨fun _ _ _ _ _ => (mgc_name (i := 5) sc_idle.nd rfl (by decide)), fun _ _ _ _ _ => mts_nil, fun _ _ _ _ _ => (me_add (me_list rfl (by rfl) B.b_list (ma_cons (me_sl (me_var 1) mo_none (mo_some (me_var 5))) ma_nil)) (me_list rfl (by rfl) B.b_list (ma_cons (me_sl (me_var 1) (mo_some (me_add (me_var 5) me_int)) mo_none) ma_nil)))⟩)
      (mss_one (ms_ret (me_lcS (own := [("k", 5), ("some", 6)]) rfl sc_idle.nd (mi_enum2 (by rfl) B.b_enumerate (ma_cons (me_var 4) ma_nil)) (by kernel_rfl) ⟨fun _ _ _ _ _ => (mgc_tupA (K := K) rfl rfl (mgcs_cons (mgc_name (i := 5) sc_idle.nd rfl (by decide)) (mgcs_cons (mgc_name (i := 6) sc_idle.nd rfl (by decide)) mgcs_nil))), fun _ _ _ _ _ => (mts_one (mt_cmp (op_eqD hr.units) o_eq2 (me_call C_plain_form.ok (hr.mono (by decide)) (by rfl) C_plain_form.m C_plain_form.kp C_plain_form.b passL (ma_cons (me_var 0) (ma_cons (me_var 6) (ma_cons (me_var 2) ma_nil)))) (me_var 3))), fun _ _ _ _ _ => (me_var 5)⟩)))))
/-! ### _law_right -/
theorem sc__law_right : FnScope ["_law_purse_here", "_law_own_here", "_law_made", "_law_long", "_law_steps", "_law_at_here", "_law_goal", "_law_due", "_law_changed", "_law_k", "_law_told", "_law_first", "_law_last"] ["_law_purse_here", "_law_own_here", "_law_made"] (defScope s__law_right) := ⟨rfl, rfl, rfl, by decide +kernel, rfl, by decide +kernel, by decide +kernel⟩
def m__law_right : List D → Store → Res D := mDef 13 ((sSeq (sAsg (mOp fIxD (mLst (mCons (mCall m__law_draw (mCons (mVar 0) (mCons (mC (.int 7)) mNil))) (mCons (mCall m__law_draw (mCons (mVar 0) (mCons (mC (.int 61)) mNil))) mNil))) (mCall fInt (mCons (mOp (fEq2 false) (mCall m__law_draw (mCons (mVar 0) (mCons (mC (.int 4)) mNil))) (mC (.int 0))) mNil))) (gN 3))
  (sSeq (sAsg (mCall m__law_plan (mCons (mVar 0) (mCons (mVar 1) (mCons (mVar 3) (mCons (mOp fIxD (mLst (mCons (mC (.int 6)) (mCons (mC (.int 6)) (mCons (mC (.int 6)) (mCons (mC (.int 36)) mNil))))) (mOp fMul (mCall m__law_draw (mCons (mVar 0) (mCons (mC (.int 4)) mNil))) (mCall fInt (mCons (mOp fLtI (mVar 3) (mC (.int 7))) mNil)))) mNil))))) (gN 4))
  (sSeq (sAsg (mCall m__law_draw (mCons (mVar 0) (mCons (mOp fAdd (mCall fLen (mCons (mVar 4) mNil)) (mC (.int 1))) mNil))) (gN 5))
  (sSeq (sAsg (mOp fAdd (mOp fAdd (mSl (mVar 4) mNoPart (mPart (mVar 5))) (mOp fMul (mSl (mVar 4) (mPart (mVar 5)) (mPart (mOp fAdd (mVar 5) (mC (.int 1))))) (mCall m__law_draw (mCons (mVar 0) (mCons (mC (.int 4)) mNil))))) (mSl (mVar 4) (mPart (mVar 5)) mNoPart)) (gN 4))
  (sSeq (sAsg (mCall m__law_form (mCons (mVar 1) (mCons (mVar 4) (mCons (mVar 3) mNil)))) (gN 6))
  (sSeq (sAsg (mLc (miR1 (mCons (mCall fLen (mCons (mVar 4) mNil)) mNil)) (gN 9) (mB (mOp (fEq2 false) (mCall m__law_form (mCons (mVar 1) (mCons (mOp fAdd (mSl (mVar 4) mNoPart (mPart (mVar 9))) (mSl (mVar 4) (mPart (mOp fAdd (mVar 9) (mC (.int 1)))) mNoPart)) (mCons (mVar 3) mNil)))) (mVar 6))) (mVar 9) [9]) (gN 7))
  (sSeq (sAsg (mLstS mNil) (gN 8))
  (sSeq (sFor (miR1 (mCons (mOp fSub (mCall fLen (mCons (mVar 4) mNil)) (mC (.int 1))) mNil)) (gN 9)
  (sIf (mB (mOp (fEq2 false) (mCall m__law_form (mCons (mVar 1) (mCons (mOp fAdd (mOp fAdd (mSl (mVar 4) mNoPart (mPart (mVar 9))) (mLst (mCons (mOp fIxD (mVar 4) (mOp fAdd (mVar 9) (mC (.int 1)))) (mCons (mOp fIxD (mVar 4) (mVar 9)) mNil)))) (mSl (mVar 4) (mPart (mOp fAdd (mVar 9) (mC (.int 2)))) mNoPart)) (mCons (mVar 3) mNil)))) (mVar 6))) (sExpr (mApp (mVar 8) (mVar 9))) sNx))
  (sSeq (sAsg (mLst (mCons (mCall m_idle (mCons (mVar 2) (mCons (mVar 4) (mCons (mVar 3) mNil)))) (mCons (mCall m_swaps (mCons (mVar 2) (mCons (mCall fTuple (mCons (mVar 4) mNil)) (mCons (mVar 3) mNil)))) mNil))) (gN 10))
  (sSeq (sIf (mB (mOp (fEq2 true) (mVar 10) (mLst (mCons (mVar 7) (mCons (mVar 8) mNil))))) (sRet (mC (.bl false))) sNx)
  (sSeq (sAsg (mVar 10) (gTpA 2 (gsCons (gN 11) (gsCons (gN 12) gsNil))))
  (sSeq (sExpr (mApp (mVar 11) (mC (.int 99))))
  (sSeq (sExpr (mApp (mVar 12) (mC (.int 99))))
  (sSeq (sAsg (mLst (mCons (mCallK m_idle 0 3 [2, 1, 0] mNil (mCons (mVar 3) (mCons (mCall fTuple (mCons (mVar 4) mNil)) (mCons (mVar 2) mNil)))) (mCons (mCallK m_swaps 0 3 [2, 1, 0] mNil (mCons (mVar 3) (mCons (mVar 4) (mCons (mVar 2) mNil)))) mNil))) (gN 10))
  (sRet (mOp (fEq2 false) (mVar 10) (mLst (mCons (mVar 7) (mCons (mVar 8) mNil))))))))))))))))))))
theorem ok__law_right {f : Addr} {fd : FuncData} (D : DefAt K mg "_law_right" s__law_right f fd) (B : Bi mg) {f__law_draw : Addr} {fd__law_draw : FuncData} (C__law_draw : Cl T P w K mg base 2 "_law_draw" ["_law_purse_here", "_law_out_of"] f__law_draw fd__law_draw 2 m__law_draw) {f__law_form : Addr} {fd__law_form : FuncData} (C__law_form : Cl T P w K mg base 1 "_law_form" ["_law_own_here", "_law_steps", "_law_long"] f__law_form fd__law_form 3 m__law_form) {f__law_plan : Addr} {fd__law_plan : FuncData} (C__law_plan : Cl T P w K mg base 3 "_law_plan" ["_law_purse_here", "_law_own_here", "_law_long", "_law_most"] f__law_plan fd__law_plan 4 m__law_plan) {f_idle : Addr} {fd_idle : FuncData} (C_idle : Cl T P w K mg base 7 "idle" ["setting", "plan", "length"] f_idle fd_idle 3 m_idle) {f_swaps : Addr} {fd_swaps : FuncData} (C_swaps : Cl T P w K mg base 7 "swaps" ["setting", "plan", "length"] f_swaps fd_swaps 3 m_swaps) (D_idle : DefAt K mg "idle" s_idle f_idle fd_idle) (D_swaps : DefAt K mg "swaps" s_swaps f_swaps fd_swaps) : Cl T P w K mg base 8 "_law_right" ["_law_purse_here", "_law_own_here", "_law_made"] f fd 3 m__law_right := by
  refine ⟨fn_ok D.F sc__law_right rfl (fun cdv A outer s H E hr => ?_), D.m, D.F.kp, D.F.binds fun _ _ _ _ _ _ us hl => match us, hl with | [_, _, _], _ => rfl⟩
  let X := cxOf (L2.CX P w) P w K mg base ["_law_purse_here", "_law_own_here", "_law_made", "_law_long", "_law_steps", "_law_at_here", "_law_goal", "_law_due", "_law_changed", "_law_k", "_law_told", "_law_first", "_law_last"] "_law_right" (defScope s__law_right) f cdv A outer s H E
  have tk : Takes X (fun cls d _ H => E cls d H) := takes_of rfl rfl rfl rfl
  have hx : Passes (L2.CX P w) X E := passes_call tk fun _ _ _ _ z => z
  have po : PassesOwn (model P w) X.A X.env X.xe := passes_of rfl
  exact (mss_cons (ms_set (i := 3) sc__law_right.nd rfl (me_ixD hr.units (me_lst (ma_cons (me_call C__law_draw.ok (hr.mono (by decide)) (by rfl) C__law_draw.m C__law_draw.kp C__law_draw.b hx (ma_cons (me_var 0) (ma_cons me_int ma_nil))) (ma_cons (me_call C__law_draw.ok (hr.mono (by decide)) (by rfl) C__law_draw.m C__law_draw.kp C__law_draw.b hx (ma_cons (me_var 0) (ma_cons me_int ma_nil))) ma_nil))) (me_int1 (by rfl) B.b_int (ma_cons (me_cmp (op_eqD hr.units) o_eq2 (me_call C__law_draw.ok (hr.mono (by decide)) (by rfl) C__law_draw.m C__law_draw.kp C__law_draw.b hx (ma_cons (me_var 0) (ma_cons me_int ma_nil))) me_int) ma_nil))))
      (mss_cons (ms_set (i := 4) sc__law_right.nd rfl (me_call C__law_plan.ok (hr.mono (by decide)) (by rfl) C__law_plan.m C__law_plan.kp C__law_plan.b hx (ma_cons (me_var 0) (ma_cons (me_var 1) (ma_cons (me_var 3) (ma_cons (me_ixD hr.units (me_lst (ma_cons me_int (ma_cons me_int (ma_cons me_int (ma_cons me_int ma_nil))))) (me_mulA (me_call C__law_draw.ok (hr.mono (by decide)) (by rfl) C__law_draw.m C__law_draw.kp C__law_draw.b hx (ma_cons (me_var 0) (ma_cons me_int ma_nil))) (me_int1 (by rfl) B.b_int (ma_cons (me_cmp op_lt o_lt (me_var 3) me_int) ma_nil)))) ma_nil))))))
      (mss_cons (ms_set (i := 5) sc__law_right.nd rfl (me_call C__law_draw.ok (hr.mono (by decide)) (by rfl) C__law_draw.m C__law_draw.kp C__law_draw.b hx (ma_cons (me_var 0) (ma_cons (me_add (me_len (by rfl) B.b_len (ma_cons (me_var 4) ma_nil)) me_int) ma_nil))))
      (mss_cons (ms_set (i := 4) sc__law_right.nd rfl (me_add (me_add (me_sl (me_var 4) mo_none (mo_some (me_var 5))) (me_mulA (me_sl (me_var 4) (mo_some (me_var 5)) (mo_some (me_add (me_var 5) me_int))) (me_call C__law_draw.ok (hr.mono (by decide)) (by rfl) C__law_draw.m C__law_draw.kp C__law_draw.b hx (ma_cons (me_var 0) (ma_cons me_int ma_nil))))) (me_sl (me_var 4) (mo_some (me_var 5)) mo_none)))
      (mss_cons (ms_set (i := 6) sc__law_right.nd rfl (me_call C__law_form.ok (hr.mono (by decide)) (by rfl) C__law_form.m C__law_form.kp C__law_form.b hx (ma_cons (me_var 1) (ma_cons (me_var 4) (ma_cons (me_var 3) ma_nil)))))
      (mss_cons (ms_setLc (i := 7) (own := [("_law_k", 9)]) rfl sc__law_right.nd rfl rfl (sw_true rfl rfl rfl (by kernel_rfl)) (mi_range1 (by rfl) B.b_range (ma_cons (me_len (by rfl) B.b_len (ma_cons (me_var 4) ma_nil)) ma_nil)) (by kernel_rfl) ⟨fun _ _ _ _ _ => (mgc_name (i := 9) sc__law_right.nd rfl (by decide)), fun _ _ _ _ _ => (mts_one (mt_cmp (op_eqD hr.units) o_eq2 (me_call C__law_form.ok (hr.mono (by decide)) (by rfl) C__law_form.m C__law_form.kp C__law_form.b passL (ma_cons (me_var 1) (ma_cons (me_add (me_sl (me_var 4) mo_none (mo_some (me_var 9))) (me_sl (me_var 4) (mo_some (me_add (me_var 9) me_int)) mo_none)) (ma_cons (me_var 3) ma_nil)))) (me_var 6))), fun _ _ _ _ _ => (me_var 9)⟩)
      (mss_cons (ms_set (i := 8) sc__law_right.nd rfl (me_lstS ma_nil))
      (mss_cons (ms_for po rfl (mi_range1 (by rfl) B.b_range (ma_cons (me_sub (me_len (by rfl) B.b_len (ma_cons (me_var 4) ma_nil)) me_int) ma_nil)) (mg_name (i := 9) sc__law_right.nd rfl) (mss_one (ms_if (mt_cmp (op_eqD hr.units) o_eq2 (me_call C__law_form.ok (hr.mono (by decide)) (by rfl) C__law_form.m C__law_form.kp C__law_form.b hx (ma_cons (me_var 1) (ma_cons (me_add (me_add (me_sl (me_var 4) mo_none (mo_some (me_var 9))) (me_lst (ma_cons (me_ixD hr.units (me_var 4) (me_add (me_var 9) me_int)) (ma_cons (me_ixD hr.units (me_var 4) (me_var 9)) ma_nil)))) (me_sl (me_var 4) (mo_some (me_add (me_var 9) me_int)) mo_none)) (ma_cons (me_var 3) ma_nil)))) (me_var 6)) (mss_one (ms_expr (me_append (me_var 8) (me_var 9)))) mss_nil)))
      (mss_cons (ms_set (i := 10) sc__law_right.nd rfl (me_lst (ma_cons (me_call C_idle.ok (hr.mono (by decide)) (by rfl) C_idle.m C_idle.kp C_idle.b hx (ma_cons (me_var 2) (ma_cons (me_var 4) (ma_cons (me_var 3) ma_nil)))) (ma_cons (me_call C_swaps.ok (hr.mono (by decide)) (by rfl) C_swaps.m C_swaps.kp C_swaps.b hx (ma_cons (me_var 2) (ma_cons (me_tuple (by rfl) B.b_tuple (ma_cons (me_var 4) ma_nil)) (ma_cons (me_var 3) ma_nil)))) ma_nil))))
      (mss_cons (ms_if (mt_cmp (op_neD hr.units) o_ne2 (me_var 10) (me_lst (ma_cons (me_var 7) (ma_cons (me_var 8) ma_nil)))) (mss_one (ms_ret me_bl)) mss_nil)
      (mss_cons (ms_asg (me_var 10) (mg_tupA rfl (mgs_cons (mg_name (i := 11) sc__law_right.nd rfl) (mgs_cons (mg_name (i := 12) sc__law_right.nd rfl) mgs_nil))))
      (mss_cons (ms_expr (me_append (me_var 11) me_int))
      (mss_cons (ms_expr (me_append (me_var 12) me_int))
      (mss_cons (ms_set (i := 10) sc__law_right.nd rfl (me_lst (ma_cons (me_callK0 C_idle.ok (hr.mono (by decide)) (by rfl) C_idle.m C_idle.kp (kto_of D_idle.F (ix := [2, 1, 0]) (n1 := 0) (n2 := 3) (fun _ _ _ _ _ _ us ws h1 h2 => match us, ws, h1, h2 with | [], [_, _, _], _, _ => rfl)) (by decide) hx (mk_cons (me_var 3) (mk_cons (me_tuple (by rfl) B.b_tuple (ma_cons (me_var 4) ma_nil)) (mk_cons (me_var 2) mk_nil))) (fun us ws h1 h2 => match us, ws, h1, h2 with | [], [_, _, _], _, _ => rfl)) (ma_cons (me_callK0 C_swaps.ok (hr.mono (by decide)) (by rfl) C_swaps.m C_swaps.kp (kto_of D_swaps.F (ix := [2, 1, 0]) (n1 := 0) (n2 := 3) (fun _ _ _ _ _ _ us ws h1 h2 => match us, ws, h1, h2 with | [], [_, _, _], _, _ => rfl)) (by decide) hx (mk_cons (me_var 3) (mk_cons (me_var 4) (mk_cons (me_var 2) mk_nil))) (fun us ws h1 h2 => match us, ws, h1, h2 with | [], [_, _, _], _, _ => rfl)) ma_nil))))
      (mss_one (ms_ret (me_cmp (op_eqD hr.units) o_eq2 (me_var 10) (me_lst (ma_cons (me_var 7) (ma_cons (me_var 8) ma_nil))))))))))))))))))))
/-! ### law -/
theorem sc_law : FnScope ["_law_script", "_law_at_here", "_law_some", "_law_steps", "_law_purse_here", "_law_own_here", "_law_made", "_law_turn"] ["_law_script"] (defScope s_law) := ⟨rfl, rfl, rfl, by decide +kernel, rfl, by decide +kernel, by decide +kernel⟩
def m_law : List D → Store → Res D := mDef 8 ((sSeq (sFor (miR1 (mCons (mOp fAdd (mC (.int 1)) (mCall fMin2 (mCons (mC (.int 6)) (mCons (mCall fLen (mCons (mVar 0) mNil)) mNil)))) mNil)) (gN 1)
  (sSeq (sAsg (mCall m__law_purse (mCons (mVar 0) (mCons (mVar 1) mNil))) (gN 4))
  (sSeq (sAsg (mCall m__law_own (mCons (mVar 4) (mCons (mC (.int 4)) (mCons (mC (.int 1)) mNil)))) (gN 5))
  (sSeq (sAsg (mCall m__law_setting (mCons (mVar 5) mNil)) (gN 6))
  (sFor (miR1 (mCons (mC (.int 4)) mNil)) (gN 7)
  (sIf (mNotT (mB (mCall m__law_right (mCons (mVar 4) (mCons (mVar 5) (mCons (mVar 6) mNil)))))) (sRet (mC (.bl false))) sNx))))))
  (sSeq (sAsg (mMake "Setting" m_Setting__init [] (mCons (mC (.int 3)) (mCons (mDisp [((mC (.str "up")), (mTup (mCons (mC (.int 1)) (mCons (mC (.int 2)) (mCons (mC (.int 2)) mNil))))), ((mC (.str "two")), (mTup (mCons (mC (.int 2)) (mCons (mC (.int 2)) (mCons (mC (.int 2)) mNil)))))]) (mCons (mC .non) (mCons (mC (.bl true)) mNil))))) (gN 2))
  (sSeq (sAsg (mTup (mCons (mTup (mCons (mC (.str "turn")) (mCons (mC (.int 0)) (mCons (mC (.int 4)) mNil)))) (mCons (mTup (mCons (mC (.str "two")) (mCons (mC (.int 0)) (mCons (mC (.int 2)) mNil)))) (mCons (mTup (mCons (mC (.str "up")) (mCons (mC (.int 0)) (mCons (mC (.int 4)) mNil)))) (mCons (mTup (mCons (mC (.str "turn")) (mCons (mC (.int 2)) (mCons (mC (.int 2)) mNil)))) (mCons (mTup (mCons (mC (.str "turn")) (mCons (mC (.int 0)) (mCons (mC (.int 4)) mNil)))) mNil)))))) (gN 3))
  (sRet (mAndV (mOp (fEq2 false) (mCall m_idle (mCons (mVar 2) (mCons (mVar 3) (mCons (mC (.int 4)) mNil)))) (mLst (mCons (mC (.int 3)) mNil))) (mAndV (mOp (fEq2 false) (mCall m_swaps (mCons (mVar 2) (mCons (mVar 3) (mCons (mC (.int 4)) mNil)))) (mLst (mCons (mC (.int 1)) (mCons (mC (.int 2)) (mCons (mC (.int 3)) mNil))))) (mOp (fEq2 false) (mCall m_swaps (mCons (mVar 2) (mCons (mTup mNil) (mCons (mC (.int 0)) mNil)))) (mLst mNil)))))))))
theorem ok_law {f : Addr} {fd : FuncData} (D : DefAt K mg "law" s_law f fd) (B : Bi mg) {C_Setting : Addr} (CC_Setting : Ci_Setting K mg C_Setting) {f_Setting__init : Addr} {fd_Setting__init : FuncData} (C_Setting__init : ClI T P w K mg base 5 C_Setting ["self", "size", "maps", "asks", "turning"] f_Setting__init fd_Setting__init 5 m_Setting__init) {f__law_own : Addr} {fd__law_own : FuncData} (C__law_own : Cl T P w K mg base 4 "_law_own" ["_law_purse_here", "_law_wide", "_law_most"] f__law_own fd__law_own 3 m__law_own) {f__law_purse : Addr} {fd__law_purse : FuncData} (C__law_purse : Cl T P w K mg base 2 "_law_purse" ["_law_script", "_law_at_here"] f__law_purse fd__law_purse 2 m__law_purse) {f__law_right : Addr} {fd__law_right : FuncData} (C__law_right : Cl T P w K mg base 8 "_law_right" ["_law_purse_here", "_law_own_here", "_law_made"] f__law_right fd__law_right 3 m__law_right) {f__law_setting : Addr} {fd__law_setting : FuncData} (C__law_setting : Cl T P w K mg base 7 "_law_setting" ["_law_own_here"] f__law_setting fd__law_setting 1 m__law_setting) {f_idle : Addr} {fd_idle : FuncData} (C_idle : Cl T P w K mg base 7 "idle" ["setting", "plan", "length"] f_idle fd_idle 3 m_idle) {f_swaps : Addr} {fd_swaps : FuncData} (C_swaps : Cl T P w K mg base 7 "swaps" ["setting", "plan", "length"] f_swaps fd_swaps 3 m_swaps) (D_Setting__init : DefID K C_Setting "Setting.__init__" s_Setting__init [V.non, V.non, V.bl false] f_Setting__init fd_Setting__init) : Cl T P w K mg base 9 "law" ["_law_script"] f fd 1 m_law := by
  refine ⟨fn_ok D.F sc_law rfl (fun cdv A outer s H E hr => ?_), D.m, D.F.kp, D.F.binds fun _ _ _ _ _ _ us hl => match us, hl with | [_], _ => rfl⟩
  let X := cxOf (L2.CX P w) P w K mg base ["_law_script", "_law_at_here", "_law_some", "_law_steps", "_law_purse_here", "_law_own_here", "_law_made", "_law_turn"] "law" (defScope s_law) f cdv A outer s H E
  have tk : Takes X (fun cls d _ H => E cls d H) := takes_of rfl rfl rfl rfl
  have hx : Passes (L2.CX P w) X E := passes_call tk fun _ _ _ _ z => z
  have po : PassesOwn (model P w) X.A X.env X.xe := passes_of rfl
  exact (mss_cons (ms_for po rfl (mi_range1 (by rfl) B.b_range (ma_cons (me_add me_int (me_min2 rfl (by rfl) B.b_min (ma_cons me_int (ma_cons (me_len (by rfl) B.b_len (ma_cons (me_var 0) ma_nil)) ma_nil)))) ma_nil)) (mg_name (i := 1) sc_law.nd rfl) (mss_cons (ms_set (i := 4) sc_law.nd rfl (me_call C__law_purse.ok (hr.mono (by decide)) (by rfl) C__law_purse.m C__law_purse.kp C__law_purse.b hx (ma_cons (me_var 0) (ma_cons (me_var 1) ma_nil))))
      (mss_cons (ms_set (i := 5) sc_law.nd rfl (me_call C__law_own.ok (hr.mono (by decide)) (by rfl) C__law_own.m C__law_own.kp C__law_own.b hx (ma_cons (me_var 4) (ma_cons me_int (ma_cons me_int ma_nil)))))
      (mss_cons (ms_set (i := 6) sc_law.nd rfl (me_call C__law_setting.ok (hr.mono (by decide)) (by rfl) C__law_setting.m C__law_setting.kp C__law_setting.b hx (ma_cons (me_var 5) ma_nil)))
      (mss_one (ms_for po rfl (mi_range1 (by rfl) B.b_range (ma_cons me_int ma_nil)) (mg_name (i := 7) sc_law.nd rfl) (mss_one (ms_if (mt_not (mt_val (me_call C__law_right.ok (hr.mono (by decide)) (by rfl) C__law_right.m C__law_right.kp C__law_right.b hx (ma_cons (me_var 4) (ma_cons (me_var 5) (ma_cons (me_var 6) ma_nil)))))) (mss_one (ms_ret me_bl)) mss_nil))))))))
      (mss_cons (ms_set (i := 2) sc_law.nd rfl (me_makeE (cds := []) CC_Setting.A C_Setting__init.M C_Setting__init.ok (hr.mono (by decide)) (by rfl) (D_Setting__init.F.binds 5 3 rfl (fun _ _ _ _ _ _ _ us its h1 h2 => match us, its, h1, h2 with | [_, _, _, _, _], [_, _, _], _, _ => ⟨_, rfl, rfl⟩)) Consts.nil hx (ma_cons me_int (ma_cons (me_disp (mps_cons me_str (me_tup (ma_cons me_int (ma_cons me_int (ma_cons me_int ma_nil)))) (mps_cons me_str (me_tup (ma_cons me_int (ma_cons me_int (ma_cons me_int ma_nil)))) mps_nil))) (ma_cons me_non (ma_cons me_bl ma_nil))))))
      (mss_cons (ms_set (i := 3) sc_law.nd rfl (me_tup (ma_cons (me_tup (ma_cons me_str (ma_cons me_int (ma_cons me_int ma_nil)))) (ma_cons (me_tup (ma_cons me_str (ma_cons me_int (ma_cons me_int ma_nil)))) (ma_cons (me_tup (ma_cons me_str (ma_cons me_int (ma_cons me_int ma_nil)))) (ma_cons (me_tup (ma_cons me_str (ma_cons me_int (ma_cons me_int ma_nil)))) (ma_cons (me_tup (ma_cons me_str (ma_cons me_int (ma_cons me_int ma_nil)))) ma_nil)))))))
      (mss_one (ms_ret (me_and (me_cmp (op_eqD hr.units) o_eq2 (me_call C_idle.ok (hr.mono (by decide)) (by rfl) C_idle.m C_idle.kp C_idle.b hx (ma_cons (me_var 2) (ma_cons (me_var 3) (ma_cons me_int ma_nil)))) (me_lst (ma_cons me_int ma_nil))) (me_and (me_cmp (op_eqD hr.units) o_eq2 (me_call C_swaps.ok (hr.mono (by decide)) (by rfl) C_swaps.m C_swaps.kp C_swaps.b hx (ma_cons (me_var 2) (ma_cons (me_var 3) (ma_cons me_int ma_nil)))) (me_lst (ma_cons me_int (ma_cons me_int (ma_cons me_int ma_nil))))) (me_one (me_cmp (op_eqD hr.units) o_eq2 (me_call C_swaps.ok (hr.mono (by decide)) (by rfl) C_swaps.m C_swaps.kp C_swaps.b hx (ma_cons (me_var 2) (ma_cons (me_tup ma_nil) (ma_cons me_int ma_nil)))) (me_lst ma_nil))))))))))
end
/-! ### what the top has written -/
theorem law_mk {l : PySem.W.OpenLaw} {w : World} {q : Program} {K : PySem.W.Frag} {h : Heap} {mg : Str → Option Value} {fa : Addr} {C_Setting : Addr} {f__law_at : Addr} {od__law_at an__law_at : Option Addr} {sl__law_at : Array (Option Value)} {oc__law_at kV__law_at dc__law_at pm__law_at ct__law_at cd__law_at : Value} {f__law_purse : Addr} {od__law_purse an__law_purse : Option Addr} {sl__law_purse : Array (Option Value)} {oc__law_purse kV__law_purse dc__law_purse pm__law_purse ct__law_purse cd__law_purse : Value} {f__law_mixed : Addr} {od__law_mixed an__law_mixed : Option Addr} {sl__law_mixed : Array (Option Value)} {oc__law_mixed kV__law_mixed dc__law_mixed pm__law_mixed ct__law_mixed cd__law_mixed : Value} {f__law_draw : Addr} {od__law_draw an__law_draw : Option Addr} {sl__law_draw : Array (Option Value)} {oc__law_draw kV__law_draw dc__law_draw pm__law_draw ct__law_draw cd__law_draw : Value} {f__law_machine : Addr} {od__law_machine an__law_machine : Option Addr} {sl__law_machine : Array (Option Value)} {oc__law_machine kV__law_machine dc__law_machine pm__law_machine ct__law_machine cd__law_machine : Value} {f__law_own : Addr} {od__law_own an__law_own : Option Addr} {sl__law_own : Array (Option Value)} {oc__law_own kV__law_own dc__law_own pm__law_own ct__law_own cd__law_own : Value} {f_is_integer : Addr} {od_is_integer an_is_integer : Option Addr} {sl_is_integer : Array (Option Value)} {oc_is_integer kV_is_integer dc_is_integer pm_is_integer ct_is_integer cd_is_integer : Value} {f_require_size : Addr} {od_require_size an_require_size : Option Addr} {sl_require_size : Array (Option Value)} {oc_require_size kV_require_size dc_require_size pm_require_size ct_require_size cd_require_size : Value} {f_is_name : Addr} {od_is_name an_is_name : Option Addr} {sl_is_name : Array (Option Value)} {oc_is_name kV_is_name dc_is_name pm_is_name ct_is_name cd_is_name : Value} {f_is_row : Addr} {od_is_row an_is_row : Option Addr} {sl_is_row : Array (Option Value)} {oc_is_row kV_is_row dc_is_row pm_is_row ct_is_row cd_is_row : Value} {f_is_map : Addr} {od_is_map an_is_map : Option Addr} {sl_is_map : Array (Option Value)} {oc_is_map kV_is_map dc_is_map pm_is_map ct_is_map cd_is_map : Value} {f_taken_maps : Addr} {od_taken_maps an_taken_maps : Option Addr} {sl_taken_maps : Array (Option Value)} {oc_taken_maps kV_taken_maps dc_taken_maps pm_taken_maps ct_taken_maps cd_taken_maps : Value} {f_fault_of : Addr} {od_fault_of an_fault_of : Option Addr} {sl_fault_of : Array (Option Value)} {oc_fault_of kV_fault_of dc_fault_of pm_fault_of ct_fault_of cd_fault_of : Value} {f_taken_asks : Addr} {od_taken_asks an_taken_asks : Option Addr} {sl_taken_asks : Array (Option Value)} {oc_taken_asks kV_taken_asks dc_taken_asks pm_taken_asks ct_taken_asks cd_taken_asks : Value} {f_Setting__init : Addr} {od_Setting__init an_Setting__init : Option Addr} {sl_Setting__init : Array (Option Value)} {oc_Setting__init kV_Setting__init dc_Setting__init pm_Setting__init ct_Setting__init cd_Setting__init : Value} {TT_Setting__init : Addr} {te_Setting__init : Value} {td_Setting__init : Option Addr} {its_Setting__init : Array Value} {tn_Setting__init : Nat} {ts_Setting__init : Array (Option Value)} {f__law_setting : Addr} {od__law_setting an__law_setting : Option Addr} {sl__law_setting : Array (Option Value)} {oc__law_setting kV__law_setting dc__law_setting pm__law_setting ct__law_setting cd__law_setting : Value} {f__law_deeds : Addr} {od__law_deeds an__law_deeds : Option Addr} {sl__law_deeds : Array (Option Value)} {oc__law_deeds kV__law_deeds dc__law_deeds pm__law_deeds ct__law_deeds cd__law_deeds : Value} {f__law_plan : Addr} {od__law_plan an__law_plan : Option Addr} {sl__law_plan : Array (Option Value)} {oc__law_plan kV__law_plan dc__law_plan pm__law_plan ct__law_plan cd__law_plan : Value} {f__law_form : Addr} {od__law_form an__law_form : Option Addr} {sl__law_form : Array (Option Value)} {oc__law_form kV__law_form dc__law_form pm__law_form ct__law_form cd__law_form : Value} {f_require_setting : Addr} {od_require_setting an_require_setting : Option Addr} {sl_require_setting : Array (Option Value)} {oc_require_setting kV_require_setting dc_require_setting pm_require_setting ct_require_setting cd_require_setting : Value} {f_require_length : Addr} {od_require_length an_require_length : Option Addr} {sl_require_length : Array (Option Value)} {oc_require_length kV_require_length dc_require_length pm_require_length ct_require_length cd_require_length : Value} {f_Setting__deeds : Addr} {od_Setting__deeds an_Setting__deeds : Option Addr} {sl_Setting__deeds : Array (Option Value)} {oc_Setting__deeds kV_Setting__deeds dc_Setting__deeds pm_Setting__deeds ct_Setting__deeds cd_Setting__deeds : Value} {pr_Setting__deeds : Addr} {rst_Setting__deeds : List Value} {f_Setting__has_deed : Addr} {od_Setting__has_deed an_Setting__has_deed : Option Addr} {sl_Setting__has_deed : Array (Option Value)} {oc_Setting__has_deed kV_Setting__has_deed dc_Setting__has_deed pm_Setting__has_deed ct_Setting__has_deed cd_Setting__has_deed : Value} {f_is_range : Addr} {od_is_range an_is_range : Option Addr} {sl_is_range : Array (Option Value)} {oc_is_range kV_is_range dc_is_range pm_is_range ct_is_range cd_is_range : Value} {f_is_step : Addr} {od_is_step an_is_step : Option Addr} {sl_is_step : Array (Option Value)} {oc_is_step kV_is_step dc_is_step pm_is_step ct_is_step cd_is_step : Value} {f_require_plan : Addr} {od_require_plan an_require_plan : Option Addr} {sl_require_plan : Array (Option Value)} {oc_require_plan kV_require_plan dc_require_plan pm_require_plan ct_require_plan cd_require_plan : Value} {f_entry_after : Addr} {od_entry_after an_entry_after : Option Addr} {sl_entry_after : Array (Option Value)} {oc_entry_after kV_entry_after dc_entry_after pm_entry_after ct_entry_after cd_entry_after : Value} {f_plain_form : Addr} {od_plain_form an_plain_form : Option Addr} {sl_plain_form : Array (Option Value)} {oc_plain_form kV_plain_form dc_plain_form pm_plain_form ct_plain_form cd_plain_form : Value} {f_form_of : Addr} {od_form_of an_form_of : Option Addr} {sl_form_of : Array (Option Value)} {oc_form_of kV_form_of dc_form_of pm_form_of ct_form_of cd_form_of : Value} {f_swaps : Addr} {od_swaps an_swaps : Option Addr} {sl_swaps : Array (Option Value)} {oc_swaps kV_swaps dc_swaps pm_swaps ct_swaps cd_swaps : Value} {f_idle : Addr} {od_idle an_idle : Option Addr} {sl_idle : Array (Option Value)} {oc_idle kV_idle dc_idle pm_idle ct_idle cd_idle : Value} {f__law_right : Addr} {od__law_right an__law_right : Option Addr} {sl__law_right : Array (Option Value)} {oc__law_right kV__law_right dc__law_right pm__law_right ct__law_right cd__law_right : Value} {f_law : Addr} {od_law an_law : Option Addr} {sl_law : Array (Option Value)} {oc_law kV_law dc_law pm_law ct_law cd_law : Value} {t_LETTERS : Tok} {t_MOST_ANSWER : Tok} {t_MOST_LENGTH : Tok} {t_MOST_LETTERS : Tok} {t_MOST_VALUES : Tok} {t_TURN : Tok} (X : K.In h) (G : h.Ns mainGlobals mg) (N : Names q K mg h) (hfa : mg "law" = some (.ref fa))
    (aC_Setting : PySem.W.nsIn K mainGlobals "Setting" = some (some (.ref C_Setting)))
    (pg_Setting : PySem.W.plainGet K C_Setting Str.empty = true)
    (hd_Setting : PySem.W.hasDictIn K C_Setting = true)
    (po_Setting : PySem.W.plainOver K C_Setting = true)
    (sa_Setting : PySem.W.findIn K (.ref C_Setting) "__setattr__" = some (some (.builtin "object.__setattr__")))
    (na_Setting_size : PySem.W.findIn K (.ref C_Setting) "size" = some none)
    (na_Setting_own_maps : PySem.W.findIn K (.ref C_Setting) "own_maps" = some none)
    (na_Setting_own_asks : PySem.W.findIn K (.ref C_Setting) "own_asks" = some none)
    (na_Setting_turning : PySem.W.findIn K (.ref C_Setting) "turning" = some none)
    (ia_Setting : PySem.W.findIn K (.ref C_Setting) "__class__" = some (some (.builtin "object.__class__")))
    (ib_Setting : PySem.W.specialIn K (.builtin "object.__class__") "__get__" = some (some (.builtin "getset_descriptor.__get__")))
    (ic_Setting : PySem.W.takesIn K (.builtin "object.__class__") = some true)
    (id_Setting : PySem.W.mroIn K C_Setting (.type "object") = some true)
    (kit_Setting_self : PySem.W.kitOne K (.ref C_Setting) (.ref C_Setting) = some true)
    (kit_Setting_NoneType : PySem.W.kitOne K (.type "NoneType") (.ref C_Setting) = some false)
    (kit_Setting_bool : PySem.W.kitOne K (.type "bool") (.ref C_Setting) = some false)
    (kit_Setting_int : PySem.W.kitOne K (.type "int") (.ref C_Setting) = some false)
    (kit_Setting_str : PySem.W.kitOne K (.type "str") (.ref C_Setting) = some false)
    (kit_Setting_tuple : PySem.W.kitOne K (.type "tuple") (.ref C_Setting) = some false)
    (kit_Setting_list : PySem.W.kitOne K (.type "list") (.ref C_Setting) = some false)
    (kit_Setting_dict : PySem.W.kitOne K (.type "dict") (.ref C_Setting) = some false)
    (a__law_at : PySem.W.nsIn K mainGlobals "_law_at" = some (some (.ref f__law_at)))
    (l__law_at : K.lookup f__law_at = some ⟨oc__law_at, od__law_at, .func (PySem.W.fnOf "_law_at" "_law_at" (defArgs s__law_at) (defBody s__law_at) (defScope s__law_at) .none kV__law_at dc__law_at pm__law_at an__law_at cd__law_at ct__law_at), sl__law_at⟩)
    (c__law_at : PySem.W.codeIn K cd__law_at "_law_at" = true)
    (k__law_at : PySem.W.keepIn K (.ref f__law_at) = true)
    (a__law_purse : PySem.W.nsIn K mainGlobals "_law_purse" = some (some (.ref f__law_purse)))
    (l__law_purse : K.lookup f__law_purse = some ⟨oc__law_purse, od__law_purse, .func (PySem.W.fnOf "_law_purse" "_law_purse" (defArgs s__law_purse) (defBody s__law_purse) (defScope s__law_purse) .none kV__law_purse dc__law_purse pm__law_purse an__law_purse cd__law_purse ct__law_purse), sl__law_purse⟩)
    (c__law_purse : PySem.W.codeIn K cd__law_purse "_law_purse" = true)
    (k__law_purse : PySem.W.keepIn K (.ref f__law_purse) = true)
    (a__law_mixed : PySem.W.nsIn K mainGlobals "_law_mixed" = some (some (.ref f__law_mixed)))
    (l__law_mixed : K.lookup f__law_mixed = some ⟨oc__law_mixed, od__law_mixed, .func (PySem.W.fnOf "_law_mixed" "_law_mixed" (defArgs s__law_mixed) (defBody s__law_mixed) (defScope s__law_mixed) .none kV__law_mixed dc__law_mixed pm__law_mixed an__law_mixed cd__law_mixed ct__law_mixed), sl__law_mixed⟩)
    (c__law_mixed : PySem.W.codeIn K cd__law_mixed "_law_mixed" = true)
    (k__law_mixed : PySem.W.keepIn K (.ref f__law_mixed) = true)
    (a__law_draw : PySem.W.nsIn K mainGlobals "_law_draw" = some (some (.ref f__law_draw)))
    (l__law_draw : K.lookup f__law_draw = some ⟨oc__law_draw, od__law_draw, .func (PySem.W.fnOf "_law_draw" "_law_draw" (defArgs s__law_draw) (defBody s__law_draw) (defScope s__law_draw) .none kV__law_draw dc__law_draw pm__law_draw an__law_draw cd__law_draw ct__law_draw), sl__law_draw⟩)
    (c__law_draw : PySem.W.codeIn K cd__law_draw "_law_draw" = true)
    (k__law_draw : PySem.W.keepIn K (.ref f__law_draw) = true)
    (a__law_machine : PySem.W.nsIn K mainGlobals "_law_machine" = some (some (.ref f__law_machine)))
    (l__law_machine : K.lookup f__law_machine = some ⟨oc__law_machine, od__law_machine, .func (PySem.W.fnOf "_law_machine" "_law_machine" (defArgs s__law_machine) (defBody s__law_machine) (defScope s__law_machine) .none kV__law_machine dc__law_machine pm__law_machine an__law_machine cd__law_machine ct__law_machine), sl__law_machine⟩)
    (c__law_machine : PySem.W.codeIn K cd__law_machine "_law_machine" = true)
    (k__law_machine : PySem.W.keepIn K (.ref f__law_machine) = true)
    (a__law_own : PySem.W.nsIn K mainGlobals "_law_own" = some (some (.ref f__law_own)))
    (l__law_own : K.lookup f__law_own = some ⟨oc__law_own, od__law_own, .func (PySem.W.fnOf "_law_own" "_law_own" (defArgs s__law_own) (defBody s__law_own) (defScope s__law_own) .none kV__law_own dc__law_own pm__law_own an__law_own cd__law_own ct__law_own), sl__law_own⟩)
    (c__law_own : PySem.W.codeIn K cd__law_own "_law_own" = true)
    (k__law_own : PySem.W.keepIn K (.ref f__law_own) = true)
    (a_is_integer : PySem.W.nsIn K mainGlobals "is_integer" = some (some (.ref f_is_integer)))
    (l_is_integer : K.lookup f_is_integer = some ⟨oc_is_integer, od_is_integer, .func (PySem.W.fnOf "is_integer" "is_integer" (defArgs s_is_integer) (defBody s_is_integer) (defScope s_is_integer) .none kV_is_integer dc_is_integer pm_is_integer an_is_integer cd_is_integer ct_is_integer), sl_is_integer⟩)
    (c_is_integer : PySem.W.codeIn K cd_is_integer "is_integer" = true)
    (k_is_integer : PySem.W.keepIn K (.ref f_is_integer) = true)
    (a_require_size : PySem.W.nsIn K mainGlobals "require_size" = some (some (.ref f_require_size)))
    (l_require_size : K.lookup f_require_size = some ⟨oc_require_size, od_require_size, .func (PySem.W.fnOf "require_size" "require_size" (defArgs s_require_size) (defBody s_require_size) (defScope s_require_size) .none kV_require_size dc_require_size pm_require_size an_require_size cd_require_size ct_require_size), sl_require_size⟩)
    (c_require_size : PySem.W.codeIn K cd_require_size "require_size" = true)
    (k_require_size : PySem.W.keepIn K (.ref f_require_size) = true)
    (a_is_name : PySem.W.nsIn K mainGlobals "is_name" = some (some (.ref f_is_name)))
    (l_is_name : K.lookup f_is_name = some ⟨oc_is_name, od_is_name, .func (PySem.W.fnOf "is_name" "is_name" (defArgs s_is_name) (defBody s_is_name) (defScope s_is_name) .none kV_is_name dc_is_name pm_is_name an_is_name cd_is_name ct_is_name), sl_is_name⟩)
    (c_is_name : PySem.W.codeIn K cd_is_name "is_name" = true)
    (k_is_name : PySem.W.keepIn K (.ref f_is_name) = true)
    (a_is_row : PySem.W.nsIn K mainGlobals "is_row" = some (some (.ref f_is_row)))
    (l_is_row : K.lookup f_is_row = some ⟨oc_is_row, od_is_row, .func (PySem.W.fnOf "is_row" "is_row" (defArgs s_is_row) (defBody s_is_row) (defScope s_is_row) .none kV_is_row dc_is_row pm_is_row an_is_row cd_is_row ct_is_row), sl_is_row⟩)
    (c_is_row : PySem.W.codeIn K cd_is_row "is_row" = true)
    (k_is_row : PySem.W.keepIn K (.ref f_is_row) = true)
    (a_is_map : PySem.W.nsIn K mainGlobals "is_map" = some (some (.ref f_is_map)))
    (l_is_map : K.lookup f_is_map = some ⟨oc_is_map, od_is_map, .func (PySem.W.fnOf "is_map" "is_map" (defArgs s_is_map) (defBody s_is_map) (defScope s_is_map) .none kV_is_map dc_is_map pm_is_map an_is_map cd_is_map ct_is_map), sl_is_map⟩)
    (c_is_map : PySem.W.codeIn K cd_is_map "is_map" = true)
    (k_is_map : PySem.W.keepIn K (.ref f_is_map) = true)
    (a_taken_maps : PySem.W.nsIn K mainGlobals "taken_maps" = some (some (.ref f_taken_maps)))
    (l_taken_maps : K.lookup f_taken_maps = some ⟨oc_taken_maps, od_taken_maps, .func (PySem.W.fnOf "taken_maps" "taken_maps" (defArgs s_taken_maps) (defBody s_taken_maps) (defScope s_taken_maps) .none kV_taken_maps dc_taken_maps pm_taken_maps an_taken_maps cd_taken_maps ct_taken_maps), sl_taken_maps⟩)
    (c_taken_maps : PySem.W.codeIn K cd_taken_maps "taken_maps" = true)
    (k_taken_maps : PySem.W.keepIn K (.ref f_taken_maps) = true)
    (a_fault_of : PySem.W.nsIn K mainGlobals "fault_of" = some (some (.ref f_fault_of)))
    (l_fault_of : K.lookup f_fault_of = some ⟨oc_fault_of, od_fault_of, .func (PySem.W.fnOf "fault_of" "fault_of" (defArgs s_fault_of) (defBody s_fault_of) (defScope s_fault_of) .none kV_fault_of dc_fault_of pm_fault_of an_fault_of cd_fault_of ct_fault_of), sl_fault_of⟩)
    (c_fault_of : PySem.W.codeIn K cd_fault_of "fault_of" = true)
    (k_fault_of : PySem.W.keepIn K (.ref f_fault_of) = true)
    (a_taken_asks : PySem.W.nsIn K mainGlobals "taken_asks" = some (some (.ref f_taken_asks)))
    (l_taken_asks : K.lookup f_taken_asks = some ⟨oc_taken_asks, od_taken_asks, .func (PySem.W.fnOf "taken_asks" "taken_asks" (defArgs s_taken_asks) (defBody s_taken_asks) (defScope s_taken_asks) .none kV_taken_asks dc_taken_asks pm_taken_asks an_taken_asks cd_taken_asks ct_taken_asks), sl_taken_asks⟩)
    (c_taken_asks : PySem.W.codeIn K cd_taken_asks "taken_asks" = true)
    (k_taken_asks : PySem.W.keepIn K (.ref f_taken_asks) = true)
    (a_Setting__init : PySem.W.findIn K (.ref C_Setting) "__init__" = some (some (.ref f_Setting__init)))
    (i_Setting__init : PySem.W.isFn K (.ref f_Setting__init) = true)
    (mk_Setting__init : PySem.W.makesIn K C_Setting = true)
    (kc_Setting__init : PySem.W.keepIn K (.ref C_Setting) = true)
    (l_Setting__init : K.lookup f_Setting__init = some ⟨oc_Setting__init, od_Setting__init, .func (PySem.W.fnOf "__init__" "Setting.__init__" (defArgs s_Setting__init) (defBody s_Setting__init) (defScope s_Setting__init) (.ref TT_Setting__init) kV_Setting__init dc_Setting__init pm_Setting__init an_Setting__init cd_Setting__init ct_Setting__init), sl_Setting__init⟩)
    (lt_Setting__init : K.lookup TT_Setting__init = some ⟨te_Setting__init, td_Setting__init, .seq its_Setting__init tn_Setting__init, ts_Setting__init⟩)
    (lv_Setting__init : Vals [V.non, V.non, V.bl false] its_Setting__init.toList)
    (c_Setting__init : PySem.W.codeIn K cd_Setting__init "Setting.__init__" = true)
    (k_Setting__init : PySem.W.keepIn K (.ref f_Setting__init) = true)
    (a__law_setting : PySem.W.nsIn K mainGlobals "_law_setting" = some (some (.ref f__law_setting)))
    (l__law_setting : K.lookup f__law_setting = some ⟨oc__law_setting, od__law_setting, .func (PySem.W.fnOf "_law_setting" "_law_setting" (defArgs s__law_setting) (defBody s__law_setting) (defScope s__law_setting) .none kV__law_setting dc__law_setting pm__law_setting an__law_setting cd__law_setting ct__law_setting), sl__law_setting⟩)
    (c__law_setting : PySem.W.codeIn K cd__law_setting "_law_setting" = true)
    (k__law_setting : PySem.W.keepIn K (.ref f__law_setting) = true)
    (a__law_deeds : PySem.W.nsIn K mainGlobals "_law_deeds" = some (some (.ref f__law_deeds)))
    (l__law_deeds : K.lookup f__law_deeds = some ⟨oc__law_deeds, od__law_deeds, .func (PySem.W.fnOf "_law_deeds" "_law_deeds" (defArgs s__law_deeds) (defBody s__law_deeds) (defScope s__law_deeds) .none kV__law_deeds dc__law_deeds pm__law_deeds an__law_deeds cd__law_deeds ct__law_deeds), sl__law_deeds⟩)
    (c__law_deeds : PySem.W.codeIn K cd__law_deeds "_law_deeds" = true)
    (k__law_deeds : PySem.W.keepIn K (.ref f__law_deeds) = true)
    (a__law_plan : PySem.W.nsIn K mainGlobals "_law_plan" = some (some (.ref f__law_plan)))
    (l__law_plan : K.lookup f__law_plan = some ⟨oc__law_plan, od__law_plan, .func (PySem.W.fnOf "_law_plan" "_law_plan" (defArgs s__law_plan) (defBody s__law_plan) (defScope s__law_plan) .none kV__law_plan dc__law_plan pm__law_plan an__law_plan cd__law_plan ct__law_plan), sl__law_plan⟩)
    (c__law_plan : PySem.W.codeIn K cd__law_plan "_law_plan" = true)
    (k__law_plan : PySem.W.keepIn K (.ref f__law_plan) = true)
    (a__law_form : PySem.W.nsIn K mainGlobals "_law_form" = some (some (.ref f__law_form)))
    (l__law_form : K.lookup f__law_form = some ⟨oc__law_form, od__law_form, .func (PySem.W.fnOf "_law_form" "_law_form" (defArgs s__law_form) (defBody s__law_form) (defScope s__law_form) .none kV__law_form dc__law_form pm__law_form an__law_form cd__law_form ct__law_form), sl__law_form⟩)
    (c__law_form : PySem.W.codeIn K cd__law_form "_law_form" = true)
    (k__law_form : PySem.W.keepIn K (.ref f__law_form) = true)
    (a_require_setting : PySem.W.nsIn K mainGlobals "require_setting" = some (some (.ref f_require_setting)))
    (l_require_setting : K.lookup f_require_setting = some ⟨oc_require_setting, od_require_setting, .func (PySem.W.fnOf "require_setting" "require_setting" (defArgs s_require_setting) (defBody s_require_setting) (defScope s_require_setting) .none kV_require_setting dc_require_setting pm_require_setting an_require_setting cd_require_setting ct_require_setting), sl_require_setting⟩)
    (c_require_setting : PySem.W.codeIn K cd_require_setting "require_setting" = true)
    (k_require_setting : PySem.W.keepIn K (.ref f_require_setting) = true)
    (a_require_length : PySem.W.nsIn K mainGlobals "require_length" = some (some (.ref f_require_length)))
    (l_require_length : K.lookup f_require_length = some ⟨oc_require_length, od_require_length, .func (PySem.W.fnOf "require_length" "require_length" (defArgs s_require_length) (defBody s_require_length) (defScope s_require_length) .none kV_require_length dc_require_length pm_require_length an_require_length cd_require_length ct_require_length), sl_require_length⟩)
    (c_require_length : PySem.W.codeIn K cd_require_length "require_length" = true)
    (k_require_length : PySem.W.keepIn K (.ref f_require_length) = true)
    (a_Setting__deeds : PySem.W.findIn K (.ref C_Setting) "deeds" = some (some (.ref pr_Setting__deeds)))
    (r1_Setting__deeds : PySem.W.specialIn K (.ref pr_Setting__deeds) "__get__" = some (some (.builtin "property.__get__")))
    (r2_Setting__deeds : PySem.W.takesIn K (.ref pr_Setting__deeds) = some true)
    (r3_Setting__deeds : PySem.W.recIn K pr_Setting__deeds "property" = some (.ref f_Setting__deeds :: rst_Setting__deeds))
    (l_Setting__deeds : K.lookup f_Setting__deeds = some ⟨oc_Setting__deeds, od_Setting__deeds, .func (PySem.W.fnOf "deeds" "Setting.deeds" (defArgs s_Setting__deeds) (defBody s_Setting__deeds) (defScope s_Setting__deeds) .none kV_Setting__deeds dc_Setting__deeds pm_Setting__deeds an_Setting__deeds cd_Setting__deeds ct_Setting__deeds), sl_Setting__deeds⟩)
    (c_Setting__deeds : PySem.W.codeIn K cd_Setting__deeds "Setting.deeds" = true)
    (k_Setting__deeds : PySem.W.keepIn K (.ref f_Setting__deeds) = true)
    (a_Setting__has_deed : PySem.W.findIn K (.ref C_Setting) "has_deed" = some (some (.ref f_Setting__has_deed)))
    (i_Setting__has_deed : PySem.W.isFn K (.ref f_Setting__has_deed) = true)
    (l_Setting__has_deed : K.lookup f_Setting__has_deed = some ⟨oc_Setting__has_deed, od_Setting__has_deed, .func (PySem.W.fnOf "has_deed" "Setting.has_deed" (defArgs s_Setting__has_deed) (defBody s_Setting__has_deed) (defScope s_Setting__has_deed) .none kV_Setting__has_deed dc_Setting__has_deed pm_Setting__has_deed an_Setting__has_deed cd_Setting__has_deed ct_Setting__has_deed), sl_Setting__has_deed⟩)
    (c_Setting__has_deed : PySem.W.codeIn K cd_Setting__has_deed "Setting.has_deed" = true)
    (k_Setting__has_deed : PySem.W.keepIn K (.ref f_Setting__has_deed) = true)
    (a_is_range : PySem.W.nsIn K mainGlobals "is_range" = some (some (.ref f_is_range)))
    (l_is_range : K.lookup f_is_range = some ⟨oc_is_range, od_is_range, .func (PySem.W.fnOf "is_range" "is_range" (defArgs s_is_range) (defBody s_is_range) (defScope s_is_range) .none kV_is_range dc_is_range pm_is_range an_is_range cd_is_range ct_is_range), sl_is_range⟩)
    (c_is_range : PySem.W.codeIn K cd_is_range "is_range" = true)
    (k_is_range : PySem.W.keepIn K (.ref f_is_range) = true)
    (a_is_step : PySem.W.nsIn K mainGlobals "is_step" = some (some (.ref f_is_step)))
    (l_is_step : K.lookup f_is_step = some ⟨oc_is_step, od_is_step, .func (PySem.W.fnOf "is_step" "is_step" (defArgs s_is_step) (defBody s_is_step) (defScope s_is_step) .none kV_is_step dc_is_step pm_is_step an_is_step cd_is_step ct_is_step), sl_is_step⟩)
    (c_is_step : PySem.W.codeIn K cd_is_step "is_step" = true)
    (k_is_step : PySem.W.keepIn K (.ref f_is_step) = true)
    (a_require_plan : PySem.W.nsIn K mainGlobals "require_plan" = some (some (.ref f_require_plan)))
    (l_require_plan : K.lookup f_require_plan = some ⟨oc_require_plan, od_require_plan, .func (PySem.W.fnOf "require_plan" "require_plan" (defArgs s_require_plan) (defBody s_require_plan) (defScope s_require_plan) .none kV_require_plan dc_require_plan pm_require_plan an_require_plan cd_require_plan ct_require_plan), sl_require_plan⟩)
    (c_require_plan : PySem.W.codeIn K cd_require_plan "require_plan" = true)
    (k_require_plan : PySem.W.keepIn K (.ref f_require_plan) = true)
    (a_entry_after : PySem.W.nsIn K mainGlobals "entry_after" = some (some (.ref f_entry_after)))
    (l_entry_after : K.lookup f_entry_after = some ⟨oc_entry_after, od_entry_after, .func (PySem.W.fnOf "entry_after" "entry_after" (defArgs s_entry_after) (defBody s_entry_after) (defScope s_entry_after) .none kV_entry_after dc_entry_after pm_entry_after an_entry_after cd_entry_after ct_entry_after), sl_entry_after⟩)
    (c_entry_after : PySem.W.codeIn K cd_entry_after "entry_after" = true)
    (k_entry_after : PySem.W.keepIn K (.ref f_entry_after) = true)
    (a_plain_form : PySem.W.nsIn K mainGlobals "plain_form" = some (some (.ref f_plain_form)))
    (l_plain_form : K.lookup f_plain_form = some ⟨oc_plain_form, od_plain_form, .func (PySem.W.fnOf "plain_form" "plain_form" (defArgs s_plain_form) (defBody s_plain_form) (defScope s_plain_form) .none kV_plain_form dc_plain_form pm_plain_form an_plain_form cd_plain_form ct_plain_form), sl_plain_form⟩)
    (c_plain_form : PySem.W.codeIn K cd_plain_form "plain_form" = true)
    (k_plain_form : PySem.W.keepIn K (.ref f_plain_form) = true)
    (a_form_of : PySem.W.nsIn K mainGlobals "form_of" = some (some (.ref f_form_of)))
    (l_form_of : K.lookup f_form_of = some ⟨oc_form_of, od_form_of, .func (PySem.W.fnOf "form_of" "form_of" (defArgs s_form_of) (defBody s_form_of) (defScope s_form_of) .none kV_form_of dc_form_of pm_form_of an_form_of cd_form_of ct_form_of), sl_form_of⟩)
    (c_form_of : PySem.W.codeIn K cd_form_of "form_of" = true)
    (k_form_of : PySem.W.keepIn K (.ref f_form_of) = true)
    (a_swaps : PySem.W.nsIn K mainGlobals "swaps" = some (some (.ref f_swaps)))
    (l_swaps : K.lookup f_swaps = some ⟨oc_swaps, od_swaps, .func (PySem.W.fnOf "swaps" "swaps" (defArgs s_swaps) (defBody s_swaps) (defScope s_swaps) .none kV_swaps dc_swaps pm_swaps an_swaps cd_swaps ct_swaps), sl_swaps⟩)
    (c_swaps : PySem.W.codeIn K cd_swaps "swaps" = true)
    (k_swaps : PySem.W.keepIn K (.ref f_swaps) = true)
    (a_idle : PySem.W.nsIn K mainGlobals "idle" = some (some (.ref f_idle)))
    (l_idle : K.lookup f_idle = some ⟨oc_idle, od_idle, .func (PySem.W.fnOf "idle" "idle" (defArgs s_idle) (defBody s_idle) (defScope s_idle) .none kV_idle dc_idle pm_idle an_idle cd_idle ct_idle), sl_idle⟩)
    (c_idle : PySem.W.codeIn K cd_idle "idle" = true)
    (k_idle : PySem.W.keepIn K (.ref f_idle) = true)
    (a__law_right : PySem.W.nsIn K mainGlobals "_law_right" = some (some (.ref f__law_right)))
    (l__law_right : K.lookup f__law_right = some ⟨oc__law_right, od__law_right, .func (PySem.W.fnOf "_law_right" "_law_right" (defArgs s__law_right) (defBody s__law_right) (defScope s__law_right) .none kV__law_right dc__law_right pm__law_right an__law_right cd__law_right ct__law_right), sl__law_right⟩)
    (c__law_right : PySem.W.codeIn K cd__law_right "_law_right" = true)
    (k__law_right : PySem.W.keepIn K (.ref f__law_right) = true)
    (a_law : PySem.W.nsIn K mainGlobals "law" = some (some (.ref f_law)))
    (l_law : K.lookup f_law = some ⟨oc_law, od_law, .func (PySem.W.fnOf "law" "law" (defArgs s_law) (defBody s_law) (defScope s_law) .none kV_law dc_law pm_law an_law cd_law ct_law), sl_law⟩)
    (c_law : PySem.W.codeIn K cd_law "law" = true)
    (k_law : PySem.W.keepIn K (.ref f_law) = true)
    (z_all : PySem.W.nsIn K mainGlobals "all" = some none)
    (z_bool : PySem.W.nsIn K mainGlobals "bool" = some none)
    (z_dict : PySem.W.nsIn K mainGlobals "dict" = some none)
    (z_enumerate : PySem.W.nsIn K mainGlobals "enumerate" = some none)
    (z_int : PySem.W.nsIn K mainGlobals "int" = some none)
    (z_isinstance : PySem.W.nsIn K mainGlobals "isinstance" = some none)
    (z_len : PySem.W.nsIn K mainGlobals "len" = some none)
    (z_list : PySem.W.nsIn K mainGlobals "list" = some none)
    (z_max : PySem.W.nsIn K mainGlobals "max" = some none)
    (z_min : PySem.W.nsIn K mainGlobals "min" = some none)
    (z_range : PySem.W.nsIn K mainGlobals "range" = some none)
    (z_set : PySem.W.nsIn K mainGlobals "set" = some none)
    (z_sorted : PySem.W.nsIn K mainGlobals "sorted" = some none)
    (z_str : PySem.W.nsIn K mainGlobals "str" = some none)
    (z_tuple : PySem.W.nsIn K mainGlobals "tuple" = some none)
    (y_LETTERS : PySem.W.nsIn K mainGlobals "LETTERS" = some (some (.str "abcdefghijklmnopqrstuvwxyz" t_LETTERS)))
    (y_MOST_ANSWER : PySem.W.nsIn K mainGlobals "MOST_ANSWER" = some (some (.int 99 t_MOST_ANSWER)))
    (y_MOST_LENGTH : PySem.W.nsIn K mainGlobals "MOST_LENGTH" = some (some (.int 60 t_MOST_LENGTH)))
    (y_MOST_LETTERS : PySem.W.nsIn K mainGlobals "MOST_LETTERS" = some (some (.int 8 t_MOST_LETTERS)))
    (y_MOST_VALUES : PySem.W.nsIn K mainGlobals "MOST_VALUES" = some (some (.int 4 t_MOST_VALUES)))
    (y_TURN : PySem.W.nsIn K mainGlobals "TURN" = some (some (.str "turn" t_TURN)))
    : LawM l w K 9 "_law_script" mg fa h m_law := by
  cases hfa.symm.trans (PySem.W.mg_of X G a_law)
  have A_Setting : ClsAt K mg "Setting" C_Setting := ⟨PySem.W.mg_of X G aC_Setting, ⟨pg_Setting, hd_Setting, po_Setting, sa_Setting⟩⟩
  have CC_Setting : Ci_Setting K mg C_Setting := ⟨A_Setting, na_Setting_size, na_Setting_own_maps, na_Setting_own_asks, na_Setting_turning, ⟨A_Setting, ia_Setting, ib_Setting, ic_Setting, id_Setting, kit_Setting_self, kit_Setting_NoneType, kit_Setting_bool, kit_Setting_int, kit_Setting_str, kit_Setting_tuple, kit_Setting_list, kit_Setting_dict⟩⟩
  have D__law_at : DefAt K mg "_law_at" s__law_at _ _ := ⟨fun_mk l__law_at c__law_at k__law_at, PySem.W.mg_of X G a__law_at⟩
  have D__law_purse : DefAt K mg "_law_purse" s__law_purse _ _ := ⟨fun_mk l__law_purse c__law_purse k__law_purse, PySem.W.mg_of X G a__law_purse⟩
  have D__law_mixed : DefAt K mg "_law_mixed" s__law_mixed _ _ := ⟨fun_mk l__law_mixed c__law_mixed k__law_mixed, PySem.W.mg_of X G a__law_mixed⟩
  have D__law_draw : DefAt K mg "_law_draw" s__law_draw _ _ := ⟨fun_mk l__law_draw c__law_draw k__law_draw, PySem.W.mg_of X G a__law_draw⟩
  have D__law_machine : DefAt K mg "_law_machine" s__law_machine _ _ := ⟨fun_mk l__law_machine c__law_machine k__law_machine, PySem.W.mg_of X G a__law_machine⟩
  have D__law_own : DefAt K mg "_law_own" s__law_own _ _ := ⟨fun_mk l__law_own c__law_own k__law_own, PySem.W.mg_of X G a__law_own⟩
  have D_is_integer : DefAt K mg "is_integer" s_is_integer _ _ := ⟨fun_mk l_is_integer c_is_integer k_is_integer, PySem.W.mg_of X G a_is_integer⟩
  have D_require_size : DefAt K mg "require_size" s_require_size _ _ := ⟨fun_mk l_require_size c_require_size k_require_size, PySem.W.mg_of X G a_require_size⟩
  have D_is_name : DefAt K mg "is_name" s_is_name _ _ := ⟨fun_mk l_is_name c_is_name k_is_name, PySem.W.mg_of X G a_is_name⟩
  have D_is_row : DefAt K mg "is_row" s_is_row _ _ := ⟨fun_mk l_is_row c_is_row k_is_row, PySem.W.mg_of X G a_is_row⟩
  have D_is_map : DefAt K mg "is_map" s_is_map _ _ := ⟨fun_mk l_is_map c_is_map k_is_map, PySem.W.mg_of X G a_is_map⟩
  have D_taken_maps : DefAt K mg "taken_maps" s_taken_maps _ _ := ⟨fun_mk l_taken_maps c_taken_maps k_taken_maps, PySem.W.mg_of X G a_taken_maps⟩
  have D_fault_of : DefAt K mg "fault_of" s_fault_of _ _ := ⟨fun_mk l_fault_of c_fault_of k_fault_of, PySem.W.mg_of X G a_fault_of⟩
  have D_taken_asks : DefAt K mg "taken_asks" s_taken_asks _ _ := ⟨fun_mk l_taken_asks c_taken_asks k_taken_asks, PySem.W.mg_of X G a_taken_asks⟩
  have D_Setting__init : DefID K C_Setting "Setting.__init__" s_Setting__init [V.non, V.non, V.bl false] _ _ := ⟨fnD_mk l_Setting__init c_Setting__init k_Setting__init lt_Setting__init lv_Setting__init, ⟨mk_Setting__init, a_Setting__init, i_Setting__init, kc_Setting__init⟩⟩
  have D__law_setting : DefAt K mg "_law_setting" s__law_setting _ _ := ⟨fun_mk l__law_setting c__law_setting k__law_setting, PySem.W.mg_of X G a__law_setting⟩
  have D__law_deeds : DefAt K mg "_law_deeds" s__law_deeds _ _ := ⟨fun_mk l__law_deeds c__law_deeds k__law_deeds, PySem.W.mg_of X G a__law_deeds⟩
  have D__law_plan : DefAt K mg "_law_plan" s__law_plan _ _ := ⟨fun_mk l__law_plan c__law_plan k__law_plan, PySem.W.mg_of X G a__law_plan⟩
  have D__law_form : DefAt K mg "_law_form" s__law_form _ _ := ⟨fun_mk l__law_form c__law_form k__law_form, PySem.W.mg_of X G a__law_form⟩
  have D_require_setting : DefAt K mg "require_setting" s_require_setting _ _ := ⟨fun_mk l_require_setting c_require_setting k_require_setting, PySem.W.mg_of X G a_require_setting⟩
  have D_require_length : DefAt K mg "require_length" s_require_length _ _ := ⟨fun_mk l_require_length c_require_length k_require_length, PySem.W.mg_of X G a_require_length⟩
  have D_Setting__deeds : DefP K C_Setting "deeds" "Setting.deeds" s_Setting__deeds _ _ := ⟨fun_mk l_Setting__deeds c_Setting__deeds k_Setting__deeds, ⟨pr_Setting__deeds, a_Setting__deeds, r1_Setting__deeds, r2_Setting__deeds, ⟨_, r3_Setting__deeds⟩⟩⟩
  have D_Setting__has_deed : DefM K C_Setting "has_deed" "Setting.has_deed" s_Setting__has_deed _ _ := ⟨fun_mk l_Setting__has_deed c_Setting__has_deed k_Setting__has_deed, ⟨a_Setting__has_deed, i_Setting__has_deed, k_Setting__has_deed⟩⟩
  have D_is_range : DefAt K mg "is_range" s_is_range _ _ := ⟨fun_mk l_is_range c_is_range k_is_range, PySem.W.mg_of X G a_is_range⟩
  have D_is_step : DefAt K mg "is_step" s_is_step _ _ := ⟨fun_mk l_is_step c_is_step k_is_step, PySem.W.mg_of X G a_is_step⟩
  have D_require_plan : DefAt K mg "require_plan" s_require_plan _ _ := ⟨fun_mk l_require_plan c_require_plan k_require_plan, PySem.W.mg_of X G a_require_plan⟩
  have D_entry_after : DefAt K mg "entry_after" s_entry_after _ _ := ⟨fun_mk l_entry_after c_entry_after k_entry_after, PySem.W.mg_of X G a_entry_after⟩
  have D_plain_form : DefAt K mg "plain_form" s_plain_form _ _ := ⟨fun_mk l_plain_form c_plain_form k_plain_form, PySem.W.mg_of X G a_plain_form⟩
  have D_form_of : DefAt K mg "form_of" s_form_of _ _ := ⟨fun_mk l_form_of c_form_of k_form_of, PySem.W.mg_of X G a_form_of⟩
  have D_swaps : DefAt K mg "swaps" s_swaps _ _ := ⟨fun_mk l_swaps c_swaps k_swaps, PySem.W.mg_of X G a_swaps⟩
  have D_idle : DefAt K mg "idle" s_idle _ _ := ⟨fun_mk l_idle c_idle k_idle, PySem.W.mg_of X G a_idle⟩
  have D__law_right : DefAt K mg "_law_right" s__law_right _ _ := ⟨fun_mk l__law_right c__law_right k__law_right, PySem.W.mg_of X G a__law_right⟩
  have D_law : DefAt K mg "law" s_law _ _ := ⟨fun_mk l_law c_law k_law, PySem.W.mg_of X G a_law⟩
  refine ⟨PySem.W.fnOf "law" "law" (defArgs s_law) (defBody s_law) (defScope s_law) .none kV_law dc_law pm_law an_law cd_law ct_law, [], (fun _ z => (List.not_mem_nil z).elim), fun s v => .of_eq rfl, fun base KB GB TB => ?_⟩
  have B : Bi mg := ⟨PySem.W.mg_none_of X G z_all, PySem.W.mg_none_of X G z_bool, PySem.W.mg_none_of X G z_dict, PySem.W.mg_none_of X G z_enumerate, PySem.W.mg_none_of X G z_int, PySem.W.mg_none_of X G z_isinstance, PySem.W.mg_none_of X G z_len, PySem.W.mg_none_of X G z_list, PySem.W.mg_none_of X G z_max, PySem.W.mg_none_of X G z_min, PySem.W.mg_none_of X G z_range, PySem.W.mg_none_of X G z_set, PySem.W.mg_none_of X G z_sorted, PySem.W.mg_none_of X G z_str, PySem.W.mg_none_of X G z_tuple, ⟨_, PySem.W.mg_of X G y_LETTERS⟩, ⟨_, PySem.W.mg_of X G y_MOST_ANSWER⟩, ⟨_, PySem.W.mg_of X G y_MOST_LENGTH⟩, ⟨_, PySem.W.mg_of X G y_MOST_LETTERS⟩, ⟨_, PySem.W.mg_of X G y_MOST_VALUES⟩, ⟨_, PySem.W.mg_of X G y_TURN⟩⟩
  have C__law_at := ok__law_at (T := ([] : List (Addr × Addr)).map (·.2)) (P := l.prog) (w := w) (base := base) D__law_at B
  have C__law_purse := ok__law_purse (T := ([] : List (Addr × Addr)).map (·.2)) (P := l.prog) (w := w) (base := base) D__law_purse B C__law_at
  have C__law_mixed := ok__law_mixed (T := ([] : List (Addr × Addr)).map (·.2)) (P := l.prog) (w := w) (base := base) D__law_mixed B
  have C__law_draw := ok__law_draw (T := ([] : List (Addr × Addr)).map (·.2)) (P := l.prog) (w := w) (base := base) D__law_draw B C__law_mixed
  have C__law_machine := ok__law_machine (T := ([] : List (Addr × Addr)).map (·.2)) (P := l.prog) (w := w) (base := base) D__law_machine B C__law_draw
  have C__law_own := ok__law_own (T := ([] : List (Addr × Addr)).map (·.2)) (P := l.prog) (w := w) (base := base) D__law_own B C__law_draw C__law_machine
  have C_is_integer := ok_is_integer (T := ([] : List (Addr × Addr)).map (·.2)) (P := l.prog) (w := w) (base := base) D_is_integer B
  have C_require_size := ok_require_size (T := ([] : List (Addr × Addr)).map (·.2)) (P := l.prog) (w := w) (base := base) D_require_size B C_is_integer
  have C_is_name := ok_is_name (T := ([] : List (Addr × Addr)).map (·.2)) (P := l.prog) (w := w) (base := base) D_is_name B
  have C_is_row := ok_is_row (T := ([] : List (Addr × Addr)).map (·.2)) (P := l.prog) (w := w) (base := base) D_is_row B C_is_integer
  have C_is_map := ok_is_map (T := ([] : List (Addr × Addr)).map (·.2)) (P := l.prog) (w := w) (base := base) D_is_map B C_is_row
  have C_taken_maps := ok_taken_maps (T := ([] : List (Addr × Addr)).map (·.2)) (P := l.prog) (w := w) (base := base) D_taken_maps B C_is_map C_is_name
  have C_fault_of := ok_fault_of (T := ([] : List (Addr × Addr)).map (·.2)) (P := l.prog) (w := w) (base := base) D_fault_of B C_is_integer C_is_row
  have C_taken_asks := ok_taken_asks (T := ([] : List (Addr × Addr)).map (·.2)) (P := l.prog) (w := w) (base := base) D_taken_asks B C_fault_of C_is_name
  have C_Setting__init := ok_Setting__init (T := ([] : List (Addr × Addr)).map (·.2)) (P := l.prog) (w := w) (base := base) D_Setting__init B CC_Setting C_require_size C_taken_asks C_taken_maps
  have C__law_setting := ok__law_setting (T := ([] : List (Addr × Addr)).map (·.2)) (P := l.prog) (w := w) (base := base) D__law_setting B CC_Setting C_Setting__init D_Setting__init
  have C__law_deeds := ok__law_deeds (T := ([] : List (Addr × Addr)).map (·.2)) (P := l.prog) (w := w) (base := base) D__law_deeds B
  have C__law_plan := ok__law_plan (T := ([] : List (Addr × Addr)).map (·.2)) (P := l.prog) (w := w) (base := base) D__law_plan B C__law_deeds C__law_draw
  have C__law_form := ok__law_form (T := ([] : List (Addr × Addr)).map (·.2)) (P := l.prog) (w := w) (base := base) D__law_form B
  have C_require_setting := ok_require_setting (T := ([] : List (Addr × Addr)).map (·.2)) (P := l.prog) (w := w) (base := base) D_require_setting B CC_Setting
  have C_require_length := ok_require_length (T := ([] : List (Addr × Addr)).map (·.2)) (P := l.prog) (w := w) (base := base) D_require_length B C_is_integer
  have C_Setting__deeds := ok_Setting__deeds (T := ([] : List (Addr × Addr)).map (·.2)) (P := l.prog) (w := w) (base := base) D_Setting__deeds B CC_Setting
  have C_Setting__has_deed := ok_Setting__has_deed (T := ([] : List (Addr × Addr)).map (·.2)) (P := l.prog) (w := w) (base := base) D_Setting__has_deed B CC_Setting C_Setting__deeds
  have C_is_range := ok_is_range (T := ([] : List (Addr × Addr)).map (·.2)) (P := l.prog) (w := w) (base := base) D_is_range B C_is_integer
  have C_is_step := ok_is_step (T := ([] : List (Addr × Addr)).map (·.2)) (P := l.prog) (w := w) (base := base) D_is_step B CC_Setting C_Setting__has_deed C_is_range
  have C_require_plan := ok_require_plan (T := ([] : List (Addr × Addr)).map (·.2)) (P := l.prog) (w := w) (base := base) D_require_plan B C_is_step
  have C_entry_after := ok_entry_after (T := ([] : List (Addr × Addr)).map (·.2)) (P := l.prog) (w := w) (base := base) D_entry_after B CC_Setting
  have C_plain_form := ok_plain_form (T := ([] : List (Addr × Addr)).map (·.2)) (P := l.prog) (w := w) (base := base) D_plain_form B CC_Setting C_entry_after
  have C_form_of := ok_form_of (T := ([] : List (Addr × Addr)).map (·.2)) (P := l.prog) (w := w) (base := base) D_form_of B C_plain_form C_require_length C_require_plan C_require_setting
  have C_swaps := ok_swaps (T := ([] : List (Addr × Addr)).map (·.2)) (P := l.prog) (w := w) (base := base) D_swaps B C_form_of C_plain_form
  have C_idle := ok_idle (T := ([] : List (Addr × Addr)).map (·.2)) (P := l.prog) (w := w) (base := base) D_idle B C_form_of C_plain_form
  have C__law_right := ok__law_right (T := ([] : List (Addr × Addr)).map (·.2)) (P := l.prog) (w := w) (base := base) D__law_right B C__law_draw C__law_form C__law_plan C_idle C_swaps D_idle D_swaps
  have C_law := ok_law (T := ([] : List (Addr × Addr)).map (·.2)) (P := l.prog) (w := w) (base := base) D_law B CC_Setting C_Setting__init C__law_own C__law_purse C__law_right C__law_setting C_idle C_swaps D_Setting__init
  exact C_law.ok
end MM

/-! Plain facts that many laws share (no program in sight): draws, settings, rows, machines. -/
namespace MM
open PySem L2 PyProof.Rows
local macro_rules | `(tactic| simp_arith [$ts,*]) => `(tactic| simp only [W_ok, W_var, k_var, W_c, W_op, k_op1, k_op2, W_un, k_un, W_nil, W_cons, k_cons1, k_cons2, W_call, k_call, W_tup, k_tup, W_lst, k_lst, W_lstS, k_lstS, W_seq, k_seq_nx, k_seq_rt, k_seq_bk, k_seq_ct, W_expr, k_expr, W_ret, k_ret, W_retN, W_nx, W_bk, W_ct, W_if, k_if_t, k_if_f, W_ifE, k_ifE_t, k_ifE_f, W_b, k_b, W_andT, k_andT_t, k_andT_f, W_orT, k_orT_t, k_orT_f, W_notT, k_notT, W_yes, W_andV, k_andV_t, k_andV_f, W_orV, k_orV_t, k_orV_f, W_notV, k_notV, W_cmpC, k_cmp1, k_cmp2, k_cmp3_t, k_cmp3_f, W_asg, k_asg, k_asg2, W_gN, W_gsNil, W_gsCons, k_gs, W_gTp, W_gIx, k_ix1, W_for, W_lc, W_lcS, W_next, W_miA, k_it_tup, k_it_lst, k_it_frz, W_def, k_def_rt, k_def_nx, W_callK, k_CK1, k_CK2, perm, List.filterMap_cons, List.filterMap_nil, and_self, W_f2I, W_addI, W_int, W_2L, W_is, W_lenT, W_lenL, W_lenF, W_tupleT, W_tupleL, W_tupleF, k_body, k_loop_nx, k_loop_ct, k_loop_bk, k_loop_rt, k_lc1, k_lc2_t, k_lc2_f, List.map_cons, List.map_nil, List.length_cons, List.length_nil, List.reduceReplicate, Nat.reduceSub, Nat.reduceAdd, Int.reduceAdd, Int.reduceSub, Int.reduceMul, Int.reduceNeg, Int.reduceLT, Int.reduceLE, Int.reduceEq, Int.cast_ofNat_Int, Int.natCast_zero, Int.natCast_one, eq_self, decide_true, decide_false, Bool.and_true, Bool.true_and, Bool.false_and, Bool.and_false, Nat.zero_add, List.replicate_zero, List.replicate_succ, List.cons_append, List.nil_append, List.append_nil, List.getElem?_cons_zero, List.getElem?_cons_succ, List.set_cons_zero, List.set_cons_succ, wipeD, Bool.not_true, Bool.not_false, if_true, if_false, reduceIte, isNon, Bool.false_eq_true, k_el, W_E, k_en_tup, k_en_lst, isi_int_i, isi_int_b, isi_int_n, isi_int_s, isi_int_t, isi_int_l, isi_bool_i, isi_bool_b, isi_bool_n, isi_bool_s, isi_bool_t, isi_bool_l, isi_tuple_i, isi_tuple_b, isi_tuple_n, isi_tuple_s, isi_tuple_t, isi_tuple_l, isi_list_i, isi_list_b, isi_list_n, isi_list_s, isi_list_t, isi_list_l, W_eq2I, k_R1_eq, k_R2_eq, W_R1q, W_ixDT, W_ixDL, W_ixDF, k_opt, atI_lit, W_gTpT, W_gTpL, W_noPart, W_part, k_part, W_sl, k_sl1, k_sl2, k_sl3T, k_sl3L, W_revT, W_revL, W_meth, k_meth2, W_prop, W_make, k_make, k_made, W_sFld, k_fldS1, W_app, W_bits, W_gSt, k_st1, W_gSl, k_gsl1, k_gsl2, W_rgT, W_rgL, W_rgS, W_rg1, k_rg1, W_miS, k_itS, W_E2, k_en2_tup, k_en2_lst, k_en2_frz, W_par, k_par, W_par3, k_par3, W_dct0, W_disp, W_pnil, W_pcons, k_ps1, k_ps2, k_ps3, W_dc, k_dc1, k_dc2_t, k_dc2_f, k_dc3, k_dc4, isi_str_i, isi_str_b, isi_str_n, isi_str_s, isi_str_t, isi_str_l, $ts,*])
local macro_rules | `(tactic| simp_arith) => `(tactic| simp_arith [])
section
set_option maxHeartbeats 1000000
variable {Q : D → Store → Prop} {E : Er → Store → Prop} {S : Store}
def inR (i lo hi : Int) : Bool := decide (lo ≤ i) && decide (i ≤ hi)
theorem log2_lt {i : Int} {k : Nat} (h0 : 0 ≤ i) (h : i < 2 ^ k) (hk : 0 < k) : i.natAbs.log2 < k := by
  have h1 : i.natAbs < 2 ^ k := by
    have : ((i.natAbs : Nat) : Int) = i := Int.natAbs_of_nonneg h0
    have h2 : ((i.natAbs : Nat) : Int) < ((2 ^ k : Nat) : Int) := by rw [this]; simpa using h
    exact Int.ofNat_lt.mp h2
  by_cases hz : i.natAbs = 0
  · rw [hz]
    exact hk
  · exact (Nat.log2_lt hz).mpr h1
/-! ### frames -/
/-- nothing that stood before is changed -/
def Ext (S S' : Store) : Prop := S.length ≤ S'.length ∧ ∀ j, j < S.length → S'[j]? = S[j]?
theorem Ext.refl {S : Store} : Ext S S := ⟨Nat.le_refl _, fun _ _ => rfl⟩
theorem Ext.trans {S S1 S2 : Store} (a : Ext S S1) (b : Ext S1 S2) : Ext S S2 := ⟨Nat.le_trans a.1 b.1, fun j h => (b.2 j (Nat.lt_of_lt_of_le h a.1)).trans (a.2 j h)⟩
theorem Ext.app {S T : Store} : Ext S (S ++ T) := ⟨by rw [List.length_append]; omega, fun j h => List.getElem?_append_left h⟩
theorem Ext.at {S S' : Store} (a : Ext S S') {j : Nat} {o : O} (h : S[j]? = some o) : S'[j]? = some o := (a.2 j (List.getElem?_eq_some_iff.mp h).1).trans h
/-- a new object is written -/
theorem Ext.set {S S' : Store} (a : Ext S S') {n : Nat} {o : O} (h : S.length ≤ n) : Ext S (S'.set n o) := ⟨by rw [List.length_set]; exact a.1, fun j hj => by rw [List.getElem?_set_ne (by omega)]; exact a.2 j hj⟩
theorem at_end {o : O} : (S ++ [o])[S.length]? = some o := by
  rw [List.getElem?_append_right (Nat.le_refl _), Nat.sub_self]
  rfl
theorem set_at {n : Nat} {o o' : O} (h : S[n]? = some o') : (S.set n o)[n]? = some o := List.getElem?_set_self (List.getElem?_eq_some_iff.mp h).1
/-- nothing that stood before but n is changed -/
def Fr (n : Nat) (S S' : Store) : Prop := S.length ≤ S'.length ∧ ∀ j, j < S.length → j ≠ n → S'[j]? = S[j]?
theorem Fr.refl {n : Nat} {S : Store} : Fr n S S := ⟨Nat.le_refl _, fun _ _ _ => rfl⟩
theorem Fr.trans {n : Nat} {S S1 S2 : Store} (a : Fr n S S1) (b : Fr n S1 S2) : Fr n S S2 := ⟨Nat.le_trans a.1 b.1, fun j h q => (b.2 j (Nat.lt_of_lt_of_le h a.1) q).trans (a.2 j h q)⟩
theorem Fr.set {n : Nat} {S : Store} {o : O} : Fr n S (S.set n o) := ⟨by rw [List.length_set]; exact Nat.le_refl _, fun j _ h => List.getElem?_set_ne (Ne.symm h)⟩
theorem Fr.set_new {n m : Nat} {S S' : Store} {o : O} (a : Fr n S S') (h : S.length ≤ m) : Fr n S (S'.set m o) := ⟨by rw [List.length_set]; exact a.1, fun j hj q => by rw [List.getElem?_set_ne (by omega)]; exact a.2 j hj q⟩
theorem Ext.fr {n : Nat} {S S' : Store} (a : Ext S S') : Fr n S S' := ⟨a.1, fun j h _ => a.2 j h⟩
theorem Fr.at {n : Nat} {S S' : Store} (a : Fr n S S') {j : Nat} {o : O} (h : S[j]? = some o) (hn : j ≠ n) : S'[j]? = some o := (a.2 j (List.getElem?_eq_some_iff.mp h).1 hn).trans h
theorem ne_at {i j : Nat} {o u : O} (h : S[i]? = some o) (h' : S[j]? = some u) (d : o ≠ u) : i ≠ j := fun e => by
  subst e
  rw [h] at h'
  exact d (Option.some.inj h')
/-! ### the purse -/
def pu (x y z : Int) : O := .lst [.int x, .int y, .int z]
/-- the purse stands at n, drawn from at most b times -/
def Pu (S : Store) (n : Nat) (b : Int) : Prop := ∃ x y z, S[n]? = some (pu x y z) ∧ 0 ≤ x ∧ 0 ≤ y ∧ y < 2147483647 ∧ 0 ≤ z ∧ z ≤ b
def PW (n : Nat) (S0 : Store) (b : Int) (S : Store) : Prop := Pu S n b ∧ Fr n S0 S
theorem PW.mono {n : Nat} {S0 S : Store} {b c : Int} (h : PW n S0 b S) (hb : b ≤ c) : PW n S0 c S := by
  obtain ⟨⟨x, y, z, h1, h2, h3, h4, h5, h6⟩, f⟩ := h
  exact ⟨⟨x, y, z, h1, h2, h3, h4, h5, Int.le_trans h6 hb⟩, f⟩
theorem PW.trans {n : Nat} {S0 S S' : Store} {b c : Int} (h : PW n S0 b S) (h' : PW n S c S') : PW n S0 c S' := ⟨h'.1, h.2.trans h'.2⟩
theorem PW.refl {n : Nat} {S : Store} {b : Int} (h : Pu S n b) : PW n S b S := ⟨h, Fr.refl⟩
theorem Pu.ext {n : Nat} {S' : Store} {b : Int} (h : Pu S n b) (e : Ext S S') : Pu S' n b := by
  obtain ⟨x, y, z, h1, h⟩ := h
  exact ⟨x, y, z, e.at h1, h⟩
theorem PW.ext {n : Nat} {S0 S' : Store} {b : Int} (h : PW n S0 b S) (e : Ext S S') : PW n S0 b S' := ⟨h.1.ext e, h.2.trans e.fr⟩
/-- a new object but the purse is written -/
theorem PW.set_new {n m : Nat} {S0 : Store} {b : Int} {o : O} (h : PW n S0 b S) (hm : S0.length ≤ m) (hn : n ≠ m) : PW n S0 b (S.set m o) := by
  obtain ⟨⟨x, y, z, h1, h2⟩, f⟩ := h
  exact ⟨⟨x, y, z, by rw [List.getElem?_set_ne (Ne.symm hn)]; exact h1, h2⟩, f.set_new hm⟩
/-- what is no list of numbers stands as it did -/
theorem PW.at {n : Nat} {S0 : Store} {b : Int} (h : PW n S0 b S) {j : Nat} {o : O} (e : S0[j]? = some o) (hn : j ≠ n) : S[j]? = some o := h.2.at e hn
/-! drawn lists -/
theorem k_draws {QA : List D → Store → Prop} {it : ItD} {xs : List D} {g : MG0} {te : ME0} {vs : List Nat} {ρ : Rho} {n : Nat} {S0 : Store} {b c : Int} (hx : it.Lst xs) (hl : xs.length < sizeLine) (P : D → Prop) (hc : 0 ≤ c)
    (h : ∀ d S' b', PW n S0 b' S' → b ≤ b' → b' ≤ b + xs.length * c → W (g d (wipeD ρ vs) S') (kEl te (fun y S2 => P y ∧ PW n S0 (b' + c) S2)) Er0) (h0 : PW n S0 b S)
    (hq : ∀ ys S', ys.length = xs.length → (∀ y ∈ ys, P y) → PW n S0 (b + xs.length * c) S' → QA ys S') : kLc QA E g mYes te vs ρ it S := by
  refine k_lc hx (Nat.lt_trans hl (by decide)) (fun i acc S' => acc.length = i ∧ (∀ y ∈ acc, P y) ∧ PW n S0 (b + i * c) S') ⟨rfl, fun _ z => (List.not_mem_nil z).elim, h0.mono (by simp)⟩ (fun i d acc S' hi hI => ?_) fun acc S' hI => ?_
  · obtain ⟨rfl, h2, h3⟩ := hI
    have hlt := (List.getElem?_eq_some_iff.mp hi).1
    have e1 : (0 : Int) ≤ acc.length * c := Int.mul_nonneg (by omega) hc
    have e2 : (acc.length : Int) * c ≤ xs.length * c := Int.mul_le_mul_of_nonneg_right (by omega) hc
    refine W.mono (h d S' _ h3 (by omega) (by omega)) fun ρ1 S1 h1 => ?_
    rw [k_el] at h1
    rw [k_lc1, W_yes, k_lc2_t]
    refine h1.mono fun y S2 h4 => ?_
    refine ⟨by omega, by rw [List.length_append]; rfl, fun z hz => ?_, h4.2.mono ?_⟩
    · rcases List.mem_append.mp hz with q | q
      · exact h2 z q
      · rw [List.mem_singleton.mp q]
        exact h4.1
    · have : ((acc.length + 1 : Nat) : Int) * c = acc.length * c + c := by rw [Int.natCast_add, Int.add_mul]; simp
      omega
  · exact hq acc S' hI.1 hI.2.1 hI.2.2
theorem ints_of {P : Int → Prop} : ∀ {ys : List D}, (∀ y ∈ ys, ∃ r, y = .int r ∧ P r) → ∃ zs : List Int, ys = zs.map .int ∧ ∀ z ∈ zs, P z
  | [], _ => ⟨[], rfl, fun _ z => (List.not_mem_nil z).elim⟩
  | y :: ys, h => by
    obtain ⟨r, rfl, hr⟩ := h y List.mem_cons_self
    obtain ⟨zs, rfl, hz⟩ := ints_of fun z hz => h z (List.mem_cons_of_mem _ hz)
    exact ⟨r :: zs, rfl, fun z hz' => by
      rcases List.mem_cons.mp hz' with q | q
      · rw [q]; exact hr
      · exact hz z q⟩
def rowD (xs : List Int) : D := .tup (xs.map .int)
theorem rows_of {P : List Int → Prop} : ∀ {ys : List D}, (∀ y ∈ ys, ∃ r, y = rowD r ∧ P r) → ∃ zs : List (List Int), ys = zs.map rowD ∧ ∀ z ∈ zs, P z
  | [], _ => ⟨[], rfl, fun _ z => (List.not_mem_nil z).elim⟩
  | y :: ys, h => by
    obtain ⟨r, rfl, hr⟩ := h y List.mem_cons_self
    obtain ⟨zs, rfl, hz⟩ := rows_of fun z hz => h z (List.mem_cons_of_mem _ hz)
    exact ⟨r :: zs, rfl, fun z hz' => by
      rcases List.mem_cons.mp hz' with q | q
      · rw [q]; exact hr
      · exact hz z q⟩
theorem flat_row {n : Nat} (xs : List Int) : flat (n + 1) (rowD xs) = true := by
  unfold rowD flat
  induction xs with
  | nil => rfl
  | cons x xs ih =>
    rw [List.map_cons]
    unfold flatL
    rw [ih]
    rfl
theorem flat_rows {n : Nat} (xs : List (List Int)) : flat (n + 2) (.tup (xs.map rowD)) = true := by
  unfold flat
  induction xs with
  | nil => rfl
  | cons x xs ih =>
    rw [List.map_cons]
    unfold flatL
    rw [ih, flat_row]
    rfl
theorem noB_row (xs : List Int) : noB (rowD xs) = true := by
  unfold rowD noB
  induction xs with
  | nil => rfl
  | cons x xs ih =>
    rw [List.map_cons]
    unfold noBL
    rw [ih]
    rfl
theorem flatL_map {α : Type} {n : Nat} {f : α → D} {xs : List α} (h : ∀ x ∈ xs, flat n (f x) = true) : flatL n (xs.map f) = true := by
  induction xs with
  | nil => rfl
  | cons x xs ih =>
    rw [List.map_cons]
    unfold flatL
    rw [h x List.mem_cons_self, ih fun y hy => h y (List.mem_cons_of_mem _ hy)]
    rfl
theorem noBL_map {α : Type} {f : α → D} {xs : List α} (h : ∀ x ∈ xs, noB (f x) = true) : noBL (xs.map f) = true := by
  induction xs with
  | nil => rfl
  | cons x xs ih =>
    rw [List.map_cons]
    unfold noBL
    rw [h x List.mem_cons_self, ih fun y hy => h y (List.mem_cons_of_mem _ hy)]
    rfl
theorem W_eqE {neg : Bool} {xs : List D} (h : flat 64 (.tup xs) = true) : W (fEq2 neg (.tup xs) (.tup []) S) Q E = Q (.bl (if neg then !xs.isEmpty else xs.isEmpty)) S := by
  rw [W_eq2F h rfl]
  have : eqD (.tup xs) (.tup []) = xs.isEmpty := by
    cases xs with
    | nil => rfl
    | cons x r => simp [eqD, pyOf, pyOfL, PyData.eqv, PyData.eqvAll]
  rw [this]
/-- equal data are equal -/
theorem W_eqR {neg : Bool} {x : D} (hx : flat 64 x = true) (nx : noB x = true) : W (fEq2 neg x x S) Q E = Q (.bl (!neg)) S := by
  rw [W_eq2F hx hx, (eqD_iff nx nx).mpr rfl]
  cases neg <;> rfl
theorem all_inR {xs : List Int} {n : Int} (h : ∀ v ∈ xs, 0 ≤ v ∧ v < n) : (xs.all fun v => inR v 0 (n - 1)) = true := by
  rw [List.all_eq_true]
  intro v hv
  obtain ⟨h1, h2⟩ := h v hv
  unfold inR
  rw [decide_eq_true h1, decide_eq_true (show v ≤ n - 1 by omega)]
  rfl
theorem all_inR' {xs : List Int} {n : Int} (h : ∀ v ∈ xs, 0 ≤ v ∧ v ≤ n) : (xs.all fun v => inR v 0 n) = true := by
  rw [List.all_eq_true]
  intro v hv
  obtain ⟨h1, h2⟩ := h v hv
  unfold inR
  rw [decide_eq_true h1, decide_eq_true h2]
  rfl
theorem atI_map {α : Type} {f : α → D} {xs : List α} {i : Int} {z : α} (h0 : 0 ≤ i) (h1 : i < xs.length) : atI (xs.map f) i = some (f (xs.getD i.toNat z)) := by
  have hi : i.toNat < xs.length := by omega
  rw [atI_of h0, List.getElem?_map, List.getElem?_eq_getElem hi, List.getD_eq_getElem?_getD, List.getElem?_eq_getElem hi]
  rfl
/-! ### machines -/
def machD (s : Int) (rows : List (List Int)) (ans : List Int) : D := .tup [.int s, .tup (rows.map rowD), .tup (ans.map .int)]
/-- a machine of so many values -/
structure Mach (wide : Int) (s : Int) (rows : List (List Int)) (ans : List Int) : Prop where
  w : ∀ r ∈ rows, (r.length : Int) = wide
  v : ∀ r ∈ rows, ∀ v ∈ r, 0 ≤ v ∧ v < rows.length
  s0 : 0 ≤ s
  s1 : s < rows.length
  al : ans.length = rows.length
  a : ∀ a ∈ ans, 0 ≤ a ∧ a ≤ 99
/-! ### settings -/
structure Sett where
  size : Int
  maps : List (Str × List Int)
  asks : List (Str × (Int × List (List Int) × List Int))
  turning : Bool
def askD (m : Int × List (List Int) × List Int) : D := machD m.1 m.2.1 m.2.2
def kdM (ms : List (Str × List Int)) : List (Key × D) := ms.map fun p => (.inr p.1, rowD p.2)
def kdA (ms : List (Str × (Int × List (List Int) × List Int))) : List (Key × D) := ms.map fun p => (.inr p.1, askD p.2)
def setFs (st : Sett) (nm na : Nat) : List (Str × D) := [("size", .int st.size), ("own_maps", .ref nm), ("own_asks", .ref na), ("turning", .bl st.turning)]
/-- the setting stands at n -/
def SetAt (S : Store) (n : Nat) (st : Sett) : Prop := ∃ nm na, S[n]? = some (.ins "Setting" (setFs st nm na)) ∧ S[nm]? = some (.dct (kdM st.maps)) ∧ S[na]? = some (.dct (kdA st.asks))
theorem SetAt.ext {n : Nat} {st : Sett} {S' : Store} (h : SetAt S n st) (e : Ext S S') : SetAt S' n st := by
  obtain ⟨nm, na, h1, h2, h3⟩ := h
  exact ⟨nm, na, e.at h1, e.at h2, e.at h3⟩
theorem SetAt.pw {n m : Nat} {st : Sett} {S' : Store} {b c : Int} (h : SetAt S n st) (hp : Pu S m c) (e : PW m S b S') : SetAt S' n st := by
  obtain ⟨nm, na, h1, h2, h3⟩ := h
  obtain ⟨x, y, z, h4, _⟩ := hp
  exact ⟨nm, na, e.at h1 (ne_at h1 h4 (fun z => nomatch z)), e.at h2 (ne_at h2 h4 (fun z => nomatch z)), e.at h3 (ne_at h3 h4 (fun z => nomatch z))⟩
theorem SetAt.set {n m : Nat} {st : Sett} {ds es : List D} (h : SetAt S n st) (hm : S[m]? = some (.lst ds)) : SetAt (S.set m (.lst es)) n st := by
  obtain ⟨nm, na, h1, h2, h3⟩ := h
  have k : ∀ {j : Nat} {o : O}, S[j]? = some o → o ≠ .lst ds → (S.set m (.lst es))[j]? = some o := fun {j o} e d => by
    rw [List.getElem?_set_ne (Ne.symm (ne_at e hm d))]
    exact e
  exact ⟨nm, na, k h1 (fun z => nomatch z), k h2 (fun z => nomatch z), k h3 (fun z => nomatch z)⟩
/-- a name: one to eight letters, not the word turn -/
def letters : List Nat := ("abcdefghijklmnopqrstuvwxyz" : Str).cps.toList
def nameB (z : Str) : Bool := decide (z ≠ "turn") && decide (1 ≤ z.length) && decide (z.length ≤ 8) && z.cps.toList.all fun c => decide (c ∈ letters)
structure SetOk (st : Sett) : Prop where
  s1 : 1 ≤ st.size
  s4 : st.size ≤ 4
  ml : st.maps.length ≤ 4
  mn : ∀ p ∈ st.maps, nameB p.1 = true
  mm : ∀ p ∈ st.maps, (p.2.length : Int) = st.size ∧ ∀ v ∈ p.2, 0 ≤ v ∧ v < st.size
  ms : sortedS (st.maps.map (·.1)) = true
  al : st.asks.length ≤ 4
  an : ∀ p ∈ st.asks, nameB p.1 = true
  am : ∀ p ∈ st.asks, Mach st.size p.2.1 p.2.2.1 p.2.2.2 ∧ p.2.2.1.length < 1000
  as : sortedS (st.asks.map (·.1)) = true
  md : (st.maps.map (·.1)).Nodup
  ad : (st.asks.map (·.1)).Nodup
def namesM (st : Sett) : List Str := st.maps.map (·.1)
def deedsL (st : Sett) : List Str := sortS (namesM st ++ if st.turning = true then [("turn" : Str)] else [])
def mapOf (st : Sett) (x : Str) : List Int := ((st.maps.find? fun p => decide (p.1 = x)).map (·.2)).getD []
theorem deeds_mem {st : Sett} {x : Str} : x ∈ deedsL st ↔ x ∈ namesM st ∨ (st.turning = true ∧ x = "turn") := by
  unfold deedsL
  rw [(sortS_perm _).mem_iff, List.mem_append]
  cases st.turning with
  | true => simp
  | false => simp
theorem alook_find {ms : List (Str × List Int)} {x : Str} : alook (kdM ms) (.inr x) = (ms.find? fun p => decide (p.1 = x)).map fun p => rowD p.2 := by
  unfold kdM
  induction ms with
  | nil => rfl
  | cons p ms ih =>
    rw [List.map_cons, alook_cons, List.find?_cons]
    by_cases h : p.1 = x
    · rw [if_pos (by rw [h]), decide_eq_true h]
      rfl
    · rw [if_neg (fun z => h (Sum.inr.inj z)), decide_eq_false h]
      exact ih
theorem mapOf_mem {st : Sett} {x : Str} (h : x ∈ namesM st) : ∃ p ∈ st.maps, p.1 = x ∧ p.2 = mapOf st x ∧ alook (kdM st.maps) (.inr x) = some (rowD (mapOf st x)) := by
  unfold namesM at h
  obtain ⟨q, hq, e⟩ := List.mem_map.mp h
  cases hf : st.maps.find? fun p => decide (p.1 = x) with
  | none =>
    have := List.find?_eq_none.mp hf q hq
    simp [e] at this
  | some p =>
    have h1 := List.mem_of_find?_eq_some hf
    have h2 := List.find?_some hf
    refine ⟨p, h1, of_decide_eq_true h2, ?_, ?_⟩
    · unfold mapOf
      rw [hf]
      rfl
    · rw [alook_find, hf]
      unfold mapOf
      rw [hf]
      rfl
theorem SetOk.map {st : Sett} (k : SetOk st) {x : Str} (h : x ∈ namesM st) : alook (kdM st.maps) (.inr x) = some (rowD (mapOf st x)) ∧ ((mapOf st x).length : Int) = st.size ∧ ∀ v ∈ mapOf st x, 0 ≤ v ∧ v < st.size := by
  obtain ⟨p, hp, _, e, ha⟩ := mapOf_mem h
  obtain ⟨h1, h2⟩ := k.mm p hp
  exact ⟨ha, by rw [← e]; exact h1, fun v hv => h2 v (by rw [e]; exact hv)⟩
theorem name_ne_turn {z : Str} (h : nameB z = true) : z ≠ "turn" := by
  unfold nameB at h
  simp only [Bool.and_eq_true, decide_eq_true_eq] at h
  exact h.1.1.1
theorem SetOk.ne_turn {st : Sett} (k : SetOk st) {x : Str} (h : x ∈ namesM st) : x ≠ "turn" := by
  obtain ⟨p, hp, e⟩ := List.mem_map.mp h
  rw [← e]
  exact name_ne_turn (k.mn p hp)
/-- what is drawn of the deeds is the word turn in a turning setting or a map's name -/
theorem SetOk.deed {st : Sett} (k : SetOk st) {x : Str} (h : x ∈ deedsL st) : (x = "turn" ∧ st.turning = true) ∨ (x ≠ "turn" ∧ x ∈ namesM st) := by
  rcases deeds_mem.mp h with q | ⟨q1, q2⟩
  · exact .inr ⟨k.ne_turn q, q⟩
  · exact .inl ⟨q2, q1⟩
theorem strOk_name {z : Str} (h : nameB z = true) : PyData.strOk z = true := by
  unfold nameB at h
  simp only [Bool.and_eq_true] at h
  have h4 := h.2
  unfold PyData.strOk
  rw [Array.all_eq_true_iff_forall_mem]
  intro c hc
  have hc' : c ∈ z.cps.toList := by simpa using hc
  have h5 := of_decide_eq_true (List.all_eq_true.mp h4 c hc')
  have : ∀ c ∈ letters, c < 1114112 := by decide +kernel
  exact decide_eq_true (this c h5)
theorem SetOk.strOk {st : Sett} (k : SetOk st) {x : Str} (h : x ∈ deedsL st) : PyData.strOk x = true := by
  rcases k.deed h with ⟨rfl, _⟩ | ⟨_, q⟩
  · decide +kernel
  · obtain ⟨p, hp, e⟩ := List.mem_map.mp q
    rw [← e]
    exact strOk_name (k.mn p hp)
/-! ### sorted -/
theorem oSorted_ints {d : D} {ns : List Int} (h : lstOf S d = some (ns.map .int)) : oSorted [d] S = some ((sortI ns).map .int) := by
  unfold oSorted oSortI
  dsimp only
  rw [h]
  show (match (match (intsOf (ns.map D.int)).map fun ns => (sortI ns).map D.int with | some es => some es | none => oSortS [d] S) with | some es => some es | none => oSortD [d] S) = _
  rw [intsOf_map]
  rfl
theorem oSorted_strs {d : D} {ns : List Str} (h : lstOf S d = some (ns.map .str)) (hl : ns.length < 64) : oSorted [d] S = some ((sortS ns).map .str) := by
  cases ns with
  | nil =>
    rw [oSorted_ints (ns := []) h]
    unfold sortI sortS
    simp
  | cons n ns =>
    unfold oSorted oSortI oSortS
    dsimp only
    rw [h]
    show (match (match (intsOf ((n :: ns).map D.str)).map fun ns => (sortI ns).map D.int with | some es => some es | none => (strsOf ((n :: ns).map D.str)).bind fun ns => if ns.length < 64 then some ((sortS ns).map D.str) else none) with | some es => some es | none => oSortD [d] S) = _
    rw [strsOf_map]
    show (match (match (none : Option (List D)) with | some es => some es | none => if (n :: ns).length < 64 then some ((sortS (n :: ns)).map D.str) else none) with | some es => some es | none => oSortD [d] S) = _
    dsimp only
    rw [if_pos hl]
theorem keysS_inr (ns : List Str) : keysS (ns.map Sum.inr) = some ns := by
  induction ns with
  | nil => rfl
  | cons n ns ih =>
    show (keysS (ns.map Sum.inr)).map (n :: ·) = _
    rw [ih]
    rfl
theorem oSorted_dct {n : Nat} {kvs : List (Key × D)} {ns : List Str} (h : S[n]? = some (.dct kvs)) (hk : kvs.map (·.1) = ns.map Sum.inr) (hl : ns.length < 64) : oSorted [.ref n] S = some ((sortS ns).map .str) := by
  have h0 : lstOf S (.ref n) = none := by
    show lstAt S n = none
    unfold lstAt
    rw [h]
  unfold oSorted oSortI oSortS oSortD
  dsimp only
  rw [h0]
  dsimp only [Option.bind_none]
  rw [show dctAt S (.ref n) = some kvs by unfold dctAt; dsimp only; rw [h]]
  dsimp only [Option.bind_some]
  rw [hk, keysS_inr]
  dsimp only [Option.bind_some]
  rw [if_pos hl]
theorem sortS_of {ns : List Str} (h : sortedS ns = true) : sortS ns = ns := (sortS_uniq (List.Perm.refl ns) h).symm
theorem length_sortS (ns : List Str) : (sortS ns).length = ns.length := (sortS_perm ns).length_eq
theorem kdM_keys (ms : List (Str × List Int)) : (kdM ms).map (·.1) = (ms.map (·.1)).map Sum.inr := by
  unfold kdM
  rw [List.map_map, List.map_map]
  rfl
theorem kdA_keys (ms : List (Str × (Int × List (List Int) × List Int))) : (kdA ms).map (·.1) = (ms.map (·.1)).map Sum.inr := by
  unfold kdA
  rw [List.map_map, List.map_map]
  rfl
/-! + -/
theorem W_addL {us vs : List D} (h : us.length + vs.length ≤ sizeLine) : W (fAdd (.lst us) (.lst vs) S) Q E = Q (.lst (us ++ vs)) S := by
  show W (if us.length + vs.length ≤ sizeLine then .ok (.lst (us ++ vs)) S else .bad) Q E = _
  rw [if_pos h]
  rfl
theorem W_addT {us vs : List D} (h : us.length + vs.length ≤ sizeLine) : W (fAdd (.tup us) (.tup vs) S) Q E = Q (.tup (us ++ vs)) S := by
  show W (if us.length + vs.length ≤ sizeLine then .ok (.tup (us ++ vs)) S else .bad) Q E = _
  rw [if_pos h]
  rfl
theorem W_mulL {us : List D} {k : Int} (h0 : -(2 ^ 63) ≤ k) (h1 : k < 2 ^ 63) (h2 : us.length * k.toNat ≤ sizeLine) : W (fMul (.lst us) (.int k) S) Q E = Q (.lst (List.replicate k.toNat us).flatten) S := by
  show W (if -(2 ^ 63) ≤ k ∧ k < 2 ^ 63 ∧ us.length * k.toNat ≤ sizeLine then .ok (.lst (List.replicate k.toNat us).flatten) S else .bad) Q E = _
  rw [if_pos ⟨h0, h1, h2⟩]
  rfl
theorem W_floor {i j : Int} (h : 0 < j) (h2 : j < 2 ^ 100) : W (fFloor (.int i) (.int j) S) Q E = Q (.int (i / j)) S :=
  W_f2Ic (decide_eq_true ⟨h, Nat.lt_trans (log2_lt (Int.le_of_lt h) h2 (by decide)) (by decide)⟩)
theorem W_mod {i j : Int} (h : 0 < j) : W (fMod (.int i) (.int j) S) Q E = Q (.int (i % j)) S := W_f2Ic (decide_eq_true h)
theorem W_intB {b : Bool} : W (fInt [.bl b] S) Q E = Q (.int (if b then 1 else 0)) S := rfl
/-- a text against a written one -/
theorem W_eqS {neg : Bool} {x y : Str} (hx : PyData.strOk x = true) (hy : PyData.strOk y = true) : W (fEq2 neg (.str x) (.str y) S) Q E = Q (.bl (if neg then !decide (x = y) else decide (x = y))) S := by
  rw [W_eq2F (by unfold flat; exact hx) (by unfold flat; exact hy)]
  have : eqD (.str x) (.str y) = decide (x = y) := by
    rw [Bool.eq_iff_iff, eqD_iff (by unfold noB; rfl) (by unfold noB; rfl), decide_eq_true_iff]
    exact ⟨fun z => D.str.inj z, fun z => by rw [z]⟩
  rw [this]
/-- in a tuple of texts -/
theorem W_inT {x : Str} {ys : List Str} : W (fIn false (.str x) (.tup (ys.map .str)) S) Q E = Q (.bl (decide (x ∈ ys))) S := by
  show W (fInF false (.str x) (.tup (ys.map .str)) S) Q E = _
  unfold fInF
  dsimp only [seqOf]
  have h1 : (ys.map D.str).all flatD = true := by
    rw [List.all_map]
    exact List.all_eq_true.mpr fun y _ => rfl
  rw [if_pos ⟨rfl, h1⟩]
  have h2 : ((ys.map D.str).any fun z => eqF z (.str x)) = decide (x ∈ ys) := by
    rw [List.any_map, Bool.eq_iff_iff, List.any_eq_true, decide_eq_true_iff]
    constructor
    · rintro ⟨y, hy, e⟩
      have : y = x := by simpa [eqF] using e
      rw [← this]
      exact hy
    · intro h
      exact ⟨x, h, by simp [eqF]⟩
  show Q (.bl (neg? false _)) S = _
  rw [h2]
  rfl
/-- a sign in the letters -/
theorem W_inC {c : Nat} {z : Str} : W (fIn false (.str ⟨#[c]⟩) (.str z) S) Q E = Q (.bl (decide (c ∈ z.cps.toList))) S := rfl
end
end MM

/-! What the program's defs of machines and settings come to. -/
namespace MM
open PySem L2 PyProof.Rows
local macro_rules | `(tactic| simp_arith [$ts,*]) => `(tactic| simp -implicitDefEqProofs only [W_ok, W_var, k_var, W_c, W_op, k_op1, k_op2, W_un, k_un, W_nil, W_cons, k_cons1, k_cons2, W_call, k_call, W_tup, k_tup, W_lst, k_lst, W_lstS, k_lstS, W_seq, k_seq_nx, k_seq_rt, k_seq_bk, k_seq_ct, W_expr, k_expr, W_ret, k_ret, W_retN, W_nx, W_bk, W_ct, W_if, k_if_t, k_if_f, W_ifE, k_ifE_t, k_ifE_f, W_b, k_b, W_andT, k_andT_t, k_andT_f, W_orT, k_orT_t, k_orT_f, W_notT, k_notT, W_yes, W_andV, k_andV_t, k_andV_f, W_orV, k_orV_t, k_orV_f, W_notV, k_notV, W_cmpC, k_cmp1, k_cmp2, k_cmp3_t, k_cmp3_f, W_asg, k_asg, k_asg2, W_gN, W_gsNil, W_gsCons, k_gs, W_gTp, W_gIx, k_ix1, W_for, W_lc, W_lcS, W_next, W_miA, k_it_tup, k_it_lst, k_it_frz, W_def, k_def_rt, k_def_nx, W_callK, k_CK1, k_CK2, perm, List.filterMap_cons, List.filterMap_nil, and_self, W_f2I, W_addI, W_int, W_2L, W_is, W_lenT, W_lenL, W_lenF, W_tupleT, W_tupleL, W_tupleF, k_body, k_loop_nx, k_loop_ct, k_loop_bk, k_loop_rt, k_lc1, k_lc2_t, k_lc2_f, List.map_cons, List.map_nil, List.length_cons, List.length_nil, List.reduceReplicate, Nat.reduceSub, Nat.reduceAdd, Int.reduceAdd, Int.reduceSub, Int.reduceMul, Int.reduceNeg, Int.reduceLT, Int.reduceLE, Int.reduceEq, Int.cast_ofNat_Int, Int.natCast_zero, Int.natCast_one, eq_self, decide_true, decide_false, Bool.and_true, Bool.true_and, Bool.false_and, Bool.and_false, Nat.zero_add, List.replicate_zero, List.replicate_succ, List.cons_append, List.nil_append, List.append_nil, List.getElem?_cons_zero, List.getElem?_cons_succ, List.set_cons_zero, List.set_cons_succ, wipeD, Bool.not_true, Bool.not_false, if_true, if_false, reduceIte, isNon, Bool.false_eq_true, k_el, W_E, k_en_tup, k_en_lst, isi_int_i, isi_int_b, isi_int_n, isi_int_s, isi_int_t, isi_int_l, isi_bool_i, isi_bool_b, isi_bool_n, isi_bool_s, isi_bool_t, isi_bool_l, isi_tuple_i, isi_tuple_b, isi_tuple_n, isi_tuple_s, isi_tuple_t, isi_tuple_l, isi_list_i, isi_list_b, isi_list_n, isi_list_s, isi_list_t, isi_list_l, W_eq2I, W_intB, k_R1_eq, k_R2_eq, W_R1q, W_ixDT, W_ixDL, W_ixDF, k_opt, atI_lit, W_gTpT, W_gTpL, W_noPart, W_part, k_part, W_sl, k_sl1, k_sl2, k_sl3T, k_sl3L, W_revT, W_revL, W_meth, k_meth2, W_prop, W_make, k_make, k_made, W_sFld, k_fldS1, W_app, W_bits, W_gSt, k_st1, W_gSl, k_gsl1, k_gsl2, W_rgT, W_rgL, W_rgS, W_rg1, k_rg1, W_miS, k_itS, W_E2, k_en2_tup, k_en2_lst, k_en2_frz, W_par, k_par, W_par3, k_par3, W_dct0, W_disp, W_pnil, W_pcons, k_ps1, k_ps2, k_ps3, W_dc, k_dc1, k_dc2_t, k_dc2_f, k_dc3, k_dc4, isi_str_i, isi_str_b, isi_str_n, isi_str_s, isi_str_t, isi_str_l, $ts,*])
local macro_rules | `(tactic| simp_arith) => `(tactic| simp_arith [])
section
set_option maxHeartbeats 1000000
variable {Q : D → Store → Prop} {E : Er → Store → Prop} {S : Store}
theorem W_is_integer {i lo hi : Int} : W (m_is_integer [.int i, .int lo, .int hi] S) Q E = Q (.bl (inR i lo hi)) S := by
  unfold m_is_integer inR
  simp_arith []
  by_cases h : lo ≤ i
  · simp_arith [h]
  · simp_arith [h]
theorem W_is_row {xs : List Int} {n : Int} (hl : xs.length < sizeLine) (h : Q (.bl (xs.all fun v => inR v 0 (n - 1))) S) : W (m_is_row [rowD xs, .int n] S) Q E := by
  unfold m_is_row rowD
  simp_arith []
  refine k_lc_map (lst_L _) (f := fun d => match d with | .int v => .bl (inR v 0 (n - 1)) | _ => .bl false) (by rw [List.length_map]; exact hl) (fun d hd Y hY => ?_) ?_
  · obtain ⟨v, hv, rfl⟩ := List.mem_map.mp hd
    simp_arith []
    rw [W_is_integer]
    exact hY
  · have e : (xs.map D.int).map (fun d => match d with | .int v => D.bl (inR v 0 (n - 1)) | _ => .bl false) = (xs.map fun v => inR v 0 (n - 1)).map D.bl := by
      rw [List.map_map, List.map_map]
      rfl
    rw [e]
    simp_arith []
    rw [W_allL, List.all_map]
    exact h
theorem W_fault {wide s size : Int} {rows : List (List Int)} {ans : List Int} (M : Mach wide s rows ans) (hl : rows.length < 1000) (hw : wide < 1000) (hq : Q (if size = wide then .non else .tup [.str "steps", .int 0]) S) : W (m_fault_of [machD s rows ans, .int size] S) Q E := by
  have hpos : 0 < rows.length := by have := M.s0; have := M.s1; omega
  have al := M.al
  unfold m_fault_of machD
  simp_arith []
  rw [W_eqE (flat_rows (n := 62) rows)]
  have ne1 : (rows.map rowD).isEmpty = false := by
    cases rows with
    | nil => exact absurd hpos (by decide)
    | cons x r => rfl
  have ne2 : (ans.map D.int).isEmpty = false := by
    cases ans with
    | nil => rw [← al] at hpos; exact absurd hpos (by decide)
    | cons x r => rfl
  rw [ne1]
  simp_arith []
  rw [W_eqE (show flat 64 (.tup (ans.map .int)) = true from flat_row (n := 63) ans), ne2]
  simp_arith []
  refine k_for (lst_E _) (by unfold enumD; rw [List.length_map, List.length_zipIdx, List.length_map]; unfold BIG; omega)
    (fun i ρ S' => S' = S ∧ (size = wide ∨ i = 0) ∧ ∃ a c, ρ = [some (machD s rows ans), some (.int size), some (.int s), some (.tup (rows.map rowD)), some (.tup (ans.map .int)), a, c, none])
    ⟨rfl, .inr rfl, _, _, rfl⟩ (fun i d ρ S' hi hI => ?_) (fun ρ S' hI => ?_)
  · obtain ⟨rfl, hs, a, c, rfl⟩ := hI
    unfold enumD at hi
    rw [List.getElem?_map, List.getElem?_zipIdx, List.getElem?_map] at hi
    cases hr : rows[i]? with
    | none => rw [hr] at hi; cases hi
    | some row =>
      rw [hr] at hi
      obtain rfl := Option.some.inj hi
      have hm := List.mem_of_getElem? hr
      have hrl := M.w row hm
      simp_arith []
      refine W_is_row (by unfold sizeLine; omega) ?_
      rw [List.length_map, all_inR (M.v row hm)]
      simp_arith []
      rw [show rowD row = .tup (row.map .int) from rfl]
      simp_arith []
      rw [List.length_map]
      by_cases he : size = wide
      · rw [show (row.length : Int) = size by omega]
        simp_arith []
        exact ⟨trivial, .inl he, _, _, rfl⟩
      · have hi0 : i = 0 := hs.resolve_left he
        subst hi0
        rw [show decide ((row.length : Int) = size) = false from decide_eq_false (by omega)]
        simp_arith []
        rw [if_neg he] at hq
        exact hq
  · obtain ⟨rfl, hs, a, c, rfl⟩ := hI
    have he : size = wide := by
      refine hs.resolve_right fun z => ?_
      unfold enumD at z
      rw [List.length_map, List.length_zipIdx, List.length_map] at z
      omega
    rw [if_pos he] at hq
    simp_arith []
    rw [List.length_map, List.length_map, show (ans.length : Int) = rows.length by omega]
    simp_arith []
    refine k_lc_map (lst_L _) (f := fun d => match d with | .int v => .bl (inR v 0 99) | _ => .bl false) (by rw [List.length_map]; unfold sizeLine; omega) (fun d hd Y hY => ?_) ?_
    · obtain ⟨v, hv, rfl⟩ := List.mem_map.mp hd
      simp_arith []
      rw [W_is_integer]
      exact hY
    · have e : (ans.map D.int).map (fun d => match d with | .int v => D.bl (inR v 0 99) | _ => .bl false) = (ans.map fun v => inR v 0 99).map D.bl := by
        rw [List.map_map, List.map_map]
        rfl
      rw [e]
      simp_arith []
      rw [W_allL, List.all_map, show (ans.all (id ∘ fun v => inR v 0 99)) = true from all_inR' M.a]
      simp_arith []
      rw [W_is_integer, show inR s 0 ((rows.map rowD).length - 1) = true by
        unfold inR
        rw [decide_eq_true M.s0, decide_eq_true (show s ≤ (rows.map rowD).length - 1 by rw [List.length_map]; have := M.s1; omega)]
        rfl]
      simp_arith []
      exact hq
/-! names and maps -/
theorem W_is_name {z : Str} (h : nameB z = true) (hq : Q (.bl true) S) : W (m_is_name [.str z] S) Q E := by
  have so := strOk_name h
  have nt := name_ne_turn h
  unfold nameB at h
  simp only [Bool.and_eq_true, decide_eq_true_eq] at h
  obtain ⟨⟨⟨_, h1⟩, h2⟩, h3⟩ := h
  unfold m_is_name
  simp_arith []
  rw [W_eqS so (by decide +kernel), decide_eq_false nt]
  simp_arith []
  rw [W_lenZ (by unfold sizeLine; omega)]
  rw [k_cmp2]
  simp_arith []
  rw [decide_eq_true (show (1 : Int) ≤ z.length by omega)]
  simp_arith []
  rw [decide_eq_true (show (z.length : Int) ≤ 8 by omega)]
  simp_arith []
  refine k_lc_map (lst_L _) (f := fun d => match d with | .str y => .bl (match y.cps.toList with | [c] => decide (c ∈ letters) | _ => false) | _ => .bl false) ?_ (fun d hd Y hY => ?_) ?_
  · unfold signsD
    rw [List.length_map, Array.length_toList]
    have : z.cps.size = z.length := rfl
    unfold sizeLine
    omega
  · unfold signsD at hd
    obtain ⟨c, hc, rfl⟩ := List.mem_map.mp hd
    simp_arith []
    exact hY
  · have e : (signsD z).map (fun d => match d with | .str y => D.bl (match y.cps.toList with | [c] => decide (c ∈ letters) | _ => false) | _ => .bl false) = (z.cps.toList.map fun c => decide (c ∈ letters)).map D.bl := by
      unfold signsD
      rw [List.map_map, List.map_map]
      rfl
    rw [e]
    simp_arith []
    rw [W_allL, List.all_map, show (z.cps.toList.all (id ∘ fun c => decide (c ∈ letters))) = true from h3]
    exact hq
theorem W_is_map {m : List Int} {n : Int} (h1 : (m.length : Int) = n) (h2 : n ≤ 100) (h3 : ∀ v ∈ m, 0 ≤ v ∧ v < n) (hq : Q (.bl true) S) : W (m_is_map [rowD m, .int n] S) Q E := by
  unfold m_is_map
  simp_arith []
  refine W_is_row (by unfold sizeLine; omega) ?_
  rw [all_inR h3]
  simp_arith []
  rw [show rowD m = .tup (m.map .int) from rfl]
  simp_arith []
  rw [List.length_map, h1]
  simp_arith []
  exact hq
theorem nodup_inr {ns : List Str} (h : ns.Nodup) : (ns.map (Sum.inr : Str → Key)).Nodup := List.Pairwise.map _ (fun a b q z => q (Sum.inr.inj z)) h
theorem fput_len {f : Str} {d : D} : ∀ {fs : List (Str × D)}, (fput f d fs).length ≤ fs.length + 1
  | [] => Nat.le_refl _
  | (g, x) :: r => by
    unfold fput
    split
    · simp
    · have := fput_len (f := f) (d := d) (fs := r)
      simp only [List.length_cons]
      omega
theorem aput_new {kvs : List (Key × D)} {k : Key} {d : D} (h : ∀ kv ∈ kvs, kv.1 ≠ k) : aput kvs k d = kvs ++ [(k, d)] := by
  unfold aput
  have : (kvs.any fun kv => decide (kv.1 = k)) = false := by
    rw [List.any_eq_false]
    intro kv hkv
    rw [decide_eq_false (h kv hkv)]
    exact Bool.false_ne_true
  rw [this]
  rfl
theorem alook_nodup : ∀ {kvs : List (Key × D)} {i : Nat} {k : Key} {d : D}, (kvs.map (·.1)).Nodup → kvs[i]? = some (k, d) → alook kvs k = some d
  | [], i, k, d, _, h => by simp at h
  | (k0, d0) :: kvs, 0, k, d, hn, h => by
    rw [List.getElem?_cons_zero] at h
    cases h
    rw [alook_cons, if_pos rfl]
  | (k0, d0) :: kvs, i + 1, k, d, hn, h => by
    rw [List.getElem?_cons_succ] at h
    rw [List.map_cons, List.nodup_cons] at hn
    rw [alook_cons, if_neg (fun z => hn.1 (by
      have hm := List.mem_of_getElem? h
      have z' : k0 = k := z
      rw [z']
      exact List.mem_map.mpr ⟨_, hm, rfl⟩))]
    exact alook_nodup hn.2 h
/-- {name: d[name] for name in sorted(d)} of a dict whose names stand ascending -/
theorem alook_mem {kvs : List (Key × D)} {k : Key} {d : D} (hn : (kvs.map (·.1)).Nodup) (h : (k, d) ∈ kvs) : alook kvs k = some d := by
  obtain ⟨i, hi⟩ := List.mem_iff_getElem?.mp h
  exact alook_nodup hn hi
theorem alook_perm {kvs kvs' : List (Key × D)} (hp : kvs.Perm kvs') (hn : (kvs'.map (·.1)).Nodup) {i : Nat} {k : Key} {d : D} (h : kvs'[i]? = some (k, d)) : alook kvs k = some d :=
  alook_mem (((hp.map _).nodup_iff).mpr hn) (hp.mem_iff.mpr (List.mem_of_getElem? h))
theorem sort_perm {kvs kvs' : List (Key × D)} {ns : List Str} (hp : kvs.Perm kvs') (hk : kvs'.map (·.1) = ns.map Sum.inr) (hs : sortedS ns = true) : ∃ ms : List Str, kvs.map (·.1) = ms.map Sum.inr ∧ ms.length = ns.length ∧ sortS ms = ns := by
  have key : ∀ l : List Key, (∀ k ∈ l, ∃ z, k = Sum.inr z) → ∃ ms : List Str, l = ms.map Sum.inr := fun l => by
    induction l with
    | nil => exact fun _ => ⟨[], rfl⟩
    | cons k l ih =>
      intro h
      obtain ⟨z, rfl⟩ := h k List.mem_cons_self
      obtain ⟨ms, rfl⟩ := ih fun k hk => h k (List.mem_cons_of_mem _ hk)
      exact ⟨z :: ms, rfl⟩
  have pk : (kvs.map (·.1)).Perm (ns.map Sum.inr) := by
    rw [← hk]
    exact hp.map _
  obtain ⟨ms, hms⟩ := key (kvs.map (·.1)) fun k hk' => by
    obtain ⟨z, _, e⟩ := List.mem_map.mp (pk.mem_iff.mp hk')
    exact ⟨z, e.symm⟩
  rw [hms] at pk
  have pm : ns.Perm ms := by
    have q := pk.symm.map (fun k : Key => match k with | .inr z => z | .inl _ => (default : Str))
    rw [List.map_map, List.map_map] at q
    have e : ((fun k : Key => match k with | .inr z => z | .inl _ => (default : Str)) ∘ (Sum.inr : Str → Key)) = id := rfl
    rw [e, List.map_id, List.map_id] at q
    exact q
  exact ⟨ms, hms, pm.length_eq.symm, (sortS_uniq pm hs).symm⟩
theorem W_copy {n : Nat} {kvs0 kvs : List (Key × D)} {ns : List Str} {x a : Option D} (h : S[n]? = some (.dct kvs0)) (hp : kvs0.Perm kvs) (hk : kvs.map (·.1) = ns.map Sum.inr) (hs : sortedS ns = true) (hd : ns.Nodup) (hl : ns.length < 64)
    (hq : ∀ S', Ext S S' → S'[S.length]? = some (.dct kvs) → Q (.ref S.length) S') : W (mDc (miA (mCall (frL oSorted) (mCons (mVar 0) mNil))) (gN 2) mYes (mVar 2) (mOp fIxD (mVar 0) (mVar 2)) [2] [some (.ref n), x, a] S) Q E := by
  have hlen : kvs.length = ns.length := by
    have := congrArg List.length hk
    rw [List.length_map, List.length_map] at this
    exact this
  have hkd : (kvs.map (·.1)).Nodup := by
    rw [hk]
    exact nodup_inr hd
  obtain ⟨ms, hm1, hm2, hm3⟩ := sort_perm hp hk hs
  simp_arith []
  rw [W_frL (oSorted_dct h hm1 (by omega)), hm3]
  simp_arith []
  refine k_dc (ns.map .str) (by rw [List.length_map]; unfold BIG; omega) (fun i S' => Ext S S' ∧ S'[S.length]? = some (.dct (kvs.take i))) ⟨Ext.app, at_end⟩ (fun i S' hI => lst_L _ i S') (fun i d S' hi hI => ?_) fun S' hI => ?_
  · obtain ⟨he, h2⟩ := hI
    rw [List.getElem?_map] at hi
    cases hn : ns[i]? with
    | none => rw [hn] at hi; cases hi
    | some y =>
      rw [hn] at hi
      cases hi
      have hkv : (kvs.map (·.1))[i]? = some (.inr y) := by
        rw [hk, List.getElem?_map, hn]
        rfl
      rw [List.getElem?_map] at hkv
      obtain ⟨kv, e1, e2⟩ := Option.map_eq_some_iff.mp hkv
      obtain ⟨k, v⟩ := kv
      have e2' : k = .inr y := e2
      subst e2'
      have hv := alook_perm hp hkd e1
      simp_arith []
      rw [W_ixDK (he.at h) rfl hv]
      simp_arith []
      have hil : i < kvs.length := (List.getElem?_eq_some_iff.mp e1).1
      refine ⟨.inr y, kvs.take i, rfl, h2, by rw [List.length_take]; unfold sizeLine; omega, he.set (Nat.le_refl _), ?_⟩
      rw [set_at h2, aput_new (fun kv hkv z => ?_), List.take_add_one, e1]
      · rfl
      · have hmem : kv.1 ∈ (kvs.map (·.1)).take i := by
          rw [← List.map_take]
          exact List.mem_map.mpr ⟨kv, hkv, rfl⟩
        obtain ⟨j, hj⟩ := List.mem_iff_getElem?.mp hmem
        rw [List.getElem?_take] at hj
        split at hj
        · rename_i hji
          have e3 : (kvs.map (·.1))[i]? = some (.inr y) := by rw [List.getElem?_map, e1]; rfl
          rw [z] at hj
          have e4 := (List.getElem?_inj (by rw [List.length_map]; omega) hkd).mp (hj.trans e3.symm)
          omega
        · cases hj
  · obtain ⟨he, h2⟩ := hI
    rw [List.length_map, ← hlen, List.take_length] at h2
    exact hq S' he h2
/-- maps handed in: None or a dict of the store -/
def GivM (S : Store) (d : D) (ms : List (Str × List Int)) : Prop := (d = .non ∧ ms = []) ∨ ∃ n ms', d = .ref n ∧ S[n]? = some (.dct (kdM ms')) ∧ ms'.Perm ms
def GivA (S : Store) (d : D) (ms : List (Str × (Int × List (List Int) × List Int))) : Prop := (d = .non ∧ ms = []) ∨ ∃ n ms', d = .ref n ∧ S[n]? = some (.dct (kdA ms')) ∧ ms'.Perm ms
theorem GivM.ext {S' : Store} {d : D} {ms : List (Str × List Int)} (h : GivM S d ms) (e : Ext S S') : GivM S' d ms := h.elim .inl fun ⟨n, ms', h1, h2, h3⟩ => .inr ⟨n, ms', h1, e.at h2, h3⟩
theorem GivA.ext {S' : Store} {d : D} {ms : List (Str × (Int × List (List Int) × List Int))} (h : GivA S d ms) (e : Ext S S') : GivA S' d ms := h.elim .inl fun ⟨n, ms', h1, h2, h3⟩ => .inr ⟨n, ms', h1, e.at h2, h3⟩
theorem W_isi_dct {n : Nat} {kvs : List (Key × D)} (h : S[n]? = some (.dct kvs)) : W (fIsi "dict" (.ref n) S) Q E = Q (.bl true) S := W_isi (t := "dict") (by show tyO S[n]? = _; rw [h]; rfl) (by decide +kernel)
theorem W_taken_maps {d : D} {st : Sett} (k : SetOk st) (h : GivM S d st.maps) (hq : ∀ S' m, Ext S S' → S'[m]? = some (.dct (kdM st.maps)) → Q (.ref m) S') : W (m_taken_maps [d, .int st.size] S) Q E := by
  unfold m_taken_maps
  rcases h with ⟨rfl, hm⟩ | ⟨n, ms', rfl, hn, hp⟩
  · simp_arith []
    refine hq _ _ Ext.app ?_
    rw [hm]
    exact at_end
  · have kl := kdM_keys st.maps
    have s4 := k.s4
    have ml := k.ml
    have hl : (st.maps.map (·.1)).length < 64 := by rw [List.length_map]; omega
    simp_arith []
    rw [W_isi_dct hn]
    simp_arith []
    have hpp : (kdM ms').Perm (kdM st.maps) := hp.map _
    obtain ⟨os, ho1, ho2, ho3⟩ := sort_perm hpp kl k.ms
    rw [W_frL (oSorted_dct hn ho1 (by omega)), ho3]
    simp_arith []
    refine k_for (lst_L _) (by rw [List.length_map, List.length_map]; unfold BIG; omega) (fun i ρ S' => S' = S ∧ ∃ a, ρ = [some (.ref n), some (.int st.size), a]) ⟨rfl, _, rfl⟩ (fun i y ρ S' hi hI => ?_) fun ρ S' hI => ?_
    · obtain ⟨rfl, a, rfl⟩ := hI
      rw [List.getElem?_map, List.getElem?_map] at hi
      cases hp : st.maps[i]? with
      | none => rw [hp] at hi; cases hi
      | some p =>
        rw [hp] at hi
        cases hi
        have hpm := List.mem_of_getElem? hp
        obtain ⟨m1, m2⟩ := k.mm p hpm
        have hv : alook (kdM ms') (.inr p.1) = some (rowD p.2) := alook_perm hpp (i := i) (by rw [kl]; exact nodup_inr k.md) (by unfold kdM; rw [List.getElem?_map, hp]; rfl)
        simp_arith []
        refine W_is_name (k.mn p hpm) ?_
        simp_arith []
        rw [W_ixDK hn rfl hv]
        simp_arith []
        refine W_is_map m1 (by omega) m2 ?_
        simp_arith []
        exact ⟨trivial, _, rfl⟩
    · obtain ⟨rfl, a, rfl⟩ := hI
      simp only [k_seq_nx, W_ret]
      refine W_copy hn hpp kl k.ms k.md hl fun S' he h2 => ?_
      simp_arith []
      exact hq S' _ he h2
theorem W_taken_asks {d : D} {st : Sett} (k : SetOk st) (h : GivA S d st.asks) (hq : ∀ S' m, Ext S S' → S'[m]? = some (.dct (kdA st.asks)) → Q (.ref m) S') : W (m_taken_asks [d, .int st.size] S) Q E := by
  unfold m_taken_asks
  rcases h with ⟨rfl, hm⟩ | ⟨n, ms', rfl, hn, hp⟩
  · simp_arith []
    refine hq _ _ Ext.app ?_
    rw [hm]
    exact at_end
  · have kl := kdA_keys st.asks
    have s4 := k.s4
    have al := k.al
    have hl : (st.asks.map (·.1)).length < 64 := by rw [List.length_map]; omega
    simp_arith []
    rw [W_isi_dct hn]
    simp_arith []
    have hpp : (kdA ms').Perm (kdA st.asks) := hp.map _
    obtain ⟨os, ho1, ho2, ho3⟩ := sort_perm hpp kl k.as
    rw [W_frL (oSorted_dct hn ho1 (by omega)), ho3]
    simp_arith []
    refine k_for (lst_L _) (by rw [List.length_map, List.length_map]; unfold BIG; omega) (fun i ρ S' => S' = S ∧ ∃ a, ρ = [some (.ref n), some (.int st.size), a]) ⟨rfl, _, rfl⟩ (fun i y ρ S' hi hI => ?_) fun ρ S' hI => ?_
    · obtain ⟨rfl, a, rfl⟩ := hI
      rw [List.getElem?_map, List.getElem?_map] at hi
      cases hp : st.asks[i]? with
      | none => rw [hp] at hi; cases hi
      | some p =>
        rw [hp] at hi
        cases hi
        have hpm := List.mem_of_getElem? hp
        obtain ⟨m1, m2⟩ := k.am p hpm
        have hv : alook (kdA ms') (.inr p.1) = some (askD p.2) := alook_perm hpp (i := i) (by rw [kl]; exact nodup_inr k.ad) (by unfold kdA; rw [List.getElem?_map, hp]; rfl)
        simp_arith []
        refine W_is_name (k.an p hpm) ?_
        simp_arith []
        rw [W_ixDK hn rfl hv]
        simp_arith []
        refine W_fault m1 m2 (by omega) ?_
        rw [if_pos rfl]
        simp_arith []
        exact ⟨trivial, _, rfl⟩
    · obtain ⟨rfl, a, rfl⟩ := hI
      simp only [k_seq_nx, W_ret]
      refine W_copy hn hpp kl k.as k.ad hl fun S' he h2 => ?_
      simp_arith []
      exact hq S' _ he h2
theorem W_require_size {QD : D → Store → Prop} {n : Int} (h1 : 1 ≤ n) (h2 : n ≤ 4) (hq : QD .non S) : W (m_require_size [.int n] S) QD E := by
  unfold m_require_size
  simp_arith []
  rw [W_is_integer, show inR n 1 4 = true by unfold inR; rw [decide_eq_true h1, decide_eq_true h2]; rfl]
  simp_arith []
  exact hq
/-- Setting(size, maps, asks, turning) of right arguments -/
theorem k_Setting {st : Sett} {dm da : D} (k : SetOk st) (hm : GivM S dm st.maps) (ha : GivA S da st.asks) (hq : ∀ S' n, Ext S S' → SetAt S' n st → Q (.ref n) S') :
    kMake Q E "Setting" m_Setting__init [] [.int st.size, dm, da, .bl st.turning] S := by
  rw [k_make]
  unfold m_Setting__init
  have e0 : Ext S (S ++ [O.ins "Setting" []]) := Ext.app
  have h0 : (S ++ [O.ins "Setting" []])[S.length]? = some (.ins "Setting" []) := at_end
  generalize hn : S.length = n at h0 ⊢
  generalize S ++ [O.ins "Setting" []] = S0 at e0 h0 ⊢
  simp_arith []
  refine W_require_size k.s1 k.s4 ?_
  simp_arith []
  rw [k_fldS2 h0 (by decide)]
  simp_arith []
  have e1 : Ext S (S0.set n (.ins "Setting" (fput "size" (.int st.size) []))) := e0.set (Nat.le_of_eq hn)
  have h1 := set_at (o := O.ins "Setting" (fput "size" (.int st.size) [])) h0
  generalize S0.set n (.ins "Setting" (fput "size" (.int st.size) [])) = S1 at e1 h1 ⊢
  refine W_taken_maps k (hm.ext e1) fun S2 nm e2 h2 => ?_
  simp_arith []
  rw [k_fldS2 (e2.at h1) (Nat.lt_of_le_of_lt fput_len (by decide))]
  simp_arith []
  have e3 : Ext S (S2.set n (.ins "Setting" (fput "own_maps" (.ref nm) (fput "size" (.int st.size) [])))) := (e1.trans e2).set (Nat.le_of_eq hn)
  have h3 := set_at (o := O.ins "Setting" (fput "own_maps" (.ref nm) (fput "size" (.int st.size) []))) (e2.at h1)
  have h2' : (S2.set n (.ins "Setting" (fput "own_maps" (.ref nm) (fput "size" (.int st.size) []))))[nm]? = some (.dct (kdM st.maps)) := by
    rw [List.getElem?_set_ne (ne_at (e2.at h1) h2 (fun z => nomatch z))]
    exact h2
  generalize S2.set n (.ins "Setting" (fput "own_maps" (.ref nm) (fput "size" (.int st.size) []))) = S3 at e3 h3 h2' ⊢
  refine W_taken_asks k (ha.ext e3) fun S4 na e4 h4 => ?_
  simp_arith []
  rw [k_fldS2 (e4.at h3) (Nat.lt_of_le_of_lt (Nat.le_trans fput_len (Nat.add_le_add_right fput_len 1)) (by decide))]
  simp_arith []
  have e5 : Ext S (S4.set n (.ins "Setting" (fput "own_asks" (.ref na) (fput "own_maps" (.ref nm) (fput "size" (.int st.size) []))))) := (e3.trans e4).set (Nat.le_of_eq hn)
  have h5 := set_at (o := O.ins "Setting" (fput "own_asks" (.ref na) (fput "own_maps" (.ref nm) (fput "size" (.int st.size) [])))) (e4.at h3)
  have h2'' : (S4.set n (.ins "Setting" (fput "own_asks" (.ref na) (fput "own_maps" (.ref nm) (fput "size" (.int st.size) [])))))[nm]? = some (.dct (kdM st.maps)) := by
    rw [List.getElem?_set_ne (ne_at (e4.at h3) (e4.at h2') (fun z => nomatch z))]
    exact e4.at h2'
  have h4' : (S4.set n (.ins "Setting" (fput "own_asks" (.ref na) (fput "own_maps" (.ref nm) (fput "size" (.int st.size) [])))))[na]? = some (.dct (kdA st.asks)) := by
    rw [List.getElem?_set_ne (ne_at (e4.at h3) h4 (fun z => nomatch z))]
    exact h4
  generalize S4.set n (.ins "Setting" (fput "own_asks" (.ref na) (fput "own_maps" (.ref nm) (fput "size" (.int st.size) [])))) = S5 at e5 h5 h2'' h4' ⊢
  rw [k_fldS2 h5 (Nat.lt_of_le_of_lt (Nat.le_trans fput_len (Nat.add_le_add_right (Nat.le_trans fput_len (Nat.add_le_add_right fput_len 1)) 1)) (by decide))]
  have e6 : Ext S (S5.set n (.ins "Setting" (fput "turning" (.bl st.turning) (fput "own_asks" (.ref na) (fput "own_maps" (.ref nm) (fput "size" (.int st.size) [])))))) := e5.set (Nat.le_of_eq hn)
  simp only [k_def_nx, k_made]
  refine hq _ _ e6 ⟨nm, na, ?_, ?_, ?_⟩
  · rw [set_at h5]
    rfl
  · rw [List.getElem?_set_ne (ne_at h5 h2'' (fun z => nomatch z))]
    exact h2''
  · rw [List.getElem?_set_ne (ne_at h5 h4' (fun z => nomatch z))]
    exact h4'
/-! ### a setting that is made -/
theorem fs_size {st : Sett} {nm na : Nat} : (setFs st nm na).lookup ("size" : Str) = some (.int st.size) := rfl
theorem fs_maps {st : Sett} {nm na : Nat} : (setFs st nm na).lookup ("own_maps" : Str) = some (.ref nm) := rfl
theorem fs_asks {st : Sett} {nm na : Nat} : (setFs st nm na).lookup ("own_asks" : Str) = some (.ref na) := rfl
theorem fs_turning {st : Sett} {nm na : Nat} : (setFs st nm na).lookup ("turning" : Str) = some (.bl st.turning) := rfl
theorem W_require_setting {QD : D → Store → Prop} {n : Nat} {st : Sett} (h : SetAt S n st) (hq : QD .non S) : W (m_require_setting [.ref n] S) QD E := by
  obtain ⟨nm, na, h1, h2, h3⟩ := h
  unfold m_require_setting
  simp_arith []
  rw [W_isiC h1]
  simp_arith []
  exact hq
theorem deeds_list {st : Sett} : (kdM st.maps).map (fun kv => keyD kv.1) = (namesM st).map D.str := by
  unfold kdM namesM
  rw [List.map_map, List.map_map]
  rfl
theorem W_deeds {n : Nat} {st : Sett} (k : SetOk st) (h : SetAt S n st) (hq : Q (.tup ((deedsL st).map .str)) S) : W (m_Setting__deeds [.ref n] S) Q E := by
  obtain ⟨nm, na, h1, h2, h3⟩ := h
  have ml := k.ml
  have hl : (namesM st).length ≤ 4 := by unfold namesM; rw [List.length_map]; exact ml
  unfold m_Setting__deeds
  simp_arith []
  rw [W_fld h1 fs_maps]
  simp_arith []
  rw [W_frL (lList_dct h2), deeds_list]
  simp_arith []
  rw [W_fld h1 fs_turning]
  unfold deedsL at hq
  cases ht : st.turning with
  | true =>
    rw [ht, if_pos rfl] at hq
    simp_arith []
    rw [W_mulL (by decide) (by decide) (by decide)]
    simp_arith []
    rw [show (List.replicate (Int.toNat 1) [D.str "turn"]).flatten = [D.str "turn"] from rfl, W_addL (by rw [List.length_map]; show _ + 1 ≤ _; unfold sizeLine; omega)]
    simp_arith []
    rw [W_frL (oSorted_strs (ns := namesM st ++ [("turn" : Str)]) (by rw [List.map_append]; rfl) (by rw [List.length_append]; show _ + 1 < _; omega))]
    simp_arith []
    exact hq
  | false =>
    rw [ht, if_neg Bool.false_ne_true, List.append_nil] at hq
    simp_arith []
    rw [W_mulL (by decide) (by decide) (by decide)]
    simp_arith []
    rw [show (List.replicate (Int.toNat 0) [D.str "turn"]).flatten = [] from rfl, W_addL (by rw [List.length_map]; show _ + 0 ≤ _; unfold sizeLine; omega)]
    simp_arith []
    rw [W_frL (oSorted_strs (ns := namesM st) (by rfl) (by omega))]
    simp_arith []
    exact hq
theorem lk_none {x : Str} {st : Sett} {nm na : Nat} (h : x ≠ "size" ∧ x ≠ "own_maps" ∧ x ≠ "own_asks" ∧ x ≠ "turning") : (setFs st nm na).lookup x = none := by
  unfold setFs
  simp only [List.lookup_cons, beq_eq_false_iff_ne.mpr h.1, beq_eq_false_iff_ne.mpr h.2.1, beq_eq_false_iff_ne.mpr h.2.2.1, beq_eq_false_iff_ne.mpr h.2.2.2]
  rfl
theorem W_has_deed {n : Nat} {st : Sett} {x : Str} (k : SetOk st) (h : SetAt S n st) (hq : Q (.bl (decide (x ∈ deedsL st))) S) : W (m_Setting__has_deed [.ref n, .str x] S) Q E := by
  have h' := h
  obtain ⟨nm, na, h1, h2, h3⟩ := h'
  unfold m_Setting__has_deed
  simp_arith []
  rw [k_prop h1]
  refine W_deeds k h ?_
  simp_arith []
  rw [W_inT]
  simp_arith []
  exact hq
def actOn (st : Sett) (x : Str) (r : List Int) : List Int := if x = "turn" then r.reverse else r.map fun v => (mapOf st x).getD v.toNat 0
theorem length_actOn {st : Sett} {x : Str} {r : List Int} : (actOn st x r).length = r.length := by
  unfold actOn
  split
  · exact List.length_reverse
  · exact List.length_map _
def RowOk (st : Sett) (r : List Int) : Prop := ∀ v ∈ r, 0 ≤ v ∧ v < st.size
theorem getD_mem {m : List Int} {v n : Int} (hl : (m.length : Int) = n) (h0 : 0 ≤ v) (h1 : v < n) : m.getD v.toNat 0 ∈ m := by
  have hi : v.toNat < m.length := by omega
  rw [List.getD_eq_getElem?_getD, List.getElem?_eq_getElem hi]
  exact List.getElem_mem hi
theorem RowOk.act {st : Sett} (k : SetOk st) {x : Str} {r : List Int} (hx : x ∈ deedsL st) (h : RowOk st r) : RowOk st (actOn st x r) := by
  unfold actOn
  rcases k.deed hx with ⟨rfl, _⟩ | ⟨h1, h2⟩
  · rw [if_pos rfl]
    exact fun v hv => h v (List.mem_reverse.mp hv)
  · rw [if_neg h1]
    obtain ⟨_, hl, hv⟩ := k.map h2
    intro v hv'
    obtain ⟨u, hu, rfl⟩ := List.mem_map.mp hv'
    obtain ⟨a, b⟩ := h u hu
    exact hv _ (getD_mem hl a b)
end
end MM

/-! What the law's draws come to. -/
namespace MM
open PySem L2 PyProof.Rows
local macro_rules | `(tactic| simp_arith [$ts,*]) => `(tactic| simp -implicitDefEqProofs only [W_ok, W_var, k_var, W_c, W_op, k_op1, k_op2, W_un, k_un, W_nil, W_cons, k_cons1, k_cons2, W_call, k_call, W_tup, k_tup, W_lst, k_lst, W_lstS, k_lstS, W_seq, k_seq_nx, k_seq_rt, k_seq_bk, k_seq_ct, W_expr, k_expr, W_ret, k_ret, W_retN, W_nx, W_bk, W_ct, W_if, k_if_t, k_if_f, W_ifE, k_ifE_t, k_ifE_f, W_b, k_b, W_andT, k_andT_t, k_andT_f, W_orT, k_orT_t, k_orT_f, W_notT, k_notT, W_yes, W_andV, k_andV_t, k_andV_f, W_orV, k_orV_t, k_orV_f, W_notV, k_notV, W_cmpC, k_cmp1, k_cmp2, k_cmp3_t, k_cmp3_f, W_asg, k_asg, k_asg2, W_gN, W_gsNil, W_gsCons, k_gs, W_gTp, W_gIx, k_ix1, W_for, W_lc, W_lcS, W_next, W_miA, k_it_tup, k_it_lst, k_it_frz, W_def, k_def_rt, k_def_nx, W_callK, k_CK1, k_CK2, perm, List.filterMap_cons, List.filterMap_nil, and_self, W_f2I, W_addI, W_int, W_2L, W_is, W_lenT, W_lenL, W_lenF, W_tupleT, W_tupleL, W_tupleF, k_body, k_loop_nx, k_loop_ct, k_loop_bk, k_loop_rt, k_lc1, k_lc2_t, k_lc2_f, List.map_cons, List.map_nil, List.length_cons, List.length_nil, List.reduceReplicate, Nat.reduceSub, Nat.reduceAdd, Int.reduceAdd, Int.reduceSub, Int.reduceMul, Int.reduceNeg, Int.reduceLT, Int.reduceLE, Int.reduceEq, Int.cast_ofNat_Int, Int.natCast_zero, Int.natCast_one, eq_self, decide_true, decide_false, Bool.and_true, Bool.true_and, Bool.false_and, Bool.and_false, Nat.zero_add, List.replicate_zero, List.replicate_succ, List.cons_append, List.nil_append, List.append_nil, List.getElem?_cons_zero, List.getElem?_cons_succ, List.set_cons_zero, List.set_cons_succ, wipeD, Bool.not_true, Bool.not_false, if_true, if_false, reduceIte, isNon, Bool.false_eq_true, k_el, W_E, k_en_tup, k_en_lst, isi_int_i, isi_int_b, isi_int_n, isi_int_s, isi_int_t, isi_int_l, isi_bool_i, isi_bool_b, isi_bool_n, isi_bool_s, isi_bool_t, isi_bool_l, isi_tuple_i, isi_tuple_b, isi_tuple_n, isi_tuple_s, isi_tuple_t, isi_tuple_l, isi_list_i, isi_list_b, isi_list_n, isi_list_s, isi_list_t, isi_list_l, W_eq2I, W_intB, k_R1_eq, k_R2_eq, W_R1q, W_ixDT, W_ixDL, W_ixDF, k_opt, atI_lit, W_gTpT, W_gTpL, W_noPart, W_part, k_part, W_sl, k_sl1, k_sl2, k_sl3T, k_sl3L, W_revT, W_revL, W_meth, k_meth2, W_prop, W_make, k_make, k_made, W_sFld, k_fldS1, W_app, W_bits, W_gSt, k_st1, W_gSl, k_gsl1, k_gsl2, W_rgT, W_rgL, W_rgS, W_rg1, k_rg1, W_miS, k_itS, W_E2, k_en2_tup, k_en2_lst, k_en2_frz, W_par, k_par, W_par3, k_par3, W_dct0, W_disp, W_pnil, W_pcons, k_ps1, k_ps2, k_ps3, W_dc, k_dc1, k_dc2_t, k_dc2_f, k_dc3, k_dc4, isi_str_i, isi_str_b, isi_str_n, isi_str_s, isi_str_t, isi_str_l, $ts,*])
local macro_rules | `(tactic| simp_arith) => `(tactic| simp_arith [])
section
set_option maxHeartbeats 1000000
variable {Q : D → Store → Prop} {E : Er → Store → Prop} {S : Store}
theorem W_mixed {y z : Int} (hy : 0 ≤ y) (hy2 : y < 2147483647) (hz : 0 ≤ z) (hz2 : z < 2 ^ 60) : W (m__law_mixed [.int y, .int z] S) (fun d S' => ∃ r, d = .int r ∧ 0 ≤ r ∧ r < 2147483587 ∧ S' = S) E := by
  unfold m__law_mixed
  have l1 := log2_lt (k := 31) hy (by omega) (by decide)
  have l2 := log2_lt (k := 60) hz (by omega) (by decide)
  have n1 : (1103515245 : Int).natAbs.log2 < 40 := by decide +kernel
  have n2 : (7919 : Int).natAbs.log2 < 40 := by decide +kernel
  have n3 : (48271 : Int).natAbs.log2 < 40 := by decide +kernel
  have l3 : (7919 * z).natAbs.log2 < 100 := log2_lt (by omega) (by omega) (by decide)
  simp_arith []
  rw [W_mulI (by omega)]
  simp_arith []
  rw [W_mulI (by omega)]
  simp_arith []
  rw [W_mulI (by omega)]
  simp_arith []
  rw [W_f2Ic (by decide +kernel)]
  simp_arith []
  generalize hq : (y * 1103515245 + 7919 * z * z + z + 1) % 2147483647 = q
  have q0 : 0 ≤ q := by omega
  have q1 : q < 2147483647 := by omega
  have l4 := log2_lt (k := 31) q0 (by omega) (by decide)
  rw [W_mulI (by omega)]
  simp_arith []
  rw [W_f2Ic (by decide +kernel)]
  simp_arith []
  generalize hp : (q * q + 69621) % 2147483629 = p
  have p0 : 0 ≤ p := by omega
  have p1 : p < 2147483629 := by omega
  have l5 := log2_lt (k := 31) p0 (by omega) (by decide)
  rw [W_mulI (by omega)]
  simp_arith []
  rw [W_f2Ic (by decide +kernel)]
  exact ⟨_, rfl, by omega, by omega, rfl⟩
theorem bits_small {k : Int} (k0 : 0 < k) (k1 : k < 2 ^ 29) : ((Builtin.Int.intBits k : Nat) : Int) / 30 = 0 := by
  have h := log2_lt (k := 29) (Int.le_of_lt k0) k1 (by decide)
  have : Builtin.Int.intBits k = k.natAbs.log2 + 1 := by
    unfold Builtin.Int.intBits
    rw [if_neg (by simp; omega)]
  rw [this]
  omega
theorem W_draw {n : Nat} {b k : Int} (h : Pu S n b) (hb : b < 2 ^ 50) (k0 : 0 < k) (k1 : k < 2 ^ 29) : W (m__law_draw [.ref n, .int k] S) (fun d S' => ∃ r, d = .int r ∧ 0 ≤ r ∧ r < k ∧ PW n S (b + 1) S') E := by
  obtain ⟨x, y, z, h1, h2, h3, h4, h5, h6⟩ := h
  have hl : S[n]? = some (.lst [.int x, .int y, .int z]) := h1
  have lk := log2_lt (k := 60) (Int.le_of_lt k0) (by omega) (by decide)
  unfold m__law_draw
  simp_arith []
  rw [W_ixDS hl]
  simp_arith []
  by_cases hx : 0 < x
  · simp_arith [hx]
    rw [W_ixDS hl]
    simp_arith []
    rw [W_f2Ic (decide_eq_true k0)]
    simp_arith []
    rw [W_ixDS hl]
    simp_arith []
    rw [W_f2Ic (decide_eq_true ⟨k0, Nat.lt_trans lk (by decide)⟩)]
    simp_arith []
    rw [k_st2L (j := 0) hl rfl]
    simp_arith []
    exact ⟨_, rfl, Int.emod_nonneg _ (by omega), Int.emod_lt_of_pos _ k0, ⟨_, y, z, set_at hl, Int.ediv_nonneg h2 (by omega), h3, h4, h5, by omega⟩, Fr.set⟩
  · simp_arith [hx]
    rw [W_floor (by decide) (by decide)]
    simp_arith []
    rw [bits_small k0 k1]
    simp_arith []
    refine ⟨by decide, by decide, ?_⟩
    refine k_for (lst_R _ _) (by rw [length_rangeD]; decide) (fun i ρ S' => ∃ v c, ρ = [some (.ref n), some (.int k), some (.int v), c, none] ∧ 0 ≤ v ∧ (i = 0 → v = 0 ∧ S' = S) ∧ i ≤ 1 ∧ PW n S (b + i) S') ⟨0, none, rfl, by decide, fun _ => ⟨rfl, rfl⟩, by omega, ⟨x, y, z, hl, h2, h3, h4, h5, by omega⟩, Fr.refl⟩ (fun i d ρ S' hi hI => ?_) (fun ρ S' hI => ?_)
    · obtain ⟨v, c, rfl, hv0, hv, hi1, hpw⟩ := hI
      obtain ⟨hlt, rfl⟩ := rangeD_get hi
      have hi0 : i = 0 := by have : i < 1 := hlt; omega
      subst hi0
      obtain ⟨rfl, rfl⟩ := hv rfl
      simp_arith []
      rw [W_ixDS hl]
      simp_arith []
      rw [k_st2L (j := 2) hl rfl]
      simp_arith []
      have hl2 : (S'.set n (.lst [.int x, .int y, .int (z + 1)]))[n]? = some (.lst [.int x, .int y, .int (z + 1)]) := set_at hl
      rw [W_mulI (by decide +kernel)]
      simp_arith []
      rw [W_ixDS hl2]
      simp_arith []
      rw [W_ixDS hl2]
      simp_arith []
      refine (W_mixed (E := E) h3 h4 (by omega) (by omega)).mono fun d S1 h => ?_
      obtain ⟨r, rfl, r0, r1, rfl⟩ := h
      simp_arith []
      refine ⟨_, _, rfl, by omega, fun z => absurd z (by omega), by omega, ⟨x, y, z + 1, set_at hl, h2, h3, h4, by omega, by omega⟩, Fr.set⟩
    · obtain ⟨v, c, rfl, hv0, _, _, hpw⟩ := hI
      rw [length_rangeD] at hpw
      simp_arith []
      rw [W_f2Ic (decide_eq_true k0)]
      simp_arith []
      exact ⟨_, rfl, Int.emod_nonneg _ (by omega), Int.emod_lt_of_pos _ k0, hpw.mono (by show b + 1 ≤ b + 1; omega)⟩
theorem atI_int {ns : List Int} {i : Int} (h0 : 0 ≤ i) (h1 : i < ns.length) : ∃ c, c ∈ ns ∧ atI (ns.map D.int) i = some (.int c) := by
  have hi : i.toNat < ns.length := by omega
  refine ⟨ns[i.toNat], List.getElem_mem hi, ?_⟩
  rw [atI_of h0, List.getElem?_map, List.getElem?_eq_getElem hi]
  rfl
theorem W_purse {ns : List Int} {i : Int} (h0 : 0 ≤ i) (h1 : i < 1000000) : W (m__law_purse [.frz (ns.map .int), .int i] S) (fun d S' => ∃ o, d = .ref S.length ∧ S' = S ++ [o] ∧ Pu S' S.length (1000 * i)) E := by
  unfold m__law_purse
  have p1 : (decide ((0:Int) ≤ 18 ∧ (Builtin.Int.intBits 10 : Int) * 18 ≤ 2 ^ 27)) = true := by decide +kernel
  have p2 : (decide ((0:Int) ≤ 60 ∧ (Builtin.Int.intBits 10 : Int) * 60 ≤ 2 ^ 27)) = true := by decide +kernel
  have p3 : (decide ((0:Int) ≤ 10 ∧ (Builtin.Int.intBits (10 ^ Int.toNat 60) : Int) * 10 ≤ 2 ^ 27)) = true := by decide +kernel
  have p4 : (decide ((0 : Int) < (10 ^ Int.toNat 60) ^ Int.toNat 10)) = true := by decide +kernel
  have n1 : (1000 : Int).natAbs.log2 < 40 := by decide +kernel
  have n2 := log2_lt (k := 60) h0 (by omega) (by decide)
  have at_ : ∀ {QD : D → Store → Prop}, (∀ c : Int, QD (.int c) S) → W (m__law_at [.frz (ns.map .int), .int i] S) QD E := fun {QD} hq => by
    unfold m__law_at
    simp_arith [W_if, List.length_map]
    by_cases hi : i < ns.length
    · obtain ⟨c, _, hc⟩ := atI_int h0 hi
      simp_arith [hi, hc]
      exact hq c
    · simp_arith [hi]
      exact hq 0
  simp_arith []
  refine at_ fun c => ?_
  simp_arith []
  rw [W_f2Ic p1]
  simp_arith []
  rw [W_f2Ic p2]
  simp_arith []
  rw [W_f2Ic p3]
  simp_arith []
  rw [W_f2Ic p4]
  simp_arith []
  rw [W_f2Ic (by decide +kernel)]
  simp_arith []
  rw [W_mulI (by omega)]
  simp_arith []
  refine ⟨_, by trivial, rfl, _, _, _, at_end (o := pu _ _ _), ?_, ?_, ?_, ?_, Int.le_refl _⟩
  · exact Int.emod_nonneg _ (Int.ne_of_gt (of_decide_eq_true p4))
  · exact Int.emod_nonneg _ (by decide)
  · exact Int.emod_lt_of_pos _ (by decide)
  · omega
theorem W_drawP {n : Nat} {S0 : Store} {b k : Int} (h : PW n S0 b S) (hb : b < 2 ^ 50) (k0 : 0 < k) (k1 : k < 2 ^ 29) : W (m__law_draw [.ref n, .int k] S) (fun d S' => ∃ r, d = .int r ∧ 0 ≤ r ∧ r < k ∧ PW n S0 (b + 1) S') E :=
  (W_draw h.1 hb k0 k1).mono fun d S' ⟨r, h1, h2, h3, h4⟩ => ⟨r, h1, h2, h3, h.trans h4⟩
theorem W_machine {n : Nat} {S0 : Store} {b wide most : Int} (h : PW n S0 b S) (hb : b < 2 ^ 40) (w0 : 0 ≤ wide) (w1 : wide ≤ 100) (m0 : 0 < most) (m1 : most ≤ 1000) :
    W (m__law_machine [.ref n, .int wide, .int most] S) (fun d S' => ∃ s rows ans, d = machD s rows ans ∧ Mach wide s rows ans ∧ (rows.length : Int) ≤ most ∧ PW n S0 (b + (2 + most * (wide + 1))) S') E := by
  unfold m__law_machine
  simp_arith []
  refine (W_drawP h (by omega) m0 (by omega)).mono fun d S1 h1 => ?_
  obtain ⟨r, rfl, r0, r1, h1⟩ := h1
  simp_arith []
  refine ⟨by omega, by omega, ?_⟩
  generalize hmany : (1 + r) = many
  have e1 : many * wide ≤ most * wide := Int.mul_le_mul_of_nonneg_right (by omega) w0
  have e0 : 0 ≤ many * wide := Int.mul_nonneg (by omega) w0
  have e2 : most * wide ≤ 1000 * 100 := Int.mul_le_mul m1 w1 w0 (by omega)
  have e3 : most * (wide + 1) = most * wide + most := by rw [Int.mul_add, Int.mul_one]
  have lm : (((rangeD 0 many.toNat).length : Nat) : Int) = many := by rw [length_rangeD]; omega
  refine k_draws (lst_R _ _) (by rw [length_rangeD]; unfold sizeLine; omega) (fun y => ∃ r : List Int, y = rowD r ∧ (r.length : Int) = wide ∧ ∀ v ∈ r, 0 ≤ v ∧ v < many) (c := wide) w0 (fun d S2 b' h2 hb1 hb2 => ?_) h1 (fun ys S2 hl hy h2 => ?_)
  · rw [lm] at hb2
    simp_arith []
    refine ⟨by omega, by omega, ?_⟩
    refine k_draws (lst_R _ _) (by rw [length_rangeD]; unfold sizeLine; omega) (fun y => ∃ r, y = .int r ∧ 0 ≤ r ∧ r < many) (c := 1) (by decide) (fun d S3 b'' h3 hb3 hb4 => ?_) h2 (fun zs S3 hl hz h3 => ?_)
    · rw [length_rangeD] at hb4
      simp_arith []
      refine (W_drawP h3 (by omega) (by omega) (by omega)).mono fun d S4 h4 => ?_
      obtain ⟨q, rfl, q0, q1, h4⟩ := h4
      exact ⟨⟨q, rfl, q0, q1⟩, h4⟩
    · obtain ⟨qs, rfl, hq⟩ := ints_of hz
      rw [length_rangeD] at hl h3
      rw [List.length_map] at hl
      simp_arith []
      exact ⟨⟨qs, rfl, by omega, hq⟩, h3.mono (by omega)⟩
  · obtain ⟨rows, rfl, hr⟩ := rows_of (P := fun r => (r.length : Int) = wide ∧ ∀ v ∈ r, 0 ≤ v ∧ v < many) hy
    rw [lm] at h2
    rw [length_rangeD, List.length_map] at hl
    simp_arith []
    refine (W_drawP h2 (by omega) (by omega) (by omega)).mono fun d S4 h4 => ?_
    obtain ⟨s, rfl, s0, s1, h4⟩ := h4
    simp_arith []
    refine ⟨by omega, by omega, ?_⟩
    refine k_draws (lst_R _ _) (by rw [length_rangeD]; unfold sizeLine; omega) (fun y => ∃ r, y = .int r ∧ 0 ≤ r ∧ r ≤ 99) (c := 1) (by decide) (fun d S5 b'' h5 hb3 hb4 => ?_) h4 (fun zs S5 hl2 hz h5 => ?_)
    · rw [length_rangeD] at hb4
      simp_arith []
      refine (W_drawP h5 (by omega) (by decide) (by decide)).mono fun d S6 h6 => ?_
      obtain ⟨q, rfl, q0, q1, h6⟩ := h6
      have : q = 0 ∨ q = 1 ∨ q = 2 ∨ q = 3 := by omega
      rcases this with rfl | rfl | rfl | rfl
      · simp_arith []
        exact ⟨⟨0, rfl, by decide, by decide⟩, h6⟩
      · simp_arith []
        exact ⟨⟨1, rfl, by decide, by decide⟩, h6⟩
      · simp_arith []
        exact ⟨⟨2, rfl, by decide, by decide⟩, h6⟩
      · simp_arith []
        exact ⟨⟨99, rfl, by decide, by decide⟩, h6⟩
    · obtain ⟨qs, rfl, hq⟩ := ints_of (P := fun r => 0 ≤ r ∧ r ≤ 99) hz
      rw [length_rangeD] at hl2 h5
      rw [List.length_map] at hl2
      simp_arith []
      refine ⟨s, rows, qs, rfl, ⟨fun r hr' => (hr r hr').1, fun r hr' v hv => ?_, s0, by omega, by omega, fun a ha => ?_⟩, by omega, h5.mono (by omega)⟩
      · have := (hr r hr').2 v hv
        omega
      · have := hq a ha
        omega
/-! ### a drawn setting -/
/-- what _law_own hands back -/
def OwnAt (S : Store) (d : D) (st : Sett) : Prop := ∃ nm na ra, d = .lst [.int st.size, .ref nm, .ref na, .bl st.turning] ∧ S[nm]? = some (.dct (kdM st.maps)) ∧ S[na]? = some (.dct (kdA ra)) ∧ ra.Perm st.asks
theorem OwnAt.ext {d : D} {st : Sett} {S' : Store} (h : OwnAt S d st) (e : Ext S S') : OwnAt S' d st := by
  obtain ⟨nm, na, ra, h1, h2, h3, h4⟩ := h
  exact ⟨nm, na, ra, h1, e.at h2, e.at h3, h4⟩
theorem OwnAt.pw {m : Nat} {d : D} {st : Sett} {S' : Store} {b c : Int} (h : OwnAt S d st) (hp : Pu S m c) (e : PW m S b S') : OwnAt S' d st := by
  obtain ⟨nm, na, ra, h1, h2, h3, h5⟩ := h
  obtain ⟨x, y, z, h4, _⟩ := hp
  exact ⟨nm, na, ra, h1, e.at h2 (ne_at h2 h4 (fun z => nomatch z)), e.at h3 (ne_at h3 h4 (fun z => nomatch z)), h5⟩
theorem OwnAt.set {m : Nat} {d : D} {st : Sett} {ds es : List D} (h : OwnAt S d st) (hm : S[m]? = some (.lst ds)) : OwnAt (S.set m (.lst es)) d st := by
  obtain ⟨nm, na, ra, h1, h2, h3, h5⟩ := h
  have k : ∀ {j : Nat} {o : O}, S[j]? = some o → o ≠ .lst ds → (S.set m (.lst es))[j]? = some o := fun {j o} e d => by
    rw [List.getElem?_set_ne (Ne.symm (ne_at e hm d))]
    exact e
  exact ⟨nm, na, ra, h1, k h2 (fun z => nomatch z), k h3 (fun z => nomatch z), h5⟩
theorem rising_of : ∀ {l : List Str} {p : Str}, (p :: l).Pairwise (fun a b => leS a b = true) → risingS p l = true
  | [], p, _ => rfl
  | x :: l, p, h => by
    rw [List.pairwise_cons] at h
    unfold risingS
    rw [rising_of h.2]
    have := h.1 x List.mem_cons_self
    unfold leS leC at this
    rw [this]
    rfl
theorem sortedS_of : ∀ {l : List Str}, l.Pairwise (fun a b => leS a b = true) → sortedS l = true
  | [], _ => rfl
  | x :: l, h => by
    unfold sortedS
    exact rising_of h
theorem sort_by {α : Type} (xs : List (Str × α)) : ∃ ys, xs.Perm ys ∧ sortedS (ys.map (·.1)) = true := by
  refine ⟨xs.mergeSort fun p q => leS p.1 q.1, (List.mergeSort_perm _ _).symm, sortedS_of ?_⟩
  rw [List.pairwise_map]
  exact List.pairwise_mergeSort (le := fun p q : Str × α => leS p.1 q.1) (fun a b c h1 h2 => leC_trans _ _ _ h1 h2) (fun a b => leC_total _ _) xs
def menusM : List (List Str) := [["b", "flip", "zz"], ["a", "odd", "zz"], ["t", "tu", "turnip"]]
def menusA : List (List Str) := [["odd", "a", "longname"], ["o", "odd", "oddity"]]
theorem menuM_ok : ∀ L ∈ menusM, ∀ k ∈ [0, 1, 2, 3], (L.take k).all nameB = true ∧ sortedS (L.take k) = true ∧ (L.take k).Nodup ∧ (L.take k).length ≤ 3 := by decide +kernel
theorem menuA_ok : ∀ L ∈ menusA, ∀ k ∈ [0, 1, 2], (L.take k).all nameB = true ∧ (L.take k).Nodup ∧ (L.take k).length ≤ 3 := by decide +kernel
theorem mem_small {k : Nat} (h : k ≤ 3) : k ∈ [0, 1, 2, 3] := by
  have : k = 0 ∨ k = 1 ∨ k = 2 ∨ k = 3 := by omega
  rcases this with rfl | rfl | rfl | rfl <;> simp
theorem keys_new {α : Type} {xs : List (Str × α)} {L : List Str} {i : Nat} {x : Str} {f : Str × α → Key × D} (hf : ∀ p, (f p).1 = .inr p.1) (hx : xs.map (·.1) = L.take i) (hi : L[i]? = some x) (hn : L.Nodup) : ∀ kv ∈ xs.map f, kv.1 ≠ .inr x := fun kv hkv z => by
  obtain ⟨p, hp, rfl⟩ := List.mem_map.mp hkv
  rw [hf] at z
  have z' : p.1 = x := Sum.inr.inj z
  have hm : x ∈ L.take i := by
    rw [← hx, ← z']
    exact List.mem_map.mpr ⟨p, hp, rfl⟩
  obtain ⟨j, hj⟩ := List.mem_iff_getElem?.mp hm
  rw [List.getElem?_take] at hj
  split at hj
  · have e := (List.getElem?_inj (List.getElem?_eq_some_iff.mp hj).1 hn).mp (hj.trans hi.symm)
    omega
  · cases hj
theorem take_succ_map {α : Type} {xs : List (Str × α)} {L : List Str} {i : Nat} {x : Str} {y : α} (hx : xs.map (·.1) = L.take i) (hi : L[i]? = some x) : (xs ++ [(x, y)]).map (·.1) = L.take (i + 1) := by
  rw [List.map_append, hx, List.take_add_one, hi]
  rfl
theorem W_own {n : Nat} {S0 : Store} {b wide most : Int} (h : PW n S0 b S) (hb : b < 2 ^ 30) (w0 : 0 < wide) (w1 : wide ≤ 4) (m0 : 0 < most) (m1 : most ≤ 900) :
    W (m__law_own [.ref n, .int wide, .int most] S) (fun d S' => ∃ st, OwnAt S' d st ∧ SetOk st ∧ st.size ≤ wide ∧ (∀ p ∈ st.asks, (p.2.2.1.length : Int) ≤ most) ∧ PW n S0 (b + 100000) S') E := by
  have hn : n < S.length := by
    obtain ⟨⟨x, y, z, h1, _⟩, _⟩ := h
    exact (List.getElem?_eq_some_iff.mp h1).1
  have hS0 : S0.length ≤ S.length := h.2.1
  unfold m__law_own
  simp_arith []
  refine (W_drawP h (by omega) w0 (by omega)).mono fun d S1 h1 => ?_
  obtain ⟨r, rfl, r0, r1, h1⟩ := h1
  simp_arith []
  generalize hsz : (1 + r) = size
  have hn1 : n < S1.length := by
    obtain ⟨⟨x, y, z, q, _⟩, _⟩ := h1
    exact (List.getElem?_eq_some_iff.mp q).1
  have hS1 : S0.length ≤ S1.length := h1.2.1
  have eA : Ext S1 (S1 ++ [O.dct []] ++ [O.dct []]) := Ext.app.trans Ext.app
  have pA : PW n S0 (b + 1) (S1 ++ [O.dct []] ++ [O.dct []]) := h1.ext eA
  have am : (S1 ++ [O.dct []] ++ [O.dct []])[S1.length]? = some (.dct []) := (Ext.app (T := [O.dct []])).at at_end
  have aa : (S1 ++ [O.dct []] ++ [O.dct []])[(S1 ++ [O.dct []]).length]? = some (.dct []) := at_end
  have lm : S0.length ≤ S1.length := hS1
  have la : S0.length ≤ (S1 ++ [O.dct []]).length := by rw [List.length_append]; omega
  have nm : n ≠ S1.length := by omega
  have na : n ≠ (S1 ++ [O.dct []]).length := by rw [List.length_append]; omega
  have mna : S1.length ≠ (S1 ++ [O.dct []]).length := by rw [List.length_append]; show S1.length ≠ S1.length + 1; omega
  generalize hM : S1.length = kM at am nm lm mna ⊢
  generalize hA : (S1 ++ [O.dct []]).length = kA at aa na la mna ⊢
  generalize S1 ++ [O.dct []] ++ [O.dct []] = S2 at pA am aa ⊢
  refine (W_draw pA.1 (by omega) (by decide) (by decide)).mono fun d S3 h3 => ?_
  obtain ⟨mi, rfl, mi0, mi1, h3⟩ := h3
  have am3 := h3.at am (Ne.symm nm)
  have aa3 := h3.at aa (Ne.symm na)
  have p3 := pA.trans h3
  have hL : ∃ L ∈ menusM, [D.lst [.str "b", .str "flip", .str "zz"], D.lst [.str "a", .str "odd", .str "zz"], D.lst [.str "t", .str "tu", .str "turnip"]][mi.toNat]? = some (.lst (L.map .str)) := by
    have : mi = 0 ∨ mi = 1 ∨ mi = 2 := by omega
    rcases this with rfl | rfl | rfl
    · exact ⟨["b", "flip", "zz"], by simp [menusM], rfl⟩
    · exact ⟨["a", "odd", "zz"], by simp [menusM], rfl⟩
    · exact ⟨["t", "tu", "turnip"], by simp [menusM], rfl⟩
  obtain ⟨L, hLm, hL⟩ := hL
  simp_arith []
  rw [atI_of mi0, hL]
  simp_arith []
  refine (W_draw p3.1 (by omega) (by decide) (by decide)).mono fun d S4 h4 => ?_
  obtain ⟨k, rfl, k0, k1, h4⟩ := h4
  have am4 := h4.at am3 (Ne.symm nm)
  have aa4 := h4.at aa3 (Ne.symm na)
  have p4 := p3.trans h4
  obtain ⟨mn1, mn2, mn3, mn4⟩ := menuM_ok L hLm k.toNat (mem_small (by omega))
  simp_arith []
  rw [cutD_lo k0, ← List.map_take]
  generalize L.take k.toNat = K at mn1 mn2 mn3 mn4
  clear h3 h4 am3 aa3 p3 hL
  refine k_for (lst_L _) (by rw [List.length_map]; unfold BIG; omega) (fun i ρ S' => ∃ ms a b0, ρ = [some (.ref n), some (.int wide), some (.int most), some (.int size), a, b0, some (.ref kM), some (.ref kA), none] ∧ S'[kM]? = some (.dct (kdM ms)) ∧ S'[kA]? = some (.dct []) ∧ ms.map (·.1) = K.take i ∧ (∀ p ∈ ms, (p.2.length : Int) = size ∧ ∀ v ∈ p.2, 0 ≤ v ∧ v < size) ∧ PW n S0 (b + 1 + 1 + 1 + i * 10) S')
    ⟨[], _, _, rfl, am4, aa4, rfl, fun _ z => (List.not_mem_nil z).elim, p4.mono (by simp)⟩ (fun i d ρ S' hi hI => ?_) (fun ρ S' hI => ?_)
  · obtain ⟨ms, a, b0, rfl, i1, i2, i3, i4, i5⟩ := hI
    rw [List.getElem?_map] at hi
    cases hx : K[i]? with
    | none => rw [hx] at hi; cases hi
    | some x =>
      rw [hx] at hi
      cases hi
      have hil : i < K.length := (List.getElem?_eq_some_iff.mp hx).1
      simp_arith []
      refine ⟨by omega, by omega, ?_⟩
      refine k_draws (lst_R _ _) (by rw [length_rangeD]; unfold sizeLine; omega) (fun y => ∃ r, y = .int r ∧ 0 ≤ r ∧ r < size) (c := 1) (by decide) (fun d S5 b'' h5 hb3 hb4 => ?_) (PW.refl i5.1) (fun zs S5 hl hz h5 => ?_)
      · rw [length_rangeD] at hb4
        simp_arith []
        refine (W_drawP h5 (by omega) (by omega) (by omega)).mono fun d S6 h6 => ?_
        obtain ⟨q, rfl, q0, q1, h6⟩ := h6
        exact ⟨⟨q, rfl, q0, q1⟩, h6⟩
      · obtain ⟨qs, rfl, hq⟩ := ints_of (P := fun r => 0 ≤ r ∧ r < size) hz
        rw [length_rangeD] at hl h5
        rw [List.length_map] at hl
        have j1 := h5.at i1 (Ne.symm nm)
        have j2 := h5.at i2 (Ne.symm na)
        have j5 := i5.trans h5
        have hml : (kdM ms).length < sizeLine := by
          have := congrArg List.length i3
          rw [List.length_map, List.length_take] at this
          unfold kdM
          rw [List.length_map]
          unfold sizeLine
          omega
        simp_arith []
        rw [k_st2K j1 rfl hml]
        simp_arith []
        refine ⟨ms ++ [(x, qs)], _, _, rfl, ?_, ?_, take_succ_map i3 hx, fun p hp => ?_, (j5.set_new lm nm).mono (by omega)⟩
        · rw [set_at j1]
          unfold kdM
          rw [aput_new (keys_new (f := fun p => (.inr p.1, rowD p.2)) (fun _ => rfl) i3 hx mn3)]
          rw [List.map_append]
          rfl
        · rw [List.getElem?_set_ne mna]
          exact j2
        · rcases List.mem_append.mp hp with z | z
          · exact i4 p z
          · rw [List.mem_singleton.mp z]
            exact ⟨by show ((qs.length : Nat) : Int) = size; omega, hq⟩
  · obtain ⟨ms, a, b0, rfl, i1, i2, i3, i4, i5⟩ := hI
    rw [List.length_map] at i3 i5
    rw [List.take_length] at i3
    simp_arith []
    refine (W_draw i5.1 (by omega) (by decide) (by decide)).mono fun d S5 h5 => ?_
    obtain ⟨ai, rfl, ai0, ai1, h5⟩ := h5
    have hL2 : ∃ L ∈ menusA, [D.lst [.str "odd", .str "a", .str "longname"], D.lst [.str "o", .str "odd", .str "oddity"]][ai.toNat]? = some (.lst (L.map .str)) := by
      have : ai = 0 ∨ ai = 1 := by omega
      rcases this with rfl | rfl
      · exact ⟨["odd", "a", "longname"], by simp [menusA], rfl⟩
      · exact ⟨["o", "odd", "oddity"], by simp [menusA], rfl⟩
    obtain ⟨L2, hLm2, hL2⟩ := hL2
    simp_arith []
    rw [atI_of ai0, hL2]
    simp_arith []
    have p5 := i5.trans h5
    refine (W_draw p5.1 (by omega) (by decide) (by decide)).mono fun d S6 h6 => ?_
    obtain ⟨k2, rfl, k20, k21, h6⟩ := h6
    have am6 := h6.at (h5.at i1 (Ne.symm nm)) (Ne.symm nm)
    have aa6 := h6.at (h5.at i2 (Ne.symm na)) (Ne.symm na)
    have p6 := p5.trans h6
    obtain ⟨an1, an3, an4⟩ := menuA_ok L2 hLm2 k2.toNat (by have : k2.toNat = 0 ∨ k2.toNat = 1 ∨ k2.toNat = 2 := by omega
                                                            rcases this with q | q | q <;> rw [q] <;> simp)
    simp_arith []
    rw [cutD_lo k20, ← List.map_take]
    generalize L2.take k2.toNat = K2 at an1 an3 an4
    clear h5 h6 p5 hL2
    have e0 : most * (size + 1) ≤ 900 * 5 := Int.mul_le_mul (by omega) (by omega) (by omega) (by omega)
    have e1 : 0 ≤ most * (size + 1) := Int.mul_nonneg (by omega) (by omega)
    refine k_for (lst_L _) (by rw [List.length_map]; unfold BIG; omega) (fun i ρ S' => ∃ as a b0, ρ = [some (.ref n), some (.int wide), some (.int most), some (.int size), a, b0, some (.ref kM), some (.ref kA), none] ∧ S'[kM]? = some (.dct (kdM ms)) ∧ S'[kA]? = some (.dct (kdA as)) ∧ as.map (·.1) = K2.take i ∧ (∀ p ∈ as, Mach size p.2.1 p.2.2.1 p.2.2.2 ∧ (p.2.2.1.length : Int) ≤ most) ∧ PW n S0 (b + 1 + 1 + 1 + K.length * 10 + 1 + 1 + i * 5000) S')
      ⟨[], _, _, rfl, am6, aa6, rfl, fun _ z => (List.not_mem_nil z).elim, p6.mono (by simp)⟩ (fun i d ρ S' hi hI => ?_) (fun ρ S' hI => ?_)
    · obtain ⟨as, a, b0, rfl, q1, q2, q3, q4, q5⟩ := hI
      rw [List.getElem?_map] at hi
      cases hx : K2[i]? with
      | none => rw [hx] at hi; cases hi
      | some x =>
        rw [hx] at hi
        cases hi
        have hil : i < K2.length := (List.getElem?_eq_some_iff.mp hx).1
        simp_arith []
        refine (W_machine (PW.refl q5.1) (by omega) (by omega) (by omega) (by omega) (by omega)).mono fun d S7 h7 => ?_
        obtain ⟨s, rows, ans, rfl, hM1, hM2, h7⟩ := h7
        have j1 := h7.at q1 (Ne.symm nm)
        have j2 := h7.at q2 (Ne.symm na)
        have j5 := q5.trans h7
        have hml : (kdA as).length < sizeLine := by
          have := congrArg List.length q3
          rw [List.length_map, List.length_take] at this
          unfold kdA
          rw [List.length_map]
          unfold sizeLine
          omega
        simp_arith []
        rw [k_st2K j2 rfl hml]
        simp_arith []
        refine ⟨as ++ [(x, (s, rows, ans))], _, _, rfl, ?_, ?_, take_succ_map q3 hx, fun p hp => ?_, (j5.set_new la na).mono (by omega)⟩
        · rw [List.getElem?_set_ne (Ne.symm mna)]
          exact j1
        · rw [set_at j2]
          unfold kdA
          rw [aput_new (keys_new (f := fun p => (.inr p.1, askD p.2)) (fun _ => rfl) q3 hx an3)]
          rw [List.map_append]
          rfl
        · rcases List.mem_append.mp hp with z | z
          · exact q4 p z
          · rw [List.mem_singleton.mp z]
            exact ⟨hM1, hM2⟩
    · obtain ⟨as, a, b0, rfl, q1, q2, q3, q4, q5⟩ := hI
      rw [List.length_map] at q3 q5
      rw [List.take_length] at q3
      simp_arith []
      refine (W_draw q5.1 (by omega) (by decide) (by decide)).mono fun d S7 h7 => ?_
      obtain ⟨t, rfl, t0, t1, h7⟩ := h7
      have j1 := h7.at q1 (Ne.symm nm)
      have j2 := h7.at q2 (Ne.symm na)
      have j5 := q5.trans h7
      simp_arith []
      obtain ⟨bs, hbp, hbs⟩ := sort_by as
      have hlen : as.length ≤ 3 := by
        have := congrArg List.length q3
        rw [List.length_map] at this
        omega
      have mlen : ms.length ≤ 3 := by
        have := congrArg List.length i3
        rw [List.length_map] at this
        omega
      have hnb : (bs.map (·.1)).Nodup := ((hbp.map _).nodup_iff).mp (by rw [q3]; exact an3)
      refine ⟨⟨size, ms, bs, decide (t = 0)⟩, ⟨kM, kA, as, rfl, j1, j2, hbp⟩, ⟨by show 1 ≤ size; omega, by show size ≤ 4; omega, by show ms.length ≤ 4; omega, fun p hp => ?_, i4, by show sortedS (ms.map (·.1)) = true; rw [i3]; exact mn2, by show bs.length ≤ 4; rw [← hbp.length_eq]; omega, fun p hp => ?_, fun p hp => ?_, hbs, by show (ms.map (·.1)).Nodup; rw [i3]; exact mn3, hnb⟩, by show size ≤ wide; omega, fun p hp => (q4 p (hbp.mem_iff.mpr hp)).2, j5.mono (by omega)⟩
      · have : p.1 ∈ K := by
          rw [← i3]
          exact List.mem_map.mpr ⟨p, hp, rfl⟩
        exact List.all_eq_true.mp mn1 _ this
      · have : p.1 ∈ K2 := by
          rw [← q3]
          exact List.mem_map.mpr ⟨p, hbp.mem_iff.mpr hp, rfl⟩
        exact List.all_eq_true.mp an1 _ this
      · obtain ⟨z1, z2⟩ := q4 p (hbp.mem_iff.mpr hp)
        exact ⟨z1, by omega⟩
theorem W_setting {d : D} {st : Sett} (k : SetOk st) (h : OwnAt S d st) (hq : ∀ S' n, Ext S S' → SetAt S' n st → Q (.ref n) S') : W (m__law_setting [d] S) Q E := by
  obtain ⟨nm, na, ra, rfl, h2, h3, h4⟩ := h
  unfold m__law_setting
  simp_arith []
  refine k_Setting k (.inr ⟨nm, _, rfl, h2, List.Perm.refl _⟩) (.inr ⟨na, ra, rfl, h3, h4⟩) fun S' n he hs => ?_
  simp_arith []
  exact hq S' n he hs
theorem W_law_deeds {d : D} {st : Sett} (k : SetOk st) (h : OwnAt S d st) (hq : Q (.lst ((deedsL st).map .str)) S) : W (m__law_deeds [d] S) Q E := by
  obtain ⟨nm, na, ra, rfl, h2, h3, h4⟩ := h
  have ml := k.ml
  have hl : (namesM st).length ≤ 4 := by unfold namesM; rw [List.length_map]; exact ml
  unfold m__law_deeds
  simp_arith []
  rw [W_frL (lList_dct h2), deeds_list]
  simp_arith []
  unfold deedsL at hq
  cases ht : st.turning with
  | true =>
    rw [ht, if_pos rfl] at hq
    simp_arith []
    rw [W_mulL (by decide) (by decide) (by decide)]
    simp_arith []
    rw [show (List.replicate (Int.toNat 1) [D.str "turn"]).flatten = [D.str "turn"] from rfl, W_addL (by rw [List.length_map]; show _ + 1 ≤ _; unfold sizeLine; omega)]
    simp_arith []
    rw [W_frL (oSorted_strs (ns := namesM st ++ [("turn" : Str)]) (by rw [List.map_append]; rfl) (by rw [List.length_append]; show _ + 1 < _; omega))]
    simp_arith []
    exact hq
  | false =>
    rw [ht, if_neg Bool.false_ne_true, List.append_nil] at hq
    simp_arith []
    rw [W_mulL (by decide) (by decide) (by decide)]
    simp_arith []
    rw [show (List.replicate (Int.toNat 0) [D.str "turn"]).flatten = [] from rfl, W_addL (by rw [List.length_map]; show _ + 0 ≤ _; unfold sizeLine; omega)]
    simp_arith []
    rw [W_frL (oSorted_strs (ns := namesM st) (by rfl) (by omega))]
    simp_arith []
    exact hq
/-! ### a drawn plan -/
def stepD (p : Str × Int × Int) : D := .tup [.str p.1, .int p.2.1, .int p.2.2]
def StepOk (st : Sett) (n : Int) (p : Str × Int × Int) : Prop := p.1 ∈ deedsL st ∧ 0 ≤ p.2.1 ∧ p.2.1 ≤ p.2.2 ∧ p.2.2 ≤ n
theorem sort_two {a b n : Int} (ha : 0 ≤ a) (hb : 0 ≤ b) (ha1 : a ≤ n) (hb1 : b ≤ n) : ∃ f l, sortI [a, b] = [f, l] ∧ 0 ≤ f ∧ f ≤ l ∧ l ≤ n := by
  by_cases h : a ≤ b
  · exact ⟨a, b, (sortI_uniq (List.Perm.refl _) (by simp [h])).symm, ha, h, hb1⟩
  · exact ⟨b, a, (sortI_uniq (List.Perm.swap a b []) (by simp; omega)).symm, hb, by omega, ha1⟩
theorem length_deeds {st : Sett} (k : SetOk st) : (deedsL st).length ≤ 5 := by
  unfold deedsL
  rw [length_sortS, List.length_append]
  have := k.ml
  unfold namesM
  rw [List.length_map]
  split
  · show _ + 1 ≤ 5; omega
  · show _ + 0 ≤ 5; omega
theorem W_plan {n : Nat} {S0 : Store} {b long most : Int} {d : D} {st : Sett} (k : SetOk st) (ho : OwnAt S d st) (h : PW n S0 b S) (hb : b < 2 ^ 30) (l0 : 0 ≤ long) (l1 : long ≤ 1000) (m0 : 0 ≤ most) (m1 : most ≤ 100) :
    W (m__law_plan [.ref n, d, .int long, .int most] S) (fun y S' => ∃ (q : Nat) (steps : List (Str × Int × Int)), y = .ref q ∧ S'[q]? = some (.lst (steps.map stepD)) ∧ q ≠ n ∧ S.length ≤ q ∧ (∀ p ∈ steps, StepOk st long p) ∧ (steps.length : Int) ≤ most ∧ PW n S (b + 1000) S') E := by
  have hn : n < S.length := by
    obtain ⟨⟨x, y, z, h1, _⟩, _⟩ := h
    exact (List.getElem?_eq_some_iff.mp h1).1
  have ld := length_deeds k
  unfold m__law_plan
  simp_arith []
  refine W_law_deeds k ho ?_
  simp_arith []
  have p1 : PW n S b (S ++ [O.lst []]) := (PW.refl h.1).ext Ext.app
  have a1 : (S ++ [O.lst []])[S.length]? = some (.lst []) := at_end
  have nq : S.length ≠ n := by omega
  generalize hq : S.length = q at a1 nq ⊢
  have hSq : S.length ≤ q := Nat.le_of_eq hq
  generalize S ++ [O.lst []] = S1 at p1 a1 ⊢
  refine (W_draw p1.1 (by omega) (by omega) (by omega)).mono fun y S2 h2 => ?_
  obtain ⟨r, rfl, r0, r1, h2⟩ := h2
  have a2 := h2.at a1 nq
  have p2 := p1.trans h2
  simp_arith []
  have hne : W (fEq2 true (.lst ((deedsL st).map D.str)) (.lst []) S2) = fun Q E => Q (.bl (!(deedsL st).isEmpty)) S2 := by
    funext Q E
    rw [W_eq2F (by unfold flat; exact flatL_map fun x hx => k.strOk hx) (by unfold flat; rfl)]
    have : eqD (.lst ((deedsL st).map D.str)) (.lst []) = (deedsL st).isEmpty := by
      cases deedsL st with
      | nil => rfl
      | cons x r => simp [eqD, pyOf, pyOfL, PyData.eqv, PyData.eqvAll]
    rw [this]
    rfl
  rw [hne]
  simp_arith []
  have hmul : ∃ z : Int, (z = 0 ∨ (z = r ∧ (deedsL st).isEmpty = false)) ∧ ∀ {QD : D → Store → Prop}, QD (.int z) S2 → W (fMul (.int r) (.int (if (!(deedsL st).isEmpty) = true then 1 else 0)) S2) QD E := by
    have lr := log2_lt (k := 60) r0 (by omega) (by decide)
    cases he : (deedsL st).isEmpty with
    | true =>
      refine ⟨0, .inl rfl, fun {QD} q => ?_⟩
      show W (fMul (.int r) (.int 0) S2) QD E
      rw [W_mulI (by have : (0 : Int).natAbs.log2 = 0 := by decide +kernel
                     omega), Int.mul_zero]
      exact q
    | false =>
      refine ⟨r, .inr ⟨rfl, rfl⟩, fun {QD} q => ?_⟩
      show W (fMul (.int r) (.int 1) S2) QD E
      rw [W_mulI (by have : (1 : Int).natAbs.log2 = 0 := by decide +kernel
                     omega), Int.mul_one]
      exact q
  obtain ⟨z, hz, hmul⟩ := hmul
  refine hmul ?_
  simp_arith []
  refine ⟨by omega, by omega, ?_⟩
  refine k_for (lst_R _ _) (by rw [length_rangeD]; unfold BIG; omega) (fun i ρ S' => ∃ steps a b0 c, ρ = [some (.ref n), some d, some (.int long), some (.int most), some (.lst ((deedsL st).map .str)), some (.ref q), a, b0, c] ∧ S'[q]? = some (.lst (steps.map stepD)) ∧ steps.length = i ∧ (∀ p ∈ steps, StepOk st long p) ∧ PW n S (b + 1 + i * 3) S')
    ⟨[], _, _, _, rfl, a2, rfl, fun _ z => (List.not_mem_nil z).elim, p2.mono (by simp)⟩ (fun i y ρ S' hi hI => ?_) (fun ρ S' hI => ?_)
  · obtain ⟨steps, a, b0, c, rfl, i1, i2, i3, i4⟩ := hI
    obtain ⟨hlt, rfl⟩ := rangeD_get hi
    have hzr : z = r ∧ (deedsL st).isEmpty = false := by
      rcases hz with rfl | q
      · simp at hlt
      · exact q
    obtain ⟨rfl, hE⟩ := hzr
    have hdl : 0 < (deedsL st).length := by
      cases hd : deedsL st with
      | nil => rw [hd] at hE; cases hE
      | cons x r => simp
    simp_arith []
    refine (W_draw i4.1 (by omega) (by omega) (by omega)).mono fun y S3 h3 => ?_
    obtain ⟨u, rfl, u0, u1, h3⟩ := h3
    have p3 := i4.trans h3
    have j1 := h3.at i1 nq
    simp_arith []
    refine (W_draw p3.1 (by omega) (by omega) (by omega)).mono fun y S4 h4 => ?_
    obtain ⟨v, rfl, v0, v1, h4⟩ := h4
    have p4 := p3.trans h4
    have j2 := h4.at j1 nq
    obtain ⟨f, l, hs, f0, fl, ll⟩ := sort_two (n := long) u0 v0 (by omega) (by omega)
    simp_arith []
    rw [W_frL (oSorted_ints (ns := [u, v]) rfl), hs]
    simp_arith []
    rw [k_app1 j2]
    simp_arith []
    rw [List.length_map]
    refine (W_draw p4.1 (by omega) (by omega) (by omega)).mono fun y S5 h5 => ?_
    obtain ⟨t, rfl, t0, t1, h5⟩ := h5
    have p5 := p4.trans h5
    have j3 := h5.at j2 nq
    have ht : t.toNat < (deedsL st).length := by omega
    simp_arith []
    rw [atI_of t0, List.getElem?_map, List.getElem?_eq_getElem ht]
    simp_arith [Option.map_some]
    rw [k_app2 j3 (by rw [List.length_map]; unfold sizeLine; omega)]
    simp_arith []
    refine ⟨steps ++ [((deedsL st)[t.toNat], f, l)], _, _, _, rfl, ?_, by rw [List.length_append, i2]; rfl, fun p hp => ?_, (p5.set_new hSq (Ne.symm nq)).mono (by omega)⟩
    · rw [set_at j3, List.map_append]
      rfl
    · rcases List.mem_append.mp hp with z | z
      · exact i3 p z
      · rw [List.mem_singleton.mp z]
        exact ⟨List.getElem_mem ht, f0, fl, ll⟩
  · obtain ⟨steps, a, b0, c, rfl, i1, i2, i3, i4⟩ := hI
    rw [length_rangeD] at i2 i4
    simp_arith []
    refine ⟨q, steps, rfl, i1, nq, Nat.le_refl _, i3, ?_, i4.mono ?_⟩
    · rcases hz with rfl | ⟨rfl, _⟩
      · rw [i2]
        simp
        omega
      · rw [i2]
        simp
        omega
    · have : z ≤ r := by rcases hz with rfl | ⟨rfl, _⟩ <;> omega
      simp
      omega
end
end MM

/-! What the law's draws come to. -/
/-! Plans: what they come to, run and as a form. -/
namespace MM
open PySem L2 PyProof.Rows
local macro_rules | `(tactic| simp_arith [$ts,*]) => `(tactic| simp -implicitDefEqProofs only [W_ok, W_var, k_var, W_c, W_op, k_op1, k_op2, W_un, k_un, W_nil, W_cons, k_cons1, k_cons2, W_call, k_call, W_tup, k_tup, W_lst, k_lst, W_lstS, k_lstS, W_seq, k_seq_nx, k_seq_rt, k_seq_bk, k_seq_ct, W_expr, k_expr, W_ret, k_ret, W_retN, W_nx, W_bk, W_ct, W_if, k_if_t, k_if_f, W_ifE, k_ifE_t, k_ifE_f, W_b, k_b, W_andT, k_andT_t, k_andT_f, W_orT, k_orT_t, k_orT_f, W_notT, k_notT, W_yes, W_andV, k_andV_t, k_andV_f, W_orV, k_orV_t, k_orV_f, W_notV, k_notV, W_cmpC, k_cmp1, k_cmp2, k_cmp3_t, k_cmp3_f, W_asg, k_asg, k_asg2, W_gN, W_gsNil, W_gsCons, k_gs, W_gTp, W_gIx, k_ix1, W_for, W_lc, W_lcS, W_next, W_miA, k_it_tup, k_it_lst, k_it_frz, W_def, k_def_rt, k_def_nx, W_callK, k_CK1, k_CK2, perm, List.filterMap_cons, List.filterMap_nil, and_self, W_f2I, W_addI, W_int, W_2L, W_is, W_lenT, W_lenL, W_lenF, W_tupleT, W_tupleL, W_tupleF, k_body, k_loop_nx, k_loop_ct, k_loop_bk, k_loop_rt, k_lc1, k_lc2_t, k_lc2_f, List.map_cons, List.map_nil, List.length_cons, List.length_nil, List.reduceReplicate, Nat.reduceSub, Nat.reduceAdd, Int.reduceAdd, Int.reduceSub, Int.reduceMul, Int.reduceNeg, Int.reduceLT, Int.reduceLE, Int.reduceEq, Int.cast_ofNat_Int, Int.natCast_zero, Int.natCast_one, eq_self, decide_true, decide_false, Bool.and_true, Bool.true_and, Bool.false_and, Bool.and_false, Nat.zero_add, List.replicate_zero, List.replicate_succ, List.cons_append, List.nil_append, List.append_nil, List.getElem?_cons_zero, List.getElem?_cons_succ, List.set_cons_zero, List.set_cons_succ, wipeD, Bool.not_true, Bool.not_false, if_true, if_false, reduceIte, isNon, Bool.false_eq_true, k_el, W_E, k_en_tup, k_en_lst, isi_int_i, isi_int_b, isi_int_n, isi_int_s, isi_int_t, isi_int_l, isi_bool_i, isi_bool_b, isi_bool_n, isi_bool_s, isi_bool_t, isi_bool_l, isi_tuple_i, isi_tuple_b, isi_tuple_n, isi_tuple_s, isi_tuple_t, isi_tuple_l, isi_list_i, isi_list_b, isi_list_n, isi_list_s, isi_list_t, isi_list_l, W_eq2I, W_intB, k_R1_eq, k_R2_eq, W_R1q, W_ixDT, W_ixDL, W_ixDF, k_opt, atI_lit, W_gTpT, W_gTpL, W_noPart, W_part, k_part, W_sl, k_sl1, k_sl2, k_sl3T, k_sl3L, W_revT, W_revL, W_meth, k_meth2, W_prop, W_make, k_make, k_made, W_sFld, k_fldS1, W_app, W_bits, W_gSt, k_st1, W_gSl, k_gsl1, k_gsl2, W_rgT, W_rgL, W_rgS, W_rg1, k_rg1, W_miS, k_itS, W_E2, k_en2_tup, k_en2_lst, k_en2_frz, W_par, k_par, W_par3, k_par3, W_dct0, W_disp, W_pnil, W_pcons, k_ps1, k_ps2, k_ps3, W_dc, k_dc1, k_dc2_t, k_dc2_f, k_dc3, k_dc4, isi_str_i, isi_str_b, isi_str_n, isi_str_s, isi_str_t, isi_str_l, $ts,*])
local macro_rules | `(tactic| simp_arith) => `(tactic| simp_arith [])
/-! ### plain -/
def cutMid {α : Type} (a b : Int) (f : List α → List α) (r : List α) : List α := r.take a.toNat ++ f ((r.drop a.toNat).take (b.toNat - a.toNat)) ++ r.drop b.toNat
theorem length_cutMid {α : Type} {a b : Int} {f : List α → List α} {r : List α} (hf : ∀ l, (f l).length = l.length) (h0 : 0 ≤ a) (h1 : a ≤ b) (h2 : b ≤ r.length) : (cutMid a b f r).length = r.length := by
  unfold cutMid
  rw [List.length_append, List.length_append, hf, List.length_take, List.length_take, List.length_drop, List.length_drop]
  omega
theorem mem_cutMid {α : Type} {a b : Int} {f : List α → List α} {r : List α} {P : α → Prop} (hr : ∀ x ∈ r, P x) (hf : ∀ l : List α, (∀ x ∈ l, P x) → ∀ x ∈ f l, P x) : ∀ x ∈ cutMid a b f r, P x := by
  unfold cutMid
  intro x hx
  rcases List.mem_append.mp hx with h | h
  · rcases List.mem_append.mp h with h | h
    · exact hr x (List.mem_of_mem_take h)
    · exact hf _ (fun y hy => hr y (List.mem_of_mem_drop (List.mem_of_mem_take hy))) x h
  · exact hr x (List.mem_of_mem_drop h)
theorem map_cutMid {α β : Type} {a b : Int} {f : List α → List α} {g : List β → List β} {φ : α → β} {r : List α} {P : α → Prop} (hr : ∀ x ∈ r, P x) (hf : ∀ l : List α, (∀ x ∈ l, P x) → (f l).map φ = g (l.map φ)) : (cutMid a b f r).map φ = cutMid a b g (r.map φ) := by
  unfold cutMid
  rw [List.map_append, List.map_append, hf _ (fun y hy => hr y (List.mem_of_mem_drop (List.mem_of_mem_take hy))), List.map_take, List.map_take, List.map_drop, List.map_drop]
abbrev Stp := Str × Int × Int
def ranOn (st : Sett) (steps : List Stp) (r : List Int) : List Int := steps.foldl (fun r p => cutMid p.2.1 p.2.2 (actOn st p.1) r) r
abbrev Ent := Int × List Int
def mapE (st : Sett) (x : Str) (e : Ent) : Ent := (e.1, e.2.map fun v => (mapOf st x).getD v.toNat 0)
def actE (st : Sett) (x : Str) (es : List Ent) : List Ent := if x = "turn" then es.reverse else es.map (mapE st x)
def rawOn (st : Sett) (steps : List Stp) (es : List Ent) : List Ent := steps.foldl (fun r p => cutMid p.2.1 p.2.2 (actE st p.1) r) es
theorem length_actE {st : Sett} {x : Str} {es : List Ent} : (actE st x es).length = es.length := by
  unfold actE
  split
  · exact List.length_reverse
  · exact List.length_map _
structure EntOk (st : Sett) (n : Int) (e : Ent) : Prop where
  p0 : 0 ≤ e.1
  p1 : e.1 < n
  l : (e.2.length : Int) = st.size
  v : RowOk st e.2
theorem EntOk.act {st : Sett} (k : SetOk st) {n : Int} {x : Str} (hx : x ∈ deedsL st) {es : List Ent} (h : ∀ e ∈ es, EntOk st n e) : ∀ e ∈ actE st x es, EntOk st n e := by
  unfold actE
  rcases k.deed hx with ⟨rfl, _⟩ | ⟨h1, h2⟩
  · rw [if_pos rfl]
    exact fun e he => h e (List.mem_reverse.mp he)
  · rw [if_neg h1]
    intro e he
    obtain ⟨u, hu, rfl⟩ := List.mem_map.mp he
    obtain ⟨a, b, c, d⟩ := h u hu
    obtain ⟨_, hl, hv⟩ := k.map h2
    refine ⟨a, b, by show ((u.2.map _).length : Int) = _; rw [List.length_map]; exact c, ?_⟩
    intro v hv'
    obtain ⟨w, hw, rfl⟩ := List.mem_map.mp (show v ∈ u.2.map _ from hv')
    obtain ⟨w0, w1⟩ := d w hw
    exact hv _ (getD_mem hl w0 w1)
theorem length_ran {st : Sett} : ∀ {steps : List Stp} {r : List Int}, (∀ p ∈ steps, StepOk st r.length p) → (ranOn st steps r).length = r.length
  | [], _, _ => rfl
  | p :: steps, r, h => by
    obtain ⟨_, a, b, c⟩ := h p List.mem_cons_self
    have e := length_cutMid (f := actOn st p.1) (fun l => length_actOn) a b c
    show (ranOn st steps (cutMid p.2.1 p.2.2 (actOn st p.1) r)).length = _
    rw [length_ran (steps := steps) (fun q hq => by rw [e]; exact h q (List.mem_cons_of_mem _ hq)), e]
theorem length_raw {st : Sett} : ∀ {steps : List Stp} {r : List Ent}, (∀ p ∈ steps, StepOk st r.length p) → (rawOn st steps r).length = r.length
  | [], _, _ => rfl
  | p :: steps, r, h => by
    obtain ⟨_, a, b, c⟩ := h p List.mem_cons_self
    have e := length_cutMid (f := actE st p.1) (fun l => length_actE) a b c
    show (rawOn st steps (cutMid p.2.1 p.2.2 (actE st p.1) r)).length = _
    rw [length_raw (steps := steps) (fun q hq => by rw [e]; exact h q (List.mem_cons_of_mem _ hq)), e]
theorem ok_ran {st : Sett} (k : SetOk st) : ∀ {steps : List Stp} {r : List Int}, (∀ p ∈ steps, p.1 ∈ deedsL st) → RowOk st r → RowOk st (ranOn st steps r)
  | [], _, _, h => h
  | p :: steps, r, hs, h => ok_ran (steps := steps) k (fun q hq => hs q (List.mem_cons_of_mem _ hq)) (mem_cutMid (P := fun v => 0 ≤ v ∧ v < st.size) h fun l hl => RowOk.act k (hs p List.mem_cons_self) hl)
theorem ok_raw {st : Sett} (k : SetOk st) {n : Int} : ∀ {steps : List Stp} {r : List Ent}, (∀ p ∈ steps, p.1 ∈ deedsL st) → (∀ e ∈ r, EntOk st n e) → ∀ e ∈ rawOn st steps r, EntOk st n e
  | [], _, _, h => h
  | p :: steps, r, hs, h => ok_raw (steps := steps) k (fun q hq => hs q (List.mem_cons_of_mem _ hq)) (mem_cutMid (P := EntOk st n) h fun l hl => EntOk.act k (hs p List.mem_cons_self) hl)
/-- what an entry comes to at a row -/
def valE (line : List Int) (e : Ent) : Int := e.2.getD (line.getD e.1.toNat 0).toNat 0
theorem getD_map_lt {α β : Type} {f : α → β} {m : List α} {i : Nat} {a : α} {b : β} (h : i < m.length) : (m.map f).getD i b = f (m.getD i a) := by
  rw [List.getD_eq_getElem?_getD, List.getD_eq_getElem?_getD, List.getElem?_map, List.getElem?_eq_getElem h]
  rfl
theorem RowOk.at {st : Sett} {line : List Int} {i : Int} (h : RowOk st line) (i0 : 0 ≤ i) (i1 : i < line.length) : 0 ≤ line.getD i.toNat 0 ∧ line.getD i.toNat 0 < st.size := by
  have hi : i.toNat < line.length := by omega
  rw [List.getD_eq_getElem?_getD, List.getElem?_eq_getElem hi]
  exact h _ (List.getElem_mem hi)
theorem valE_map {st : Sett} {line : List Int} {x : Str} {e : Ent} (h : RowOk st line) (he : EntOk st line.length e) : valE line (mapE st x e) = (mapOf st x).getD (valE line e).toNat 0 := by
  obtain ⟨a, b, c, d⟩ := he
  obtain ⟨u, v⟩ := h.at a b
  show (e.2.map fun v => (mapOf st x).getD v.toNat 0).getD (line.getD e.1.toNat 0).toNat 0 = _
  rw [getD_map_lt (a := 0) (by omega)]
  rfl
theorem act_val {st : Sett} {line : List Int} {x : Str} (h : RowOk st line) {es : List Ent} (he : ∀ e ∈ es, EntOk st line.length e) : (actE st x es).map (valE line) = actOn st x (es.map (valE line)) := by
  unfold actE actOn
  split
  · exact List.map_reverse
  · rw [List.map_map, List.map_map]
    exact List.map_congr_left fun e q => valE_map h (he e q)
theorem raw_val {st : Sett} (k : SetOk st) {line : List Int} (h : RowOk st line) : ∀ {steps : List Stp} {es : List Ent}, (∀ p ∈ steps, p.1 ∈ deedsL st) → (∀ e ∈ es, EntOk st line.length e) → (rawOn st steps es).map (valE line) = ranOn st steps (es.map (valE line))
  | [], _, _, _ => rfl
  | p :: steps, es, hs, he => by
    show (rawOn st steps (cutMid p.2.1 p.2.2 (actE st p.1) es)).map (valE line) = ranOn st steps (cutMid p.2.1 p.2.2 (actOn st p.1) (es.map (valE line)))
    rw [raw_val k h (fun q hq => hs q (List.mem_cons_of_mem _ hq)) (mem_cutMid (P := EntOk st line.length) he fun l hl => EntOk.act k (hs p List.mem_cons_self) hl), map_cutMid he fun l hl => act_val h hl]
def upTo (n : Int) : List Int := (List.range n.toNat).map fun (i : Nat) => ((i : Nat) : Int)
def startE (n size : Int) : List Ent := (upTo n).map fun i => (i, upTo size)
theorem length_upTo {n : Int} (h : 0 ≤ n) : ((upTo n).length : Int) = n := by
  unfold upTo
  rw [List.length_map, List.length_range]
  omega
theorem mem_upTo {n i : Int} (h : i ∈ upTo n) : 0 ≤ i ∧ i < n := by
  obtain ⟨j, hj, rfl⟩ := List.mem_map.mp h
  have := List.mem_range.mp hj
  omega
theorem getD_upTo {n : Int} {i : Nat} (h : i < n.toNat) : (upTo n).getD i 0 = i := by
  unfold upTo
  rw [getD_map_lt (a := 0) (by rw [List.length_range]; exact h), List.getD_eq_getElem?_getD, List.getElem?_range h]
  rfl
theorem start_ok {st : Sett} (k : SetOk st) {n : Int} : ∀ e ∈ startE n st.size, EntOk st n e := by
  intro e he
  obtain ⟨i, hi, rfl⟩ := List.mem_map.mp he
  obtain ⟨a, b⟩ := mem_upTo hi
  exact ⟨a, b, length_upTo (by have := k.s1; omega), fun v hv => mem_upTo hv⟩
theorem length_start {n size : Int} (h : 0 ≤ n) : ((startE n size).length : Int) = n := by
  unfold startE
  rw [List.length_map]
  exact length_upTo h
theorem start_val {st : Sett} {line : List Int} (h : RowOk st line) : (startE line.length st.size).map (valE line) = line := by
  unfold startE
  rw [List.map_map]
  apply List.ext_getElem?
  intro i
  rw [List.getElem?_map]
  unfold upTo
  rw [List.getElem?_map]
  by_cases hi : i < line.length
  · rw [List.getElem?_range (by omega)]
    obtain ⟨a, b⟩ := h.at (i := i) (by omega) (by omega)
    have e : ((i : Nat) : Int).toNat = i := by omega
    rw [e] at a b
    show some ((upTo st.size).getD (line.getD ((i : Nat) : Int).toNat 0).toNat 0) = _
    rw [e, getD_upTo (by omega), List.getElem?_eq_getElem hi]
    rw [List.getD_eq_getElem?_getD, List.getElem?_eq_getElem hi, Option.getD_some] at a ⊢
    rw [Int.toNat_of_nonneg a]
  · rw [List.getElem?_eq_none (by rw [List.length_range]; omega), List.getElem?_eq_none (by omega)]
    rfl
def oneB (m : List Int) : Bool := decide ((dstn m).length = 1)
theorem one_all {m : List Int} (h : oneB m = true) {i j : Nat} (hi : i < m.length) (hj : j < m.length) : m.getD i 0 = m.getD j 0 := by
  have h1 : (dstn m).length = 1 := of_decide_eq_true h
  have h2 : ∀ i, i < m.length → m.getD i 0 ∈ dstn m := fun i q => by
    rw [dstn_mem, List.getD_eq_getElem?_getD, List.getElem?_eq_getElem q]
    exact List.getElem_mem q
  obtain ⟨z, hz⟩ := List.length_eq_one_iff.mp h1
  have a := h2 i hi
  have b := h2 j hj
  rw [hz] at a b
  rw [List.mem_singleton.mp a, List.mem_singleton.mp b]
def plcD (e : Ent) : D := if oneB e.2 then .non else .int e.1
def entF (e : Ent) : D := .tup [plcD e, rowD e.2]
def entT (e : Ent) : D := .tup [.int e.1, rowD e.2]
def entL (e : Ent) : D := .lst [.int e.1, rowD e.2]
def formD (es : List Ent) : D := .tup (es.map entF)
theorem flat_form {n : Nat} (es : List Ent) : flat (n + 3) (formD es) = true := by
  unfold formD flat
  refine flatL_map fun e _ => ?_
  unfold entF flat flatL plcD
  rw [show flatL (n + 1) [rowD e.2] = true by unfold flatL; rw [flat_row]; rfl]
  split <;> rfl
theorem noB_form (es : List Ent) : noB (formD es) = true := by
  unfold formD noB
  refine noBL_map fun e _ => ?_
  unfold entF noB noBL plcD
  rw [show noBL [rowD e.2] = true by unfold noBL; rw [noB_row]; rfl]
  split <;> rfl
theorem rgD_upTo {n : Int} : rgD 0 n = (upTo n).map .int := by
  unfold rgD upTo
  rw [List.map_map, Int.sub_zero]
  exact List.map_congr_left fun i _ => by show D.int (0 + (i : Int)) = _; rw [Int.zero_add]; rfl
end MM

/-! What the law's draws come to. -/
/-! Plans: the walks. -/
namespace MM
open PySem L2 PyProof.Rows
local macro_rules | `(tactic| simp_arith [$ts,*]) => `(tactic| simp -implicitDefEqProofs only [W_ok, W_var, k_var, W_c, W_op, k_op1, k_op2, W_un, k_un, W_nil, W_cons, k_cons1, k_cons2, W_call, k_call, W_tup, k_tup, W_lst, k_lst, W_lstS, k_lstS, W_seq, k_seq_nx, k_seq_rt, k_seq_bk, k_seq_ct, W_expr, k_expr, W_ret, k_ret, W_retN, W_nx, W_bk, W_ct, W_if, k_if_t, k_if_f, W_ifE, k_ifE_t, k_ifE_f, W_b, k_b, W_andT, k_andT_t, k_andT_f, W_orT, k_orT_t, k_orT_f, W_notT, k_notT, W_yes, W_andV, k_andV_t, k_andV_f, W_orV, k_orV_t, k_orV_f, W_notV, k_notV, W_cmpC, k_cmp1, k_cmp2, k_cmp3_t, k_cmp3_f, W_asg, k_asg, k_asg2, W_gN, W_gsNil, W_gsCons, k_gs, W_gTp, W_gIx, k_ix1, W_for, W_lc, W_lcS, W_next, W_miA, k_it_tup, k_it_lst, k_it_frz, W_def, k_def_rt, k_def_nx, W_callK, k_CK1, k_CK2, perm, List.filterMap_cons, List.filterMap_nil, and_self, W_f2I, W_addI, W_int, W_2L, W_is, W_lenT, W_lenL, W_lenF, W_tupleT, W_tupleL, W_tupleF, k_body, k_loop_nx, k_loop_ct, k_loop_bk, k_loop_rt, k_lc1, k_lc2_t, k_lc2_f, List.map_cons, List.map_nil, List.length_cons, List.length_nil, List.reduceReplicate, Nat.reduceSub, Nat.reduceAdd, Int.reduceAdd, Int.reduceSub, Int.reduceMul, Int.reduceNeg, Int.reduceLT, Int.reduceLE, Int.reduceEq, Int.cast_ofNat_Int, Int.natCast_zero, Int.natCast_one, eq_self, decide_true, decide_false, Bool.and_true, Bool.true_and, Bool.false_and, Bool.and_false, Nat.zero_add, List.replicate_zero, List.replicate_succ, List.cons_append, List.nil_append, List.append_nil, List.getElem?_cons_zero, List.getElem?_cons_succ, List.set_cons_zero, List.set_cons_succ, wipeD, Bool.not_true, Bool.not_false, if_true, if_false, reduceIte, isNon, Bool.false_eq_true, k_el, W_E, k_en_tup, k_en_lst, isi_int_i, isi_int_b, isi_int_n, isi_int_s, isi_int_t, isi_int_l, isi_bool_i, isi_bool_b, isi_bool_n, isi_bool_s, isi_bool_t, isi_bool_l, isi_tuple_i, isi_tuple_b, isi_tuple_n, isi_tuple_s, isi_tuple_t, isi_tuple_l, isi_list_i, isi_list_b, isi_list_n, isi_list_s, isi_list_t, isi_list_l, W_eq2I, W_intB, k_R1_eq, k_R2_eq, W_R1q, W_ixDT, W_ixDL, W_ixDF, k_opt, atI_lit, W_gTpT, W_gTpL, W_noPart, W_part, k_part, W_sl, k_sl1, k_sl2, k_sl3T, k_sl3L, W_revT, W_revL, W_meth, k_meth2, W_prop, W_make, k_make, k_made, W_sFld, k_fldS1, W_app, W_bits, W_gSt, k_st1, W_gSl, k_gsl1, k_gsl2, W_rgT, W_rgL, W_rgS, W_rg1, k_rg1, W_miS, k_itS, W_E2, k_en2_tup, k_en2_lst, k_en2_frz, W_par, k_par, W_par3, k_par3, W_dct0, W_disp, W_pnil, W_pcons, k_ps1, k_ps2, k_ps3, W_dc, k_dc1, k_dc2_t, k_dc2_f, k_dc3, k_dc4, isi_str_i, isi_str_b, isi_str_n, isi_str_s, isi_str_t, isi_str_l, $ts,*])
local macro_rules | `(tactic| simp_arith) => `(tactic| simp_arith [])
section
set_option maxHeartbeats 1000000
variable {Q : D → Store → Prop} {E : Er → Store → Prop} {S : Store}
theorem W_tupleS {n : Nat} {ds : List D} (h : S[n]? = some (.lst ds)) : W (fTuple [.ref n] S) Q E = Q (.tup ds) S := by
  unfold fTuple
  have : lstOf S (.ref n) = some ds := lst_of_get h
  simp only [this]
  rfl
/-- a row that is drawn -/
theorem k_drawn {QA : List D → Store → Prop} {g : MG0} {te : ME0} {vs : List Nat} {ρ : Rho} {n : Nat} {b lo size : Int} {len : Nat} (h : Pu S n b) (hl : len < 1000)
    (hs : ∀ d S' b', PW n S b' S' → b ≤ b' → b' ≤ b + len → W (g d (wipeD ρ vs) S') (kEl te (fun y S2 => (∃ r, y = .int r ∧ 0 ≤ r ∧ r < size) ∧ PW n S (b' + 1) S2)) Er0)
    (hq : ∀ (r : List Int) S', r.length = len → (∀ v ∈ r, 0 ≤ v ∧ v < size) → PW n S (b + len) S' → QA (r.map .int) S') : kLc QA E g mYes te vs ρ (itR lo len) S := by
  refine k_draws (lst_R _ _) (by rw [length_rangeD]; unfold sizeLine; omega) (fun y => ∃ r, y = .int r ∧ 0 ≤ r ∧ r < size) (c := 1) (by decide) (fun d S' b' h1 hb1 hb2 => ?_) (PW.refl h) (fun ys S' hl hy h1 => ?_)
  · rw [length_rangeD] at hb2
    exact hs d S' b' h1 hb1 (by omega)
  · obtain ⟨r, rfl, hr⟩ := ints_of (P := fun r => 0 ≤ r ∧ r < size) hy
    rw [length_rangeD] at hl h1
    rw [List.length_map] at hl
    exact hq r S' hl hr (h1.mono (by omega))
def PlanAt (S : Store) (d : D) (steps : List Stp) : Prop := d = .tup (steps.map stepD) ∨ d = .lst (steps.map stepD) ∨ ∃ q, d = .ref q ∧ S[q]? = some (.lst (steps.map stepD))
theorem PlanAt.ext {S' : Store} {d : D} {steps : List Stp} (h : PlanAt S d steps) (e : Ext S S') : PlanAt S' d steps := h.elim .inl fun h => h.elim (fun z => .inr (.inl z)) fun ⟨q, a, b⟩ => .inr (.inr ⟨q, a, e.at b⟩)
theorem k_planFor {QS : Fl × Rho → Store → Prop} {g : MG0} {b : MS0} {ρ : Rho} {d : D} {steps : List Stp} (h : PlanAt S d steps) (hl : steps.length < 1000) (I : Nat → Rho → Store → Prop) (h0 : I 0 ρ S) (hx : ∀ i ρ S', I i ρ S' → PlanAt S' d steps)
    (hs : ∀ i p ρ S', steps[i]? = some p → I i ρ S' → W (g (stepD p) ρ S') (kBody QS E (I (i + 1)) b) E) (he : ∀ ρ S', I steps.length ρ S' → QS (.nx, ρ) S') : kIt (kFor QS E g b ρ) d S := by
  have hs' : ∀ i y ρ S', (steps.map stepD)[i]? = some y → I i ρ S' → W (g y ρ S') (kBody QS E (I (i + 1)) b) E := fun i y ρ S' hi hI => by
    rw [List.getElem?_map] at hi
    cases hp : steps[i]? with
    | none => rw [hp] at hi; cases hi
    | some p =>
      rw [hp] at hi
      cases hi
      exact hs i p ρ S' hp hI
  have hl' : (steps.map stepD).length < BIG := by rw [List.length_map]; unfold BIG; omega
  have he' : ∀ ρ S', I (steps.map stepD).length ρ S' → QS (.nx, ρ) S' := by rw [List.length_map]; exact he
  rcases h with rfl | rfl | ⟨q, rfl, hq⟩
  · exact k_for (lst_L _) hl' I h0 hs' he'
  · exact k_for (lst_L _) hl' I h0 hs' he'
  · rw [k_it_ref hq]
    refine k_forI (steps.map stepD) hl' I h0 (fun i ρ S' hI => ?_) hs' he'
    rcases hx i ρ S' hI with z | z | ⟨q', z, hq'⟩
    · cases z
    · cases z
    · cases z
      exact get_itS hq' i
theorem k_planEn {QS : Fl × Rho → Store → Prop} {g : MG0} {b : MS0} {ρ : Rho} {d : D} {steps : List Stp} (h : PlanAt S d steps) (hl : steps.length < 1000) (I : Nat → Rho → Store → Prop) (h0 : I 0 ρ S) (hx : ∀ i ρ S', I i ρ S' → PlanAt S' d steps)
    (hs : ∀ i p ρ S', steps[i]? = some p → I i ρ S' → W (g (.tup [.int i, stepD p]) ρ S') (kBody QS E (I (i + 1)) b) E) (he : ∀ ρ S', I steps.length ρ S' → QS (.nx, ρ) S') : kEn2 (kFor QS E g b ρ) [d] S := by
  have hs' : ∀ i y ρ S', (enumD (steps.map stepD))[i]? = some y → I i ρ S' → W (g y ρ S') (kBody QS E (I (i + 1)) b) E := fun i y ρ S' hi hI => by
    unfold enumD at hi
    rw [List.getElem?_map, List.getElem?_zipIdx, List.getElem?_map] at hi
    cases hp : steps[i]? with
    | none => rw [hp] at hi; cases hi
    | some p =>
      rw [hp] at hi
      obtain rfl := Option.some.inj hi
      have := hs i p ρ S' hp hI
      simpa using this
  have hn : (enumD (steps.map stepD)).length = steps.length := by unfold enumD; rw [List.length_map, List.length_zipIdx, List.length_map]
  have hl' : (enumD (steps.map stepD)).length < BIG := by rw [hn]; unfold BIG; omega
  have he' : ∀ ρ S', I (enumD (steps.map stepD)).length ρ S' → QS (.nx, ρ) S' := by rw [hn]; exact he
  rcases h with rfl | rfl | ⟨q, rfl, hq⟩
  · exact k_for (lst_E _) hl' I h0 hs' he'
  · exact k_for (lst_E _) hl' I h0 hs' he'
  · rw [k_en2_ref hq]
    refine k_forI (enumD (steps.map stepD)) hl' I h0 (fun i ρ S' hI => ?_) hs' he'
    rcases hx i ρ S' hI with z | z | ⟨q', z, hq'⟩
    · cases z
    · cases z
    · cases z
      exact get_itSE hq' i
/-- a part of a plan -/
theorem k_slP {d : D} {steps : List Stp} {lo hi : Option Int} (h : PlanAt S d steps) : ∃ d', (∀ (Q : D → Store → Prop) (E : Er → Store → Prop), kSl3 Q E d lo hi S = Q d' S) ∧ seqOf S d' = some (cutD (steps.map stepD) lo hi) := by
  rcases h with rfl | rfl | ⟨q, rfl, hq⟩
  · exact ⟨_, fun _ _ => k_sl3T, rfl⟩
  · exact ⟨_, fun _ _ => k_sl3L, rfl⟩
  · exact ⟨_, fun _ _ => k_sl3S hq, rfl⟩
theorem W_ixP {d : D} {steps : List Stp} {i : Int} (h : PlanAt S d steps) : W (fIxD d (.int i) S) Q E = kOpt Q (atI (steps.map stepD) i) S := by
  rcases h with rfl | rfl | ⟨q, rfl, hq⟩
  · exact W_ixDT
  · exact W_ixDL
  · exact W_ixDS hq
theorem W_lenP {d : D} {steps : List Stp} (h : PlanAt S d steps) : W (fLen [d] S) Q E = Q (.int steps.length) S := by
  rcases h with rfl | rfl | ⟨q, rfl, hq⟩
  · rw [W_lenT, List.length_map]
  · rw [W_lenL, List.length_map]
  · rw [W_lenS hq, List.length_map]
theorem W_is_range {a b n : Int} : W (m_is_range [.int a, .int b, .int n] S) Q E = Q (.bl (inR a 0 n && (inR b 0 n && decide (a ≤ b)))) S := by
  unfold m_is_range
  simp_arith []
  rw [W_is_integer]
  cases inR a 0 n with
  | false => simp_arith []
  | true =>
    simp_arith []
    rw [W_is_integer]
    cases inR b 0 n with
    | false => simp_arith []
    | true => simp_arith []
theorem StepOk.rng {st : Sett} {n : Int} {p : Stp} (h : StepOk st n p) : (inR p.2.1 0 n && (inR p.2.2 0 n && decide (p.2.1 ≤ p.2.2))) = true := by
  obtain ⟨_, a, b, c⟩ := h
  unfold inR
  rw [decide_eq_true a, decide_eq_true b, decide_eq_true c, decide_eq_true (show p.2.1 ≤ n by omega), decide_eq_true (show 0 ≤ p.2.2 by omega)]
  rfl
theorem deed_ne {st : Sett} (k : SetOk st) {x : Str} : (x ∈ deedsL st) = (x ∈ deedsL st) := rfl
theorem W_is_step {n : Nat} {st : Sett} {long : Int} {p : Stp} (k : SetOk st) (h : SetAt S n st) (hp : StepOk st long p) (hq : Q (.bl true) S) : W (m_is_step [.ref n, stepD p, .int long] S) Q E := by
  have hr := hp.rng
  have hd := hp.1
  have h' := h
  obtain ⟨nm, na, h1, h2, h3⟩ := h'
  unfold m_is_step stepD
  simp_arith []
  rw [k_meth1 h1 (lk_none ⟨by decide, by decide, by decide, by decide⟩)]
  simp_arith []
  refine W_has_deed k h ?_
  rw [decide_eq_true hd]
  simp_arith []
  rw [W_is_range, hr]
  exact hq
theorem W_require_plan {QD : D → Store → Prop} {n : Nat} {st : Sett} {long : Int} {d : D} {steps : List Stp} (k : SetOk st) (h : SetAt S n st) (hd : PlanAt S d steps) (hl : steps.length < 1000) (hs : ∀ p ∈ steps, StepOk st long p) (hq : QD .non S) : W (m_require_plan [.ref n, d, .int long] S) QD E := by
  have ty : ∃ t, tyD S d = some t ∧ kitAnyB t ["tuple", "list"] = some true := by
    rcases hd with rfl | rfl | ⟨q, rfl, hq⟩
    · exact ⟨"tuple", rfl, by decide +kernel⟩
    · exact ⟨"list", rfl, by decide +kernel⟩
    · exact ⟨"list", by show tyO S[q]? = _; rw [hq]; rfl, by decide +kernel⟩
  obtain ⟨t, ht, hk⟩ := ty
  unfold m_require_plan
  simp_arith []
  rw [W_isiT ht hk]
  simp_arith []
  refine k_planEn hd hl (fun i ρ S' => S' = S ∧ ∃ a c, ρ = [some (.ref n), some d, some (.int long), a, c]) ⟨rfl, _, _, rfl⟩ (fun i ρ S' hI => by rw [hI.1]; exact hd) (fun i p ρ S' hi hI => ?_) (fun ρ S' hI => ?_)
  · obtain ⟨rfl, a, c, rfl⟩ := hI
    simp_arith []
    refine W_is_step k h (hs p (List.mem_of_getElem? hi)) ?_
    simp_arith []
    exact ⟨trivial, _, _, rfl⟩
  · obtain ⟨rfl, a, c, rfl⟩ := hI
    simp_arith []
    exact hq
theorem ran_succ {st : Sett} {steps : List Stp} {i : Nat} {p : Stp} {r : List Int} (h : steps[i]? = some p) : ranOn st (steps.take (i + 1)) r = cutMid p.2.1 p.2.2 (actOn st p.1) (ranOn st (steps.take i) r) := by
  unfold ranOn
  rw [List.take_add_one, h, List.foldl_append]
  rfl
theorem raw_succ {st : Sett} {steps : List Stp} {i : Nat} {p : Stp} {r : List Ent} (h : steps[i]? = some p) : rawOn st (steps.take (i + 1)) r = cutMid p.2.1 p.2.2 (actE st p.1) (rawOn st (steps.take i) r) := by
  unfold rawOn
  rw [List.take_add_one, h, List.foldl_append]
  rfl
end
end MM

/-! What the law's draws come to. -/
/-! Forms: the walk. -/
namespace MM
open PySem L2 PyProof.Rows
local macro_rules | `(tactic| simp_arith [$ts,*]) => `(tactic| simp -implicitDefEqProofs only [W_ok, W_var, k_var, W_c, W_op, k_op1, k_op2, W_un, k_un, W_nil, W_cons, k_cons1, k_cons2, W_call, k_call, W_tup, k_tup, W_lst, k_lst, W_lstS, k_lstS, W_seq, k_seq_nx, k_seq_rt, k_seq_bk, k_seq_ct, W_expr, k_expr, W_ret, k_ret, W_retN, W_nx, W_bk, W_ct, W_if, k_if_t, k_if_f, W_ifE, k_ifE_t, k_ifE_f, W_b, k_b, W_andT, k_andT_t, k_andT_f, W_orT, k_orT_t, k_orT_f, W_notT, k_notT, W_yes, W_andV, k_andV_t, k_andV_f, W_orV, k_orV_t, k_orV_f, W_notV, k_notV, W_cmpC, k_cmp1, k_cmp2, k_cmp3_t, k_cmp3_f, W_asg, k_asg, k_asg2, W_gN, W_gsNil, W_gsCons, k_gs, W_gTp, W_gIx, k_ix1, W_for, W_lc, W_lcS, W_next, W_miA, k_it_tup, k_it_lst, k_it_frz, W_def, k_def_rt, k_def_nx, W_callK, k_CK1, k_CK2, perm, List.filterMap_cons, List.filterMap_nil, and_self, W_f2I, W_addI, W_int, W_2L, W_is, W_lenT, W_lenL, W_lenF, W_tupleT, W_tupleL, W_tupleF, k_body, k_loop_nx, k_loop_ct, k_loop_bk, k_loop_rt, k_lc1, k_lc2_t, k_lc2_f, List.map_cons, List.map_nil, List.length_cons, List.length_nil, List.reduceReplicate, Nat.reduceSub, Nat.reduceAdd, Int.reduceAdd, Int.reduceSub, Int.reduceMul, Int.reduceNeg, Int.reduceLT, Int.reduceLE, Int.reduceEq, Int.cast_ofNat_Int, Int.natCast_zero, Int.natCast_one, eq_self, decide_true, decide_false, Bool.and_true, Bool.true_and, Bool.false_and, Bool.and_false, Nat.zero_add, List.replicate_zero, List.replicate_succ, List.cons_append, List.nil_append, List.append_nil, List.getElem?_cons_zero, List.getElem?_cons_succ, List.set_cons_zero, List.set_cons_succ, wipeD, Bool.not_true, Bool.not_false, if_true, if_false, reduceIte, isNon, Bool.false_eq_true, k_el, W_E, k_en_tup, k_en_lst, isi_int_i, isi_int_b, isi_int_n, isi_int_s, isi_int_t, isi_int_l, isi_bool_i, isi_bool_b, isi_bool_n, isi_bool_s, isi_bool_t, isi_bool_l, isi_tuple_i, isi_tuple_b, isi_tuple_n, isi_tuple_s, isi_tuple_t, isi_tuple_l, isi_list_i, isi_list_b, isi_list_n, isi_list_s, isi_list_t, isi_list_l, W_eq2I, W_intB, k_R1_eq, k_R2_eq, W_R1q, W_ixDT, W_ixDL, W_ixDF, k_opt, atI_lit, W_gTpT, W_gTpL, W_noPart, W_part, k_part, W_sl, k_sl1, k_sl2, k_sl3T, k_sl3L, W_revT, W_revL, W_meth, k_meth2, W_prop, W_make, k_make, k_made, W_sFld, k_fldS1, W_app, W_bits, W_gSt, k_st1, W_gSl, k_gsl1, k_gsl2, W_rgT, W_rgL, W_rgS, W_rg1, k_rg1, W_miS, k_itS, W_E2, k_en2_tup, k_en2_lst, k_en2_frz, W_par, k_par, W_par3, k_par3, W_dct0, W_disp, W_pnil, W_pcons, k_ps1, k_ps2, k_ps3, W_dc, k_dc1, k_dc2_t, k_dc2_f, k_dc3, k_dc4, isi_str_i, isi_str_b, isi_str_n, isi_str_s, isi_str_t, isi_str_l, $ts,*])
local macro_rules | `(tactic| simp_arith) => `(tactic| simp_arith [])
section
set_option maxHeartbeats 1000000
variable {Q : D → Store → Prop} {E : Er → Store → Prop} {S : Store}
/-- [m[v] for v in r] of a map that is looked up -/
theorem k_look {QA : List D → Store → Prop} {g : MG0} {te : ME0} {vs : List Nat} {ρ : Rho} {m r : List Int} (hl : r.length < 1000) (h : ∀ v ∈ r, ∀ Y : D → Store → Prop, Y (.int (m.getD v.toNat 0)) S → W (g (.int v) (wipeD ρ vs) S) (kEl te Y) Er0) (hq : QA ((r.map fun v => m.getD v.toNat 0).map .int) S) : kLc QA E g mYes te vs ρ (itL (r.map .int)) S := by
  refine k_lc_map (lst_L _) (f := fun d => match d with | .int v => .int (m.getD v.toNat 0) | _ => .non) (by rw [List.length_map]; unfold sizeLine; omega) (fun d hd Y hY => ?_) ?_
  · obtain ⟨v, hv, rfl⟩ := List.mem_map.mp hd
    exact h v hv Y hY
  · rw [List.map_map]
    rw [List.map_map] at hq
    exact hq
theorem atI_row {m : List Int} {v n : Int} (hl : (m.length : Int) = n) (h0 : 0 ≤ v) (h1 : v < n) : atI (m.map D.int) v = some (.int (m.getD v.toNat 0)) := atI_map (z := 0) h0 (by omega)
theorem W_entry_after {n : Nat} {st : Sett} {x : Str} {e : Ent} {long : Int} (k : SetOk st) (h : SetAt S n st) (hx : x ∈ namesM st) (he : EntOk st long e) (hq : Q (entT (mapE st x e)) S) : W (m_entry_after [.ref n, .str x, entT e] S) Q E := by
  obtain ⟨nm, na, h1, h2, h3⟩ := h
  obtain ⟨ha, hml, hmv⟩ := k.map hx
  have l := he.l
  have s4 := k.s4
  unfold m_entry_after entT
  simp_arith []
  rw [show rowD e.2 = .tup (e.2.map .int) from rfl]
  simp_arith []
  refine k_look (m := mapOf st x) (by omega) (fun v hv Y hY => ?_) ?_
  · obtain ⟨v0, v1⟩ := he.v v hv
    simp_arith []
    rw [W_fld h1 fs_maps]
    simp_arith []
    rw [W_ixDK h2 rfl ha]
    simp_arith []
    rw [show rowD (mapOf st x) = .tup ((mapOf st x).map .int) from rfl]
    simp_arith []
    rw [atI_row hml v0 v1]
    exact hY
  · simp_arith []
    exact hq
/-- [(f entry) for entry in entries] -/
theorem k_ents {QA : List D → Store → Prop} {g : MG0} {te : ME0} {vs : List Nat} {ρ : Rho} {es : List Ent} {fi fo : Ent → D} {F : D → D} (hl : es.length < 1000) (hF : ∀ e, F (fi e) = fo e) (h : ∀ e ∈ es, ∀ Y : D → Store → Prop, Y (fo e) S → W (g (fi e) (wipeD ρ vs) S) (kEl te Y) Er0) (hq : QA (es.map fo) S) : kLc QA E g mYes te vs ρ (itL (es.map fi)) S := by
  refine k_lc_map (lst_L _) (f := F) (by rw [List.length_map]; unfold sizeLine; omega) (fun d hd Y hY => ?_) ?_
  · obtain ⟨e, he, rfl⟩ := List.mem_map.mp hd
    rw [hF] at hY
    exact h e he Y hY
  · rw [List.map_map, show F ∘ fi = fo from funext hF]
    exact hq
def intsD : D → List Int
  | .tup ds => ds.map fun d => match d with | .int v => v | _ => 0
  | _ => []
theorem intsD_row (m : List Int) : intsD (rowD m) = m := by
  show List.map _ (m.map D.int) = m
  rw [List.map_map]
  exact (List.map_congr_left fun v _ => rfl).trans (List.map_id _)
def entD : D → Ent
  | .tup [.int p, r] => (p, intsD r)
  | .lst [.int p, r] => (p, intsD r)
  | _ => (0, [])
theorem entD_T (e : Ent) : entD (entT e) = e := by show (e.1, intsD (rowD e.2)) = e; rw [intsD_row]
theorem entD_L (e : Ent) : entD (entL e) = e := by show (e.1, intsD (rowD e.2)) = e; rw [intsD_row]
theorem W_one {m : List Int} (hm : m.length ≤ 4000) : W (fLenSet (rowD m) S) Q E = Q (.int (dstn m).length) S := W_lenSetT hm
theorem cast_one (m : List Int) : decide (((dstn m).length : Int) = 1) = oneB m := by
  unfold oneB
  by_cases h : (dstn m).length = 1
  · rw [decide_eq_true h, h]
    rfl
  · rw [decide_eq_false h, decide_eq_false (by omega)]
theorem W_plain_form {n : Nat} {st : Sett} {long : Int} {d : D} {steps : List Stp} (k : SetOk st) (h : SetAt S n st) (hd : PlanAt S d steps) (hl : steps.length < 1000) (hs : ∀ p ∈ steps, StepOk st long p) (l0 : 0 ≤ long) (l1 : long ≤ 60)
    (hq : ∀ S', Ext S S' → Q (formD (rawOn st steps (startE long st.size))) S') : W (m_plain_form [.ref n, d, .int long] S) Q E := by
  have h' := h
  obtain ⟨nm, na, h1, h2, h3⟩ := h'
  have s4 := k.s4
  have s1 := k.s1
  have hstart := length_start (size := st.size) l0
  unfold m_plain_form
  simp_arith []
  refine ⟨by omega, by omega, ?_⟩
  refine k_lc_map (lst_R _ _) (f := fun d => match d with | .int i => entT (i, upTo st.size) | _ => .non) (by rw [length_rangeD]; unfold sizeLine; omega) (fun y hy Y hY => ?_) ?_
  · obtain ⟨i, _, rfl⟩ := List.mem_map.mp hy
    simp_arith []
    rw [W_fld h1 fs_size]
    simp_arith []
    rw [k_rgT (by omega) (by omega)]
    simp_arith []
    rw [rgD_upTo]
    exact hY
  · have e1 : (rangeD 0 long.toNat).map (fun d => match d with | .int i => entT (i, upTo st.size) | _ => .non) = (startE long st.size).map entT := by
      unfold rangeD startE upTo
      rw [List.map_map, List.map_map, List.map_map]
      exact List.map_congr_left fun i _ => by
        show entT (0 + (i : Int), upTo st.size) = entT ((i : Int), upTo st.size)
        rw [Int.zero_add]
    rw [e1]
    simp_arith []
    have a1 : (S ++ [O.lst ((startE long st.size).map entT)])[S.length]? = some (.lst ((startE long st.size).map entT)) := at_end
    have p1 : Ext S (S ++ [O.lst ((startE long st.size).map entT)]) := Ext.app
    generalize hm : S.length = m at a1 ⊢
    generalize S ++ [O.lst ((startE long st.size).map entT)] = S1 at a1 p1 ⊢
    refine k_planFor (hd.ext p1) hl (fun i ρ S' => Ext S S' ∧ S'[m]? = some (.lst ((rawOn st (steps.take i) (startE long st.size)).map entT)) ∧ ∃ a b c e f g t, ρ = [some (.ref n), some d, some (.int long), some (.ref m), a, b, c, e, f, g, t]) ⟨p1, a1, _, _, _, _, _, _, _, rfl⟩ (fun i ρ S' hI => hd.ext hI.1) (fun i p ρ S' hi hI => ?_) (fun ρ S' hI => ?_)
    · obtain ⟨hE, hm1, a, b, c, e, f, g, t, rfl⟩ := hI
      obtain ⟨s1, s2, s3, s4⟩ := hs p (List.mem_of_getElem? hi)
      have hlen : ((rawOn st (steps.take i) (startE long st.size)).length : Int) = long := by
        rw [length_raw fun q hq => by rw [hstart]; exact hs q (List.mem_of_mem_take hq)]
        exact hstart
      have hok : ∀ e ∈ rawOn st (steps.take i) (startE long st.size), EntOk st long e := ok_raw k (fun q hq => (hs q (List.mem_of_mem_take hq)).1) (start_ok k)
      rw [raw_succ hi]
      generalize rawOn st (steps.take i) (startE long st.size) = r at hlen hok hm1
      have hmid : ∀ e ∈ (r.drop p.2.1.toNat).take (p.2.2.toNat - p.2.1.toNat), EntOk st long e := fun v hv => hok v (List.mem_of_mem_drop (List.mem_of_mem_take hv))
      have hml : ((r.drop p.2.1.toNat).take (p.2.2.toNat - p.2.1.toNat)).length ≤ 60 := by rw [List.length_take, List.length_drop]; omega
      have fin : ∀ {es : List Ent} {ρ' : Rho}, es = actE st p.1 ((r.drop p.2.1.toNat).take (p.2.2.toNat - p.2.1.toNat)) → (∃ a b c e f g t, ρ' = [some (.ref n), some d, some (.int long), some (.ref m), a, b, c, e, f, g, t]) →
          Ext S (S'.set m (.lst ((r.map entT).take p.2.1.toNat ++ es.map entT ++ (r.map entT).drop p.2.2.toNat))) ∧ (S'.set m (.lst ((r.map entT).take p.2.1.toNat ++ es.map entT ++ (r.map entT).drop p.2.2.toNat)))[m]? = some (.lst ((cutMid p.2.1 p.2.2 (actE st p.1) r).map entT)) ∧ ∃ a b c e f g t, ρ' = [some (.ref n), some d, some (.int long), some (.ref m), a, b, c, e, f, g, t] := fun {es ρ'} hes hρ => by
        refine ⟨hE.set (Nat.le_of_eq hm), ?_, hρ⟩
        rw [set_at hm1]
        unfold cutMid
        rw [List.map_append, List.map_append, List.map_take, List.map_drop, hes]
      unfold stepD
      simp_arith []
      rw [W_eqS (k.strOk s1) (by decide +kernel)]
      rcases k.deed s1 with ⟨ht, _⟩ | ⟨d1, d2⟩
      · rw [decide_eq_true ht]
        simp_arith []
        rw [k_sl3S hm1, cutD_mid s2 (by rw [List.length_map]; omega) (by omega) (by rw [List.length_map]; omega), ← List.map_drop, ← List.map_take]
        simp_arith []
        rw [k_gsl3 hm1 s2 s3 (by rw [List.length_map]; omega) (by rw [List.length_map, List.length_reverse, List.length_map]; unfold sizeLine; omega), ← List.map_reverse]
        simp_arith []
        exact fin (by unfold actE; rw [if_pos ht]) ⟨_, _, _, _, _, _, _, rfl⟩
      · rw [decide_eq_false d1]
        simp_arith []
        rw [k_sl3S hm1, cutD_mid s2 (by rw [List.length_map]; omega) (by omega) (by rw [List.length_map]; omega), ← List.map_drop, ← List.map_take]
        simp_arith []
        refine k_ents (fo := fun e => entT (mapE st p.1 e)) (F := fun d => entT (mapE st p.1 (entD d))) (by omega) (fun e => by rw [entD_T]) (fun e he Y hY => ?_) ?_
        · simp_arith []
          refine W_entry_after k (h.ext hE) d2 (hmid e he) ?_
          exact hY
        · simp_arith []
          rw [show ∀ es : List Ent, es.map (fun e => entT (mapE st p.1 e)) = (es.map (mapE st p.1)).map entT from fun es => by rw [List.map_map]; rfl]
          rw [k_gsl3 hm1 s2 s3 (by rw [List.length_map]; omega) (by rw [List.length_map, List.length_map, List.length_map]; unfold sizeLine; omega)]
          simp_arith []
          exact fin (by unfold actE; rw [if_neg d1]) ⟨_, _, _, _, _, _, _, rfl⟩
    · obtain ⟨hE, hm1, a, b, c, e, f, g, t, rfl⟩ := hI
      rw [List.take_length] at hm1
      have hlen : ((rawOn st steps (startE long st.size)).length : Int) = long := by
        rw [length_raw fun q hq => by rw [hstart]; exact hs q hq]
        exact hstart
      have hok : ∀ e ∈ rawOn st steps (startE long st.size), EntOk st long e := ok_raw k (fun q hq => (hs q hq).1) (start_ok k)
      have hq' := hq S' hE
      generalize rawOn st steps (startE long st.size) = r at hlen hok hm1 hq'
      simp_arith []
      rw [k_it_ref hm1]
      refine k_lc_mapI (f := fun d => entF (entD d)) (r.map entT) (by rw [List.length_map]; unfold sizeLine; omega) (fun S2 => S2 = S') rfl (fun i S2 hS => by rw [hS]; exact get_itS hm1 i) (fun y hy S2 hS Y hY => ?_) (fun S2 hS => ?_)
      · subst hS
        obtain ⟨e, he, rfl⟩ := List.mem_map.mp hy
        have hY' := hY S2 rfl
        rw [entD_T] at hY'
        have l := (hok e he).l
        unfold entT
        simp_arith []
        rw [W_one (by omega)]
        simp_arith []
        rw [cast_one]
        unfold entF plcD at hY'
        cases ho : oneB e.2 with
        | true =>
          rw [ho] at hY'
          simp_arith []
          exact hY'
        | false =>
          rw [ho] at hY'
          simp_arith []
          exact hY'
      · subst hS
        simp_arith []
        rw [List.map_map, show (fun d => entF (entD d)) ∘ entT = entF from funext fun e => by show entF (entD (entT e)) = _; rw [entD_T]]
        exact hq'
theorem W_require_length {QD : D → Store → Prop} {n : Int} (h1 : 0 ≤ n) (h2 : n ≤ 60) (hq : QD .non S) : W (m_require_length [.int n] S) QD E := by
  unfold m_require_length
  simp_arith []
  rw [W_is_integer, show inR n 0 60 = true by unfold inR; rw [decide_eq_true h1, decide_eq_true h2]; rfl]
  simp_arith []
  exact hq
theorem W_form_of {n : Nat} {st : Sett} {long : Int} {d : D} {steps : List Stp} (k : SetOk st) (h : SetAt S n st) (hd : PlanAt S d steps) (hl : steps.length < 1000) (hs : ∀ p ∈ steps, StepOk st long p) (l0 : 0 ≤ long) (l1 : long ≤ 60)
    (hq : ∀ S', Ext S S' → Q (formD (rawOn st steps (startE long st.size))) S') : W (m_form_of [.ref n, d, .int long] S) Q E := by
  unfold m_form_of
  simp_arith []
  refine W_require_setting h ?_
  simp_arith []
  refine W_require_length l0 l1 ?_
  simp_arith []
  refine W_require_plan k h hd hl hs ?_
  simp_arith []
  refine W_plain_form k h hd hl hs l0 l1 fun S' hE => ?_
  simp_arith []
  exact hq S' hE
end
end MM

/-! What the law's draws come to. -/
/-! the law's forms. -/
namespace MM
open PySem L2 PyProof.Rows
local macro_rules | `(tactic| simp_arith [$ts,*]) => `(tactic| simp -implicitDefEqProofs only [W_ok, W_var, k_var, W_c, W_op, k_op1, k_op2, W_un, k_un, W_nil, W_cons, k_cons1, k_cons2, W_call, k_call, W_tup, k_tup, W_lst, k_lst, W_lstS, k_lstS, W_seq, k_seq_nx, k_seq_rt, k_seq_bk, k_seq_ct, W_expr, k_expr, W_ret, k_ret, W_retN, W_nx, W_bk, W_ct, W_if, k_if_t, k_if_f, W_ifE, k_ifE_t, k_ifE_f, W_b, k_b, W_andT, k_andT_t, k_andT_f, W_orT, k_orT_t, k_orT_f, W_notT, k_notT, W_yes, W_andV, k_andV_t, k_andV_f, W_orV, k_orV_t, k_orV_f, W_notV, k_notV, W_cmpC, k_cmp1, k_cmp2, k_cmp3_t, k_cmp3_f, W_asg, k_asg, k_asg2, W_gN, W_gsNil, W_gsCons, k_gs, W_gTp, W_gIx, k_ix1, W_for, W_lc, W_lcS, W_next, W_miA, k_it_tup, k_it_lst, k_it_frz, W_def, k_def_rt, k_def_nx, W_callK, k_CK1, k_CK2, perm, List.filterMap_cons, List.filterMap_nil, and_self, W_f2I, W_addI, W_int, W_2L, W_is, W_lenT, W_lenL, W_lenF, W_tupleT, W_tupleL, W_tupleF, k_body, k_loop_nx, k_loop_ct, k_loop_bk, k_loop_rt, k_lc1, k_lc2_t, k_lc2_f, List.map_cons, List.map_nil, List.length_cons, List.length_nil, List.reduceReplicate, Nat.reduceSub, Nat.reduceAdd, Int.reduceAdd, Int.reduceSub, Int.reduceMul, Int.reduceNeg, Int.reduceLT, Int.reduceLE, Int.reduceEq, Int.cast_ofNat_Int, Int.natCast_zero, Int.natCast_one, eq_self, decide_true, decide_false, Bool.and_true, Bool.true_and, Bool.false_and, Bool.and_false, Nat.zero_add, List.replicate_zero, List.replicate_succ, List.cons_append, List.nil_append, List.append_nil, List.getElem?_cons_zero, List.getElem?_cons_succ, List.set_cons_zero, List.set_cons_succ, wipeD, Bool.not_true, Bool.not_false, if_true, if_false, reduceIte, isNon, Bool.false_eq_true, k_el, W_E, k_en_tup, k_en_lst, isi_int_i, isi_int_b, isi_int_n, isi_int_s, isi_int_t, isi_int_l, isi_bool_i, isi_bool_b, isi_bool_n, isi_bool_s, isi_bool_t, isi_bool_l, isi_tuple_i, isi_tuple_b, isi_tuple_n, isi_tuple_s, isi_tuple_t, isi_tuple_l, isi_list_i, isi_list_b, isi_list_n, isi_list_s, isi_list_t, isi_list_l, W_eq2I, W_intB, k_R1_eq, k_R2_eq, W_R1q, W_ixDT, W_ixDL, W_ixDF, k_opt, atI_lit, W_gTpT, W_gTpL, W_noPart, W_part, k_part, W_sl, k_sl1, k_sl2, k_sl3T, k_sl3L, W_revT, W_revL, W_meth, k_meth2, W_prop, W_make, k_make, k_made, W_sFld, k_fldS1, W_app, W_bits, W_gSt, k_st1, W_gSl, k_gsl1, k_gsl2, W_rgT, W_rgL, W_rgS, W_rg1, k_rg1, W_miS, k_itS, W_E2, k_en2_tup, k_en2_lst, k_en2_frz, W_par, k_par, W_par3, k_par3, W_dct0, W_disp, W_pnil, W_pcons, k_ps1, k_ps2, k_ps3, W_dc, k_dc1, k_dc2_t, k_dc2_f, k_dc3, k_dc4, isi_str_i, isi_str_b, isi_str_n, isi_str_s, isi_str_t, isi_str_l, $ts,*])
local macro_rules | `(tactic| simp_arith) => `(tactic| simp_arith [])
section
set_option maxHeartbeats 1000000
variable {Q : D → Store → Prop} {E : Er → Store → Prop} {S : Store}
/-- the law's goal, in the store at first -/
def GoalAt (S : Store) (d : D) (es : List Ent) : Prop := d = .lst (es.map entL) ∨ ∃ q, d = .ref q ∧ S[q]? = some (.lst (es.map entL))
theorem k_slG {d : D} {es : List Ent} {lo hi : Option Int} (h : GoalAt S d es) : kSl3 Q E d lo hi S = Q (.lst (cutD (es.map entL) lo hi)) S := by
  rcases h with rfl | ⟨q, rfl, hq⟩
  · exact k_sl3L
  · exact k_sl3S hq
theorem W_law_form {d e : D} {st : Sett} {long : Int} {steps : List Stp} (k : SetOk st) (h : OwnAt S d st) (hd : PlanAt S e steps) (hl : steps.length < 1000) (hs : ∀ p ∈ steps, StepOk st long p) (l0 : 0 ≤ long) (l1 : long ≤ 60)
    (hq : ∀ S', Ext S S' → Q (formD (rawOn st steps (startE long st.size))) S') : W (m__law_form [d, e, .int long] S) Q E := by
  have h' := h
  obtain ⟨nm, na, ra, rfl, h2, h3, h4⟩ := h'
  have s4 := k.s4
  have s1 := k.s1
  have hstart := length_start (size := st.size) l0
  unfold m__law_form
  simp_arith []
  refine ⟨by omega, by omega, ?_⟩
  have a0 : (S ++ [O.lst []])[S.length]? = some (.lst []) := at_end
  have p0 : Ext S (S ++ [O.lst []]) := Ext.app
  generalize hm : S.length = m at a0 ⊢
  generalize S ++ [O.lst []] = S0 at a0 p0 ⊢
  refine k_for (lst_R _ _) (by rw [length_rangeD]; unfold BIG; omega) (fun i ρ S' => Ext S S' ∧ S'[m]? = some (.lst (((startE long st.size).take i).map entL)) ∧ ∃ a b c f g t u, ρ = [some (.lst [.int st.size, .ref nm, .ref na, .bl st.turning]), some e, some (.int long), some (.ref m), a, b, c, f, g, t, u]) ⟨p0, a0, _, _, _, _, _, _, _, rfl⟩ (fun i y ρ S' hi hI => ?_) (fun ρ S' hI => ?_)
  · obtain ⟨hE, hm1, a, b, c, f, g, t, u, rfl⟩ := hI
    obtain ⟨hlt, rfl⟩ := rangeD_get hi
    simp_arith []
    rw [k_app1 hm1]
    simp_arith []
    rw [k_rgT (by omega) (by omega)]
    simp_arith []
    rw [k_app2 hm1 (by rw [List.length_map, List.length_take]; unfold sizeLine; omega)]
    simp_arith []
    refine ⟨hE.set (Nat.le_of_eq hm), ?_, _, _, _, _, _, _, _, rfl⟩
    rw [set_at hm1, List.take_add_one, List.map_append]
    have : (startE long st.size)[i]? = some ((i : Int), upTo st.size) := by
      unfold startE
      rw [List.getElem?_map]
      unfold upTo
      rw [List.getElem?_map, List.getElem?_range hlt]
      rfl
    rw [this, rgD_upTo, Int.zero_add]
    rfl
  · obtain ⟨hE, hm1, a, b, c, f, g, t, u, rfl⟩ := hI
    rw [length_rangeD, show long.toNat = (startE long st.size).length by omega, List.take_length] at hm1
    simp_arith []
    refine k_planFor (hd.ext hE) hl (fun i ρ S2 => S2 = S' ∧ ∃ gd a b c f g t u, GoalAt S' gd (rawOn st (steps.take i) (startE long st.size)) ∧ ρ = [some (.lst [.int st.size, .ref nm, .ref na, .bl st.turning]), some e, some (.int long), some gd, a, b, c, f, g, t, u]) ⟨rfl, _, _, _, _, _, _, _, _, .inr ⟨m, rfl, hm1⟩, rfl⟩ (fun i ρ S2 hI => by rw [hI.1]; exact hd.ext hE) (fun i p ρ S2 hi hI => ?_) (fun ρ S2 hI => ?_)
    · obtain ⟨rfl, gd, a, b, c, f, g, t, u, hG, rfl⟩ := hI
      obtain ⟨s1, s2, s3, s4⟩ := hs p (List.mem_of_getElem? hi)
      have hlen : ((rawOn st (steps.take i) (startE long st.size)).length : Int) = long := by
        rw [length_raw fun q hq => by rw [hstart]; exact hs q (List.mem_of_mem_take hq)]
        exact hstart
      have hok : ∀ e ∈ rawOn st (steps.take i) (startE long st.size), EntOk st long e := ok_raw k (fun q hq => (hs q (List.mem_of_mem_take hq)).1) (start_ok k)
      rw [raw_succ hi]
      generalize rawOn st (steps.take i) (startE long st.size) = r at hlen hok hG
      have hmid : ∀ e ∈ (r.drop p.2.1.toNat).take (p.2.2.toNat - p.2.1.toNat), EntOk st long e := fun v hv => hok v (List.mem_of_mem_drop (List.mem_of_mem_take hv))
      have hml : ((r.drop p.2.1.toNat).take (p.2.2.toNat - p.2.1.toNat)).length ≤ 60 := by rw [List.length_take, List.length_drop]; omega
      have h2' := hE.at h2
      have fin : ∀ {es : List Ent} {ρ' : Rho}, es = actE st p.1 ((r.drop p.2.1.toNat).take (p.2.2.toNat - p.2.1.toNat)) → (∃ a b c f g t u, ρ' = [some (.lst [.int st.size, .ref nm, .ref na, .bl st.turning]), some e, some (.int long), some (.lst ((r.take p.2.1.toNat ++ es ++ r.drop p.2.2.toNat).map entL)), a, b, c, f, g, t, u]) →
          ∃ gd a b c f g t u, GoalAt S2 gd (cutMid p.2.1 p.2.2 (actE st p.1) r) ∧ ρ' = [some (.lst [.int st.size, .ref nm, .ref na, .bl st.turning]), some e, some (.int long), some gd, a, b, c, f, g, t, u] := fun {es ρ'} hes hρ => by
        obtain ⟨a, b, c, f, g, t, u, rfl⟩ := hρ
        refine ⟨_, _, _, _, _, _, _, _, .inl ?_, rfl⟩
        unfold cutMid
        rw [hes]
      unfold stepD
      simp_arith []
      rw [W_eqS (k.strOk s1) (by decide +kernel)]
      have hfl : (r.take p.2.1.toNat).length + ((r.drop p.2.1.toNat).take (p.2.2.toNat - p.2.1.toNat)).length ≤ 60 := by rw [List.length_take, List.length_take, List.length_drop]; omega
      have hfl2 : (r.take p.2.1.toNat).length + ((r.drop p.2.1.toNat).take (p.2.2.toNat - p.2.1.toNat)).length + (r.drop p.2.2.toNat).length ≤ 200 := by rw [List.length_take, List.length_take, List.length_drop, List.length_drop]; omega
      rcases k.deed s1 with ⟨ht, _⟩ | ⟨d1, d2⟩
      · rw [decide_eq_true ht]
        simp_arith []
        rw [k_slG hG]
        simp_arith []
        rw [k_slG hG]
        simp_arith []
        rw [cutD_mid s2 (by rw [List.length_map]; omega) (by omega) (by rw [List.length_map]; omega), cutD_lo s2, ← List.map_take, ← List.map_drop, ← List.map_take, ← List.map_reverse]
        rw [W_addL (by rw [List.length_map, List.length_map, List.length_reverse]; unfold sizeLine; omega), ← List.map_append]
        simp_arith []
        rw [k_slG hG, cutD_hi (by omega), ← List.map_drop]
        simp_arith []
        rw [W_addL (by rw [List.length_map, List.length_map, List.length_append, List.length_reverse]; unfold sizeLine; omega), ← List.map_append]
        simp_arith []
        exact ⟨trivial, fin (by unfold actE; rw [if_pos ht]) ⟨_, _, _, _, _, _, _, rfl⟩⟩
      · rw [decide_eq_false d1]
        obtain ⟨ha, hml', hmv⟩ := k.map d2
        simp_arith []
        rw [k_slG hG]
        simp_arith []
        rw [cutD_mid s2 (by rw [List.length_map]; omega) (by omega) (by rw [List.length_map]; omega), ← List.map_drop, ← List.map_take]
        refine k_ents (fo := fun e => entL (mapE st p.1 e)) (F := fun d => entL (mapE st p.1 (entD d))) (by omega) (fun e => by rw [entD_L]) (fun en he Y hY => ?_) ?_
        · have l := (hmid en he).l
          unfold entL
          simp_arith []
          rw [show rowD en.2 = .tup (en.2.map .int) from rfl]
          simp_arith []
          refine k_look (m := mapOf st p.1) (by omega) (fun v hv Y hY => ?_) ?_
          · obtain ⟨v0, v1⟩ := (hmid en he).v v hv
            simp_arith []
            rw [W_ixDK h2' rfl ha]
            simp_arith []
            rw [show rowD (mapOf st p.1) = .tup ((mapOf st p.1).map .int) from rfl]
            simp_arith []
            rw [atI_row hml' v0 v1]
            exact hY
          · simp_arith []
            exact hY
        · simp_arith []
          rw [k_slG hG]
          simp_arith []
          rw [show ∀ es : List Ent, es.map (fun e => entL (mapE st p.1 e)) = (es.map (mapE st p.1)).map entL from fun es => by rw [List.map_map]; rfl]
          rw [cutD_lo s2, ← List.map_take]
          rw [W_addL (by rw [List.length_map, List.length_map, List.length_map]; unfold sizeLine; omega), ← List.map_append]
          simp_arith []
          rw [k_slG hG, cutD_hi (by omega), ← List.map_drop]
          simp_arith []
          rw [W_addL (by rw [List.length_map, List.length_map, List.length_append, List.length_map]; unfold sizeLine; omega), ← List.map_append]
          simp_arith []
          exact ⟨trivial, fin (by unfold actE; rw [if_neg d1]) ⟨_, _, _, _, _, _, _, rfl⟩⟩
    · obtain ⟨rfl, gd, a, b, c, f, g, t, u, hG, rfl⟩ := hI
      rw [List.take_length] at hG
      have hlen : ((rawOn st steps (startE long st.size)).length : Int) = long := by
        rw [length_raw fun q hq => by rw [hstart]; exact hs q hq]
        exact hstart
      have hok : ∀ e ∈ rawOn st steps (startE long st.size), EntOk st long e := ok_raw k (fun q hq => (hs q hq).1) (start_ok k)
      have hq' := hq S2 hE
      generalize rawOn st steps (startE long st.size) = r at hlen hok hG hq'
      have hit : ∀ {QI : ItD → Store → Prop}, (∀ it, (∀ i, it.get i S2 = some (r.map entL)[i]?) → QI it S2) → kIt QI gd S2 := fun {QI} hh => by
        rcases hG with rfl | ⟨q, rfl, hq⟩
        · exact hh _ fun i => lst_L _ i S2
        · rw [k_it_ref hq]
          exact hh _ fun i => get_itS hq i
      simp_arith []
      refine hit fun it hit => ?_
      refine k_lc_mapI (f := fun d => entF (entD d)) (r.map entL) (by rw [List.length_map]; unfold sizeLine; omega) (fun S' => S' = S2) rfl (fun i S' hS => by rw [hS]; exact hit i) (fun y hy S3 hS Y hY => ?_) (fun S3 hS => ?_)
      · subst hS
        obtain ⟨e, he, rfl⟩ := List.mem_map.mp hy
        have hY' := hY S3 rfl
        rw [entD_L] at hY'
        have l := (hok e he).l
        unfold entL
        simp_arith []
        rw [W_one (by omega)]
        simp_arith []
        rw [cast_one]
        unfold entF plcD at hY'
        cases ho : oneB e.2 with
        | true =>
          rw [ho] at hY'
          simp_arith []
          exact hY'
        | false =>
          rw [ho] at hY'
          simp_arith []
          exact hY'
      · subst hS
        simp_arith []
        rw [List.map_map, show (fun d => entF (entD d)) ∘ entL = entF from funext fun e => by show entF (entD (entL e)) = _; rw [entD_L]]
        exact hq'
end
end MM

/-! What the law's draws come to. -/
/-! Idle steps and swaps: the walks. -/
namespace MM
open PySem L2 PyProof.Rows
local macro_rules | `(tactic| simp_arith [$ts,*]) => `(tactic| simp -implicitDefEqProofs only [W_ok, W_var, k_var, W_c, W_op, k_op1, k_op2, W_un, k_un, W_nil, W_cons, k_cons1, k_cons2, W_call, k_call, W_tup, k_tup, W_lst, k_lst, W_lstS, k_lstS, W_seq, k_seq_nx, k_seq_rt, k_seq_bk, k_seq_ct, W_expr, k_expr, W_ret, k_ret, W_retN, W_nx, W_bk, W_ct, W_if, k_if_t, k_if_f, W_ifE, k_ifE_t, k_ifE_f, W_b, k_b, W_andT, k_andT_t, k_andT_f, W_orT, k_orT_t, k_orT_f, W_notT, k_notT, W_yes, W_andV, k_andV_t, k_andV_f, W_orV, k_orV_t, k_orV_f, W_notV, k_notV, W_cmpC, k_cmp1, k_cmp2, k_cmp3_t, k_cmp3_f, W_asg, k_asg, k_asg2, W_gN, W_gsNil, W_gsCons, k_gs, W_gTp, W_gIx, k_ix1, W_for, W_lc, W_lcS, W_next, W_miA, k_it_tup, k_it_lst, k_it_frz, W_def, k_def_rt, k_def_nx, W_callK, k_CK1, k_CK2, perm, List.filterMap_cons, List.filterMap_nil, and_self, W_f2I, W_addI, W_int, W_2L, W_is, W_lenT, W_lenL, W_lenF, W_tupleT, W_tupleL, W_tupleF, k_body, k_loop_nx, k_loop_ct, k_loop_bk, k_loop_rt, k_lc1, k_lc2_t, k_lc2_f, List.map_cons, List.map_nil, List.length_cons, List.length_nil, List.reduceReplicate, Nat.reduceSub, Nat.reduceAdd, Int.reduceAdd, Int.reduceSub, Int.reduceMul, Int.reduceNeg, Int.reduceLT, Int.reduceLE, Int.reduceEq, Int.cast_ofNat_Int, Int.natCast_zero, Int.natCast_one, eq_self, decide_true, decide_false, Bool.and_true, Bool.true_and, Bool.false_and, Bool.and_false, Nat.zero_add, List.replicate_zero, List.replicate_succ, List.cons_append, List.nil_append, List.append_nil, List.getElem?_cons_zero, List.getElem?_cons_succ, List.set_cons_zero, List.set_cons_succ, wipeD, Bool.not_true, Bool.not_false, if_true, if_false, reduceIte, isNon, Bool.false_eq_true, k_el, W_E, k_en_tup, k_en_lst, isi_int_i, isi_int_b, isi_int_n, isi_int_s, isi_int_t, isi_int_l, isi_bool_i, isi_bool_b, isi_bool_n, isi_bool_s, isi_bool_t, isi_bool_l, isi_tuple_i, isi_tuple_b, isi_tuple_n, isi_tuple_s, isi_tuple_t, isi_tuple_l, isi_list_i, isi_list_b, isi_list_n, isi_list_s, isi_list_t, isi_list_l, W_eq2I, W_intB, k_R1_eq, k_R2_eq, W_R1q, W_ixDT, W_ixDL, W_ixDF, k_opt, atI_lit, W_gTpT, W_gTpL, W_noPart, W_part, k_part, W_sl, k_sl1, k_sl2, k_sl3T, k_sl3L, W_revT, W_revL, W_meth, k_meth2, W_prop, W_make, k_make, k_made, W_sFld, k_fldS1, W_app, W_bits, W_gSt, k_st1, W_gSl, k_gsl1, k_gsl2, W_rgT, W_rgL, W_rgS, W_rg1, k_rg1, W_miS, k_itS, W_E2, k_en2_tup, k_en2_lst, k_en2_frz, W_par, k_par, W_par3, k_par3, W_dct0, W_disp, W_pnil, W_pcons, k_ps1, k_ps2, k_ps3, W_dc, k_dc1, k_dc2_t, k_dc2_f, k_dc3, k_dc4, isi_str_i, isi_str_b, isi_str_n, isi_str_s, isi_str_t, isi_str_l, $ts,*])
local macro_rules | `(tactic| simp_arith) => `(tactic| simp_arith [])
section
set_option maxHeartbeats 1000000
variable {Q : D → Store → Prop} {E : Er → Store → Prop} {S : Store}
/-! ### picked numbers -/
def pickN (B : Nat → Bool) (n : Nat) : List Int := ((List.range n).filter B).map fun (k : Nat) => (k : Int)
theorem pick_succ {B : Nat → Bool} {n : Nat} : pickN B (n + 1) = pickN B n ++ (if B n = true then [(n : Int)] else []) := by
  unfold pickN
  rw [List.range_succ, List.filter_append, List.map_append]
  congr 1
  cases h : B n with
  | true =>
    rw [List.filter_cons_of_pos h]
    rfl
  | false =>
    rw [List.filter_cons_of_neg (by rw [h]; decide)]
    rfl
theorem length_pick {B : Nat → Bool} {n : Nat} : (pickN B n).length ≤ n := by
  unfold pickN
  rw [List.length_map]
  refine Nat.le_trans (List.length_filter_le _ _) ?_
  rw [List.length_range]
  exact Nat.le_refl _
theorem k_pick {QA : List D → Store → Prop} {g : MG0} {tt : MT0} {te : ME0} {vs : List Nat} {ρ : Rho} {it : ItD} (xs : List D) (n : Nat) (hn : xs.length = n) (hl : n < 1000) (B : Nat → Bool) (hx : it.Lst xs)
    (h : ∀ i d S', xs[i]? = some d → i < n → Ext S S' → ∀ (Y : D → Store → Prop) (N : Store → Prop), (∀ S2, Ext S S2 → if B i = true then Y (.int i) S2 else N S2) → W (g d (wipeD ρ vs) S') (kLc1 tt te Y N) Er0)
    (hq : ∀ S', Ext S S' → QA ((pickN B n).map .int) S') : kLc QA E g tt te vs ρ it S := by
  refine k_lcI xs (by rw [hn]; unfold BIG; omega) (fun i acc S' => Ext S S' ∧ acc = (pickN B i).map .int) ⟨Ext.refl, rfl⟩ (fun i acc S' _ => hx i S') (fun i d acc S' hi hI => ?_) fun acc S' hI => ?_
  · obtain ⟨hE, rfl⟩ := hI
    have hlt : i < n := by have := (List.getElem?_eq_some_iff.mp hi).1; omega
    refine h i d S' hi hlt hE _ _ fun S2 h2 => ?_
    have hll := length_pick (B := B) (n := i)
    rw [pick_succ]
    cases hb : B i with
    | true =>
      rw [if_pos rfl]
      refine ⟨by rw [List.length_map]; unfold sizeLine; omega, h2, ?_⟩
      rw [if_pos rfl, List.map_append]
      rfl
    | false =>
      rw [if_neg (by decide)]
      refine ⟨h2, ?_⟩
      rw [if_neg (by decide), List.append_nil]
  · obtain ⟨hE, rfl⟩ := hI
    rw [hn]
    exact hq S' hE
/-! ### plans that are changed -/
def dropK (steps : List Stp) (k : Nat) : List Stp := steps.take k ++ steps.drop (k + 1)
def atK (steps : List Stp) (k : Nat) : Stp := steps.getD k ("", 0, 0)
def swapK (steps : List Stp) (k : Nat) : List Stp := steps.take k ++ [atK steps (k + 1), atK steps k] ++ steps.drop (k + 2)
def formE (st : Sett) (long : Int) (steps : List Stp) : D := formD (rawOn st steps (startE long st.size))
def same (st : Sett) (long : Int) (a b : List Stp) : Bool := eqD (formE st long a) (formE st long b)
def idleL (st : Sett) (long : Int) (steps : List Stp) : List Int := pickN (fun k => same st long (dropK steps k) steps) steps.length
def swapL (st : Sett) (long : Int) (steps : List Stp) : List Int := pickN (fun k => same st long (swapK steps k) steps) (steps.length - 1)
theorem drop_mem {steps : List Stp} {k : Nat} {p : Stp} (h : p ∈ dropK steps k) : p ∈ steps := by
  rcases List.mem_append.mp h with h | h
  · exact List.mem_of_mem_take h
  · exact List.mem_of_mem_drop h
theorem atK_get {steps : List Stp} {k : Nat} (h : k < steps.length) : steps[k]? = some (atK steps k) := by
  unfold atK
  rw [List.getD_eq_getElem?_getD, List.getElem?_eq_getElem h]
  rfl
theorem swap_mem {steps : List Stp} {k : Nat} (hk : k + 1 < steps.length) {p : Stp} (h : p ∈ swapK steps k) : p ∈ steps := by
  unfold swapK at h
  rcases List.mem_append.mp h with h | h
  · rcases List.mem_append.mp h with h | h
    · exact List.mem_of_mem_take h
    · rcases List.mem_cons.mp h with h | h
      · rw [h]
        exact List.mem_of_getElem? (atK_get hk)
      · rw [List.mem_singleton.mp h]
        exact List.mem_of_getElem? (atK_get (by omega))
  · exact List.mem_of_mem_drop h
theorem length_drop1 {steps : List Stp} {k : Nat} : (dropK steps k).length ≤ steps.length + 1 := by
  unfold dropK
  rw [List.length_append, List.length_take, List.length_drop]
  omega
theorem length_swap {steps : List Stp} {k : Nat} : (swapK steps k).length ≤ steps.length + 2 := by
  unfold swapK
  rw [List.length_append, List.length_append, List.length_take, List.length_drop]
  show _ + 2 + _ ≤ _
  omega
theorem flat_formE {st : Sett} {long : Int} {steps : List Stp} : flat 64 (formE st long steps) = true := flat_form (n := 61) _
theorem W_idle {n : Nat} {st : Sett} {long : Int} {d : D} {steps : List Stp} (k : SetOk st) (h : SetAt S n st) (hd : PlanAt S d steps) (hl : steps.length < 900) (hs : ∀ p ∈ steps, StepOk st long p) (l0 : 0 ≤ long) (l1 : long ≤ 60)
    (hq : ∀ S' m, Ext S S' → S.length ≤ m → S'[m]? = some (.lst ((idleL st long steps).map .int)) → Q (.ref m) S') : W (m_idle [.ref n, d, .int long] S) Q E := by
  unfold m_idle
  simp_arith []
  refine W_form_of k h hd (by omega) hs l0 l1 fun S1 e1 => ?_
  rw [show formD (rawOn st steps (startE long st.size)) = formE st long steps from rfl]
  have h1 := h.ext e1
  have hd1 := hd.ext e1
  simp_arith []
  rw [W_lenP hd1]
  simp_arith []
  refine ⟨by omega, by omega, ?_⟩
  refine k_lc_map (lst_R _ _) (f := fun d => match d with | .int k => .lst ((dropK steps k.toNat).map stepD) | _ => .non) (by rw [length_rangeD]; unfold sizeLine; omega) (fun y hy Y hY => ?_) ?_
  · obtain ⟨i, hi, rfl⟩ := List.mem_map.mp hy
    have hi := List.mem_range.mp hi
    obtain ⟨da, ha, hsa⟩ := k_slP (lo := none) (hi := some (0 + (i : Int))) hd1
    obtain ⟨db, hb, hsb⟩ := k_slP (lo := some (0 + (i : Int) + 1)) (hi := none) hd1
    simp_arith []
    rw [ha]
    simp_arith []
    rw [W_frL (lList_seq hsa)]
    simp_arith []
    rw [hb]
    simp_arith []
    rw [W_frL (lList_seq hsb)]
    simp_arith []
    rw [cutD_lo (by omega), cutD_hi (by omega), ← List.map_take, ← List.map_drop]
    rw [W_addL (by rw [List.length_map, List.length_map, List.length_take, List.length_drop]; unfold sizeLine; omega), ← List.map_append]
    rw [show (0 + (i : Int) + 1).toNat = (0 + (i : Int)).toNat + 1 by omega]
    exact hY
  · have e2 : (rangeD 0 (steps.length : Int).toNat).map (fun (d : D) => match d with | .int k => D.lst ((dropK steps k.toNat).map stepD) | _ => D.non) = (List.range steps.length).map fun k => D.lst ((dropK steps k).map stepD) := by
      unfold rangeD
      rw [List.map_map, show (steps.length : Int).toNat = steps.length by omega]
      exact List.map_congr_left fun i _ => by
        show D.lst ((dropK steps (0 + (i : Int)).toNat).map stepD) = _
        rw [show (0 + (i : Int)).toNat = i by omega]
    rw [e2]
    simp_arith []
    refine k_pick (enumD ((List.range steps.length).map fun k => .lst ((dropK steps k).map stepD))) steps.length (by unfold enumD; rw [List.length_map, List.length_zipIdx, List.length_map, List.length_range]) (by omega) (fun k => same st long (dropK steps k) steps) (lst_E _) (fun i y S2 hi hlt e2 Y N hY => ?_) fun S2 e2 => ?_
    · unfold enumD at hi
      rw [List.getElem?_map, List.getElem?_zipIdx, List.getElem?_map, List.getElem?_range hlt] at hi
      obtain rfl := Option.some.inj hi
      simp_arith []
      refine W_plain_form (d := .lst ((dropK steps i).map stepD)) k (h1.ext e2) (.inr (.inl rfl)) (by have := length_drop1 (steps := steps) (k := i); omega) (fun p hp => hs p (drop_mem hp)) l0 l1 fun S3 e3 => ?_
      rw [show formD (rawOn st (dropK steps i) (startE long st.size)) = formE st long (dropK steps i) from rfl]
      simp_arith []
      rw [W_eq2F flat_formE flat_formE]
      have hY' := hY S3 (e2.trans e3)
      have e : eqD (formE st long (dropK steps i)) (formE st long steps) = same st long (dropK steps i) steps := rfl
      rw [e]
      cases hb : same st long (dropK steps i) steps with
      | true =>
        rw [hb, if_pos rfl] at hY'
        simp_arith []
        simpa using hY'
      | false =>
        rw [hb, if_neg (by decide)] at hY'
        simp_arith []
        exact hY'
    · simp_arith []
      refine hq _ _ ((e1.trans e2).trans Ext.app) ?_ at_end
      exact Nat.le_trans e1.1 e2.1
theorem W_swaps {n : Nat} {st : Sett} {long : Int} {d : D} {steps : List Stp} (k : SetOk st) (h : SetAt S n st) (hd : PlanAt S d steps) (hl : steps.length < 900) (hs : ∀ p ∈ steps, StepOk st long p) (l0 : 0 ≤ long) (l1 : long ≤ 60)
    (hq : ∀ S' m, Ext S S' → S.length ≤ m → S'[m]? = some (.lst ((swapL st long steps).map .int)) → Q (.ref m) S') : W (m_swaps [.ref n, d, .int long] S) Q E := by
  unfold m_swaps
  simp_arith []
  refine W_form_of k h hd (by omega) hs l0 l1 fun S1 e1 => ?_
  rw [show formD (rawOn st steps (startE long st.size)) = formE st long steps from rfl]
  simp_arith []
  have p0 : Ext S (S1 ++ [O.lst []]) := e1.trans Ext.app
  have a0 : (S1 ++ [O.lst []])[S1.length]? = some (.lst []) := at_end
  have hm : S.length ≤ S1.length := e1.1
  generalize S1.length = m at a0 hm ⊢
  generalize S1 ++ [O.lst []] = S2 at a0 p0 ⊢
  rw [W_lenP (hd.ext p0)]
  simp_arith []
  refine ⟨by omega, by omega, ?_⟩
  have hnn : ((steps.length : Int) - 1).toNat = steps.length - 1 := by omega
  refine k_for (lst_R _ _) (by rw [length_rangeD]; unfold BIG; omega) (fun i ρ S' => Ext S S' ∧ S'[m]? = some (.lst ((pickN (fun k => same st long (swapK steps k) steps) i).map .int)) ∧ ∃ a b, ρ = [some (.ref n), some d, some (.int long), some (formE st long steps), some (.ref m), a, b]) ⟨p0, a0, _, _, rfl⟩ (fun i y ρ S' hi hI => ?_) (fun ρ S' hI => ?_)
  · obtain ⟨hE, hm1, a, b, rfl⟩ := hI
    obtain ⟨hlt, rfl⟩ := rangeD_get hi
    have hd1 := hd.ext hE
    obtain ⟨da, ha, hsa⟩ := k_slP (lo := none) (hi := some (0 + (i : Int))) hd1
    obtain ⟨db, hb, hsb⟩ := k_slP (lo := some (0 + (i : Int) + 2)) (hi := none) hd1
    simp_arith []
    rw [ha]
    simp_arith []
    rw [W_frL (lList_seq hsa)]
    simp_arith []
    rw [W_ixP hd1, atI_map (z := (("", 0, 0) : Stp)) (by omega) (by omega)]
    simp_arith []
    rw [W_ixP hd1, atI_map (z := (("", 0, 0) : Stp)) (by omega) (by omega)]
    simp_arith []
    rw [cutD_lo (by omega), ← List.map_take]
    rw [show ((0 : Int) + i + 1).toNat = i + 1 by omega, show ((0 : Int) + i).toNat = i by omega]
    rw [show [stepD (steps.getD (i + 1) ("", 0, 0)), stepD (steps.getD i ("", 0, 0))] = [atK steps (i + 1), atK steps i].map stepD from rfl]
    rw [W_addL (by rw [List.length_map, List.length_map, List.length_take]; show _ + 2 ≤ _; unfold sizeLine; omega), ← List.map_append]
    simp_arith []
    rw [hb]
    simp_arith []
    rw [W_frL (lList_seq hsb)]
    simp_arith []
    rw [cutD_hi (by omega), ← List.map_drop, show ((0 : Int) + i + 2).toNat = i + 2 by omega]
    rw [W_addL (by rw [List.length_map, List.length_map, List.length_append, List.length_take, List.length_drop]; show _ + 2 + _ ≤ _; unfold sizeLine; omega), ← List.map_append]
    rw [show steps.take i ++ [atK steps (i + 1), atK steps i] ++ steps.drop (i + 2) = swapK steps i from rfl]
    simp_arith []
    refine W_plain_form (d := .lst ((swapK steps i).map stepD)) k (h.ext hE) (.inr (.inl rfl)) (by have := length_swap (steps := steps) (k := i); omega) (fun p hp => hs p (swap_mem (by omega) hp)) l0 l1 fun S3 e3 => ?_
    rw [show formD (rawOn st (swapK steps i) (startE long st.size)) = formE st long (swapK steps i) from rfl]
    simp_arith []
    rw [W_eq2F flat_formE flat_formE]
    have e : eqD (formE st long (swapK steps i)) (formE st long steps) = same st long (swapK steps i) steps := rfl
    rw [e, pick_succ]
    have hm3 := e3.at hm1
    have hE3 := hE.trans e3
    have hll := length_pick (B := fun k => same st long (swapK steps k) steps) (n := i)
    cases hb : same st long (swapK steps i) steps with
    | true =>
      simp_arith []
      rw [k_app1 hm3]
      simp_arith []
      rw [k_app2 hm3 (by rw [List.length_map]; unfold sizeLine; omega)]
      simp_arith []
      refine ⟨hE3.set hm, ?_, _, _, rfl⟩
      rw [set_at hm3]
      simp only [hb, if_true, List.map_append, Int.zero_add]
      rfl
    | false =>
      simp_arith []
      refine ⟨hE3, ?_, _, _, rfl⟩
      exact hm3
  · obtain ⟨hE, hm1, a, b, rfl⟩ := hI
    rw [length_rangeD, hnn] at hm1
    simp_arith []
    exact hq S' m hE hm hm1
end
end MM

/-! What the law's draws come to. -/
/-! k34: the law's own doing. -/
namespace MM
open PySem L2 PyProof.Rows
local macro_rules | `(tactic| simp_arith [$ts,*]) => `(tactic| simp -implicitDefEqProofs only [W_ok, W_var, k_var, W_c, W_op, k_op1, k_op2, W_un, k_un, W_nil, W_cons, k_cons1, k_cons2, W_call, k_call, W_tup, k_tup, W_lst, k_lst, W_lstS, k_lstS, W_seq, k_seq_nx, k_seq_rt, k_seq_bk, k_seq_ct, W_expr, k_expr, W_ret, k_ret, W_retN, W_nx, W_bk, W_ct, W_if, k_if_t, k_if_f, W_ifE, k_ifE_t, k_ifE_f, W_b, k_b, W_andT, k_andT_t, k_andT_f, W_orT, k_orT_t, k_orT_f, W_notT, k_notT, W_yes, W_andV, k_andV_t, k_andV_f, W_orV, k_orV_t, k_orV_f, W_notV, k_notV, W_cmpC, k_cmp1, k_cmp2, k_cmp3_t, k_cmp3_f, W_asg, k_asg, k_asg2, W_gN, W_gsNil, W_gsCons, k_gs, W_gTp, W_gIx, k_ix1, W_for, W_lc, W_lcS, W_next, W_miA, k_it_tup, k_it_lst, k_it_frz, W_def, k_def_rt, k_def_nx, W_callK, k_CK1, k_CK2, perm, List.filterMap_cons, List.filterMap_nil, and_self, W_f2I, W_addI, W_int, W_2L, W_is, W_lenT, W_lenL, W_lenF, W_tupleT, W_tupleL, W_tupleF, k_body, k_loop_nx, k_loop_ct, k_loop_bk, k_loop_rt, k_lc1, k_lc2_t, k_lc2_f, List.map_cons, List.map_nil, List.length_cons, List.length_nil, List.reduceReplicate, Nat.reduceSub, Nat.reduceAdd, Int.reduceAdd, Int.reduceSub, Int.reduceMul, Int.reduceNeg, Int.reduceLT, Int.reduceLE, Int.reduceEq, Int.cast_ofNat_Int, Int.natCast_zero, Int.natCast_one, eq_self, decide_true, decide_false, Bool.and_true, Bool.true_and, Bool.false_and, Bool.and_false, Nat.zero_add, List.replicate_zero, List.replicate_succ, List.cons_append, List.nil_append, List.append_nil, List.getElem?_cons_zero, List.getElem?_cons_succ, List.set_cons_zero, List.set_cons_succ, wipeD, Bool.not_true, Bool.not_false, if_true, if_false, reduceIte, isNon, Bool.false_eq_true, k_el, W_E, k_en_tup, k_en_lst, isi_int_i, isi_int_b, isi_int_n, isi_int_s, isi_int_t, isi_int_l, isi_bool_i, isi_bool_b, isi_bool_n, isi_bool_s, isi_bool_t, isi_bool_l, isi_tuple_i, isi_tuple_b, isi_tuple_n, isi_tuple_s, isi_tuple_t, isi_tuple_l, isi_list_i, isi_list_b, isi_list_n, isi_list_s, isi_list_t, isi_list_l, W_eq2I, W_intB, k_R1_eq, k_R2_eq, W_R1q, W_ixDT, W_ixDL, W_ixDF, k_opt, atI_lit, W_gTpT, W_gTpL, W_noPart, W_part, k_part, W_sl, k_sl1, k_sl2, k_sl3T, k_sl3L, W_revT, W_revL, W_meth, k_meth2, W_prop, W_make, k_make, k_made, W_sFld, k_fldS1, W_app, W_bits, W_gSt, k_st1, W_gSl, k_gsl1, k_gsl2, W_rgT, W_rgL, W_rgS, W_rg1, k_rg1, W_miS, k_itS, W_E2, k_en2_tup, k_en2_lst, k_en2_frz, W_par, k_par, W_par3, k_par3, W_dct0, W_disp, W_pnil, W_pcons, k_ps1, k_ps2, k_ps3, W_dc, k_dc1, k_dc2_t, k_dc2_f, k_dc3, k_dc4, isi_str_i, isi_str_b, isi_str_n, isi_str_s, isi_str_t, isi_str_l, $ts,*])
local macro_rules | `(tactic| simp_arith) => `(tactic| simp_arith [])
section
set_option maxHeartbeats 1000000
variable {Q : D → Store → Prop} {E : Er → Store → Prop} {S : Store}
theorem pyR_ints {n : Nat} {f : Nat} {xs : List Int} (h : S[n]? = some (.lst (xs.map .int))) : toPyR S (f + 2) (.ref n) = some (pyOf (.lst (xs.map .int))) := by
  show (match lstAt S n with
    | some ds => (optAll (ds.map (toPyR S (f + 1)))).map PyData.list
    | none => none) = _
  rw [lst_of_get h]
  show (optAll ((xs.map D.int).map (toPyR S (f + 1)))).map PyData.list = _
  rw [flatL_pyR (n := 0) (by
    refine flatL_map fun x _ => ?_
    rfl) (by omega)]
  unfold pyOf
  rfl
/-- [a, b] == [xs, c] of lists that stand in the store -/
theorem W_eqTwo {neg : Bool} {a b c : Nat} {xs ys : List Int} (ha : S[a]? = some (.lst (xs.map .int))) (hb : S[b]? = some (.lst (ys.map .int))) (hc : S[c]? = some (.lst (ys.map .int))) :
    W (fEq2 neg (.lst [.ref a, .ref b]) (.lst [.lst (xs.map .int), .ref c]) S) Q E = Q (.bl (!neg)) S := by
  have fl : ∀ {zs : List Int}, flat 63 (.lst (zs.map .int)) = true := fun {zs} => by
    unfold flat
    exact flatL_map fun x _ => rfl
  have hx : flat 64 (.lst [.lst (xs.map .int), .lst (ys.map .int)]) = true := by
    unfold flat flatL flatL flatL
    rw [fl, fl]
    rfl
  have nx : noB (.lst [.lst (xs.map .int), .lst (ys.map .int)]) = true := by
    have : ∀ zs : List Int, noB (.lst (zs.map .int)) = true := fun zs => by
      unfold noB
      exact noBL_map fun _ _ => rfl
    unfold noB noBL noBL noBL
    rw [this, this]
    rfl
  have e0 : ∀ {d e : D} {p q : PyData}, toPyR S 69 d = some p → toPyR S 69 e = some q → toPyR S 70 (.lst [d, e]) = some (.list [p, q]) := fun {d e p q} h1 h2 => by
    show (optAll [toPyR S 69 d, toPyR S 69 e]).map PyData.list = _
    rw [h1, h2]
    rfl
  have e1 := e0 (pyR_ints (f := 67) ha) (pyR_ints (f := 67) hb)
  have e2 := e0 (flat_pyR (n := 63) (S := S) (fl (zs := xs)) (by decide : 63 < 69)) (pyR_ints (f := 67) hc)
  have ep : PyData.list [pyOf (.lst (xs.map .int)), pyOf (.lst (ys.map .int))] = pyOf (.lst [.lst (xs.map .int), .lst (ys.map .int)]) := by
    rw [pyOf.eq_def (.lst [.lst (xs.map .int), .lst (ys.map .int)])]
    unfold pyOfL pyOfL pyOfL
    rfl
  rw [ep] at e1 e2
  have h1 : eqRes S neg (.lst [.ref a, .ref b]) (.lst [.lst (xs.map .int), .ref c]) = none := by
    unfold eqRes
    rw [show toPy S (.lst [.ref a, .ref b]) = none by unfold toPy toPyL toPy; rfl]
  have h2 : eqResR S neg (.lst [.ref a, .ref b]) (.lst [.lst (xs.map .int), .ref c]) = some (!neg) := by
    obtain ⟨a1, a2, a3⟩ := flat_py S hx
    unfold eqResR
    rw [e1, e2]
    dsimp only
    have ev : PyData.eqv (pyOf (.lst [.lst (xs.map .int), .lst (ys.map .int)])) (pyOf (.lst [.lst (xs.map .int), .lst (ys.map .int)])) = true := (eqD_iff nx nx).mpr rfl
    rw [if_pos, ev]
    · cases neg <;> rfl
    · unfold SeqAt.shaped
      rw [a2, decide_eq_true a3]
      exact ⟨rfl, rfl⟩
  unfold fEq2
  rw [h1]
  dsimp only
  rw [h2]
  rfl
theorem cutD_two {α : Type} {xs : List α} {a b : Int} (h0 : 0 ≤ a) (h1 : a ≤ xs.length) (h2 : 0 ≤ b) : cutD xs (some a) (some b) = (xs.drop a.toNat).take (b.toNat - a.toNat) := by
  by_cases h3 : b ≤ xs.length
  · exact cutD_mid h0 h1 h2 h3
  · unfold cutD
    rw [sIx_in h0, sIx_in h2, show min a.toNat xs.length = a.toNat by omega, show min b.toNat xs.length = xs.length by omega, List.take_of_length_le (by rw [List.length_drop]; omega), List.take_of_length_le (by rw [List.length_drop]; omega)]
theorem rep_flat {α β : Type} {f : α → β} {xs : List α} {n : Nat} : (List.replicate n (xs.map f)).flatten = (List.replicate n xs).flatten.map f := by
  induction n with
  | zero => rfl
  | succ n ih => rw [List.replicate_succ, List.replicate_succ, List.flatten_cons, List.flatten_cons, List.map_append, ih]
theorem rep_mem {α : Type} {xs : List α} {n : Nat} {x : α} (h : x ∈ (List.replicate n xs).flatten) : x ∈ xs := by
  obtain ⟨l, hl, hx⟩ := List.mem_flatten.mp h
  rw [List.eq_of_mem_replicate hl] at hx
  exact hx
theorem rep_len {α : Type} {xs : List α} {n : Nat} : (List.replicate n xs).flatten.length = n * xs.length := by
  induction n with
  | zero => simp
  | succ n ih => rw [List.replicate_succ, List.flatten_cons, List.length_append, ih, Nat.succ_mul]; omega
def twice (steps : List Stp) (a r : Nat) : List Stp := steps.take a ++ (List.replicate r ((steps.drop a).take 1)).flatten ++ steps.drop a
theorem twice_mem {steps : List Stp} {a r : Nat} {p : Stp} (h : p ∈ twice steps a r) : p ∈ steps := by
  unfold twice at h
  rcases List.mem_append.mp h with h | h
  · rcases List.mem_append.mp h with h | h
    · exact List.mem_of_mem_take h
    · exact List.mem_of_mem_drop (List.mem_of_mem_take (rep_mem h))
  · exact List.mem_of_mem_drop h
theorem length_twice {steps : List Stp} {a r : Nat} (h : r ≤ 3) : (twice steps a r).length ≤ steps.length + steps.length + 3 := by
  unfold twice
  rw [List.length_append, List.length_append, rep_len, List.length_take, List.length_take, List.length_drop]
  have : r * min 1 (steps.length - a) ≤ 3 * 1 := Nat.mul_le_mul h (Nat.min_le_left _ _)
  omega
/-- what is due, and what the law finds of it -/
theorem W_right {n : Nat} {b : Int} {d : D} {st : Sett} {made : Nat} (k : SetOk st) (h : Pu S n b) (hb : b < 2 ^ 29) (ho : OwnAt S d st) (hm : SetAt S made st) (hq : ∀ S', PW n S (b + 3000) S' → Q (.bl true) S') : W (m__law_right [.ref n, d, .ref made] S) Q E := by
  have s4 := k.s4
  have s1 := k.s1
  unfold m__law_right
  simp_arith []
  refine (W_drawP (PW.refl h) (by omega) (by decide) (by decide)).mono fun y S1 h1 => ?_
  obtain ⟨r1, rfl, r10, r11, h1⟩ := h1
  simp_arith []
  refine (W_drawP h1 (by omega) (by decide) (by decide)).mono fun y S2 h2 => ?_
  obtain ⟨r2, rfl, r20, r21, h2⟩ := h2
  simp_arith []
  refine (W_drawP h2 (by omega) (by decide) (by decide)).mono fun y S3 h3 => ?_
  obtain ⟨r3, rfl, r30, r31, h3⟩ := h3
  simp_arith []
  have hlong : ∃ long : Int, 0 ≤ long ∧ long ≤ 60 ∧ atI [D.int r1, D.int r2] (if decide (r3 = 0) = true then 1 else 0) = some (.int long) := by
    by_cases hz : r3 = 0
    · rw [if_pos (decide_eq_true hz)]
      exact ⟨r2, r20, by omega, rfl⟩
    · rw [if_neg (by rw [decide_eq_false hz]; decide)]
      exact ⟨r1, r10, by omega, rfl⟩
  obtain ⟨long, l0, l1, hlong⟩ := hlong
  rw [hlong]
  simp_arith []
  refine (W_drawP h3 (by omega) (by decide) (by decide)).mono fun y S4 h4 => ?_
  obtain ⟨r4, rfl, r40, r41, h4⟩ := h4
  simp_arith []
  have hmul : ∃ z : Int, 0 ≤ z ∧ z ≤ 3 ∧ ∀ {QD : D → Store → Prop}, QD (.int z) S4 → W (fMul (.int r4) (.int (if decide (long < 7) = true then 1 else 0)) S4) QD E := by
    have lr := log2_lt (k := 60) r40 (by omega) (by decide)
    have z0 : (0 : Int).natAbs.log2 = 0 := by decide +kernel
    have z1 : (1 : Int).natAbs.log2 = 0 := by decide +kernel
    cases decide (long < 7) with
    | true =>
      refine ⟨r4, r40, by omega, fun {QD} q => ?_⟩
      show W (fMul (.int r4) (.int 1) S4) QD E
      rw [W_mulI (by omega), Int.mul_one]
      exact q
    | false =>
      refine ⟨0, by decide, by decide, fun {QD} q => ?_⟩
      show W (fMul (.int r4) (.int 0) S4) QD E
      rw [W_mulI (by omega), Int.mul_zero]
      exact q
  obtain ⟨z, z0, z3, hmul⟩ := hmul
  refine hmul ?_
  have hmost : ∃ most : Int, 0 ≤ most ∧ most ≤ 36 ∧ atI [D.int 6, D.int 6, D.int 6, D.int 36] z = some (.int most) := by
    have : z = 0 ∨ z = 1 ∨ z = 2 ∨ z = 3 := by omega
    rcases this with rfl | rfl | rfl | rfl
    · exact ⟨6, by decide, by decide, rfl⟩
    · exact ⟨6, by decide, by decide, rfl⟩
    · exact ⟨6, by decide, by decide, rfl⟩
    · exact ⟨36, by decide, by decide, rfl⟩
  obtain ⟨most, m0, m1, hmost⟩ := hmost
  simp_arith []
  rw [hmost]
  simp_arith []
  have o4 := ho.pw h h4
  have q4 := hm.pw h h4
  refine (W_plan k o4 (PW.refl h4.1) (by omega) l0 (by omega) m0 (by omega)).mono fun y S5 h5 => ?_
  obtain ⟨q, steps1, rfl, hqs, hqn, hqS, hst1, hsl1, h5⟩ := h5
  have o5 := o4.pw h4.1 h5
  have q5 := q4.pw h4.1 h5
  have p5 := h4.trans h5
  simp_arith []
  rw [W_lenS hqs, List.length_map]
  simp_arith []
  refine (W_drawP (PW.refl p5.1) (by omega) (by omega) (by omega)).mono fun y S6 h6 => ?_
  obtain ⟨at_, rfl, at0, at1, h6⟩ := h6
  have hqs6 := h6.at hqs hqn
  simp_arith []
  rw [k_sl3S hqs6]
  simp_arith []
  rw [k_sl3S hqs6]
  simp_arith []
  refine (W_drawP h6 (by omega) (by decide) (by decide)).mono fun y S7 h7 => ?_
  obtain ⟨r, rfl, r0, r3', h7⟩ := h7
  have hqs7 := h7.at hqs hqn
  have hcl : ((steps1.drop at_.toNat).take 1).length ≤ 1 := by rw [List.length_take]; omega
  have hr3 : r.toNat ≤ 3 := by omega
  have hrl : (List.replicate r.toNat ((steps1.drop at_.toNat).take 1)).flatten.length ≤ 3 := by
    rw [rep_len]
    exact Nat.mul_le_mul hr3 hcl
  rw [cutD_lo at0, cutD_two at0 (by rw [List.length_map]; omega) (by omega), show (at_ + 1).toNat - at_.toNat = 1 by omega, ← List.map_take, ← List.map_drop, ← List.map_take]
  simp_arith []
  rw [W_mulL (by omega) (by omega) (by rw [List.length_map]; unfold sizeLine; have := Nat.mul_le_mul hcl hr3; omega), rep_flat]
  simp_arith []
  rw [W_addL (by rw [List.length_map, List.length_map, List.length_take]; unfold sizeLine; omega), ← List.map_append]
  simp_arith []
  rw [k_sl3S hqs7, cutD_hi at0, ← List.map_drop]
  simp_arith []
  rw [W_addL (by rw [List.length_map, List.length_map, List.length_append, List.length_take, List.length_drop]; unfold sizeLine; omega), ← List.map_append]
  rw [show steps1.take at_.toNat ++ (List.replicate r.toNat ((steps1.drop at_.toNat).take 1)).flatten ++ steps1.drop at_.toNat = twice steps1 at_.toNat r.toNat from rfl]
  have hst : ∀ p ∈ twice steps1 at_.toNat r.toNat, StepOk st long p := fun p hp => hst1 p (twice_mem hp)
  have hsl := length_twice (steps := steps1) (a := at_.toNat) hr3
  generalize twice steps1 at_.toNat r.toNat = steps at hst hsl
  have hsl : steps.length < 100 := by omega
  have p7 := p5.trans h7
  have o7 := o5.pw p5.1 h7
  have q7 := q5.pw p5.1 h7
  simp_arith []
  refine W_law_form k o7 (.inr (.inl rfl)) (by omega) hst l0 l1 fun S8 e8 => ?_
  rw [show formD (rawOn st steps (startE long st.size)) = formE st long steps from rfl]
  simp_arith []
  rw [List.length_map]
  refine ⟨by omega, by omega, ?_⟩
  refine k_pick (rangeD 0 (steps.length : Int).toNat) steps.length (by rw [length_rangeD]; omega) (by omega) (fun k => same st long (dropK steps k) steps) (lst_R _ _) (fun i y S2 hi hlt e2 Y N hY => ?_) fun S9 e9 => ?_
  · obtain ⟨_, rfl⟩ := rangeD_get hi
    simp_arith []
    rw [cutD_lo (by omega), cutD_hi (by omega), ← List.map_take, ← List.map_drop]
    rw [W_addL (by rw [List.length_map, List.length_map, List.length_take, List.length_drop]; unfold sizeLine; omega), ← List.map_append]
    rw [show ((0 : Int) + i + 1).toNat = i + 1 by omega, show ((0 : Int) + i).toNat = i by omega]
    rw [show steps.take i ++ steps.drop (i + 1) = dropK steps i from rfl]
    simp_arith []
    refine W_law_form k ((o7.ext e8).ext e2) (.inr (.inl rfl)) (by have := length_drop1 (steps := steps) (k := i); omega) (fun p hp => hst p (drop_mem hp)) l0 l1 fun S3 e3 => ?_
    rw [show formD (rawOn st (dropK steps i) (startE long st.size)) = formE st long (dropK steps i) from rfl]
    simp_arith []
    rw [W_eq2F flat_formE flat_formE]
    have hY' := hY S3 (e2.trans e3)
    have e : eqD (formE st long (dropK steps i)) (formE st long steps) = same st long (dropK steps i) steps := rfl
    rw [e]
    cases hb : same st long (dropK steps i) steps with
    | true =>
      rw [hb, if_pos rfl] at hY'
      simp_arith []
      rw [Int.zero_add]
      exact hY'
    | false =>
      rw [hb, if_neg (by decide)] at hY'
      simp_arith []
      exact hY'
  · rw [show pickN (fun k => same st long (dropK steps k) steps) steps.length = idleL st long steps from rfl]
    simp_arith []
    have a9 : (S9 ++ [O.lst []])[S9.length]? = some (.lst []) := at_end
    have f9 : Ext S7 (S9 ++ [O.lst []]) := (e8.trans e9).trans Ext.app
    have g9 : S7.length ≤ S9.length := (e8.trans e9).1
    generalize S9.length = c at a9 g9 ⊢
    generalize S9 ++ [O.lst []] = S10 at a9 f9 ⊢
    rw [List.length_map]
    refine ⟨by omega, by omega, ?_⟩
    have hnn : ((steps.length : Int) - 1).toNat = steps.length - 1 := by omega
    refine k_for (lst_R _ _) (by rw [length_rangeD]; unfold BIG; omega) (fun i ρ S' => Ext S7 S' ∧ S'[c]? = some (.lst ((pickN (fun k => same st long (swapK steps k) steps) i).map .int)) ∧ ∃ a b, ρ = [some (.ref n), some d, some (.ref made), some (.int long), some (.lst (steps.map stepD)), some (.int at_), some (formE st long steps), some (.lst ((idleL st long steps).map .int)), some (.ref c), a, b, none, none]) ⟨f9, a9, _, _, rfl⟩ (fun i y ρ S' hi hI => ?_) (fun ρ S' hI => ?_)
    · obtain ⟨hE, hm1, a, b, rfl⟩ := hI
      obtain ⟨hlt, rfl⟩ := rangeD_get hi
      simp_arith []
      rw [cutD_lo (by omega), ← List.map_take]
      rw [atI_map (z := (("", 0, 0) : Stp)) (by omega) (by omega)]
      simp_arith []
      rw [atI_map (z := (("", 0, 0) : Stp)) (by omega) (by omega)]
      simp_arith []
      rw [show ((0 : Int) + i + 1).toNat = i + 1 by omega, show ((0 : Int) + i).toNat = i by omega]
      rw [show [stepD (steps.getD (i + 1) ("", 0, 0)), stepD (steps.getD i ("", 0, 0))] = [atK steps (i + 1), atK steps i].map stepD from rfl]
      rw [W_addL (by rw [List.length_map, List.length_map, List.length_take]; show _ + 2 ≤ _; unfold sizeLine; omega), ← List.map_append]
      simp_arith []
      rw [cutD_hi (by omega), ← List.map_drop, show ((0 : Int) + i + 2).toNat = i + 2 by omega]
      rw [W_addL (by rw [List.length_map, List.length_map, List.length_append, List.length_take, List.length_drop]; show _ + 2 + _ ≤ _; unfold sizeLine; omega), ← List.map_append]
      rw [show steps.take i ++ [atK steps (i + 1), atK steps i] ++ steps.drop (i + 2) = swapK steps i from rfl]
      simp_arith []
      refine W_law_form k (o7.ext hE) (.inr (.inl rfl)) (by have := length_swap (steps := steps) (k := i); omega) (fun p hp => hst p (swap_mem (by omega) hp)) l0 l1 fun S3 e3 => ?_
      rw [show formD (rawOn st (swapK steps i) (startE long st.size)) = formE st long (swapK steps i) from rfl]
      simp_arith []
      rw [W_eq2F flat_formE flat_formE]
      have e : eqD (formE st long (swapK steps i)) (formE st long steps) = same st long (swapK steps i) steps := rfl
      rw [e, pick_succ]
      have hm3 := e3.at hm1
      have hE3 := hE.trans e3
      have hll := length_pick (B := fun k => same st long (swapK steps k) steps) (n := i)
      cases hb : same st long (swapK steps i) steps with
      | true =>
        simp_arith []
        rw [k_app1 hm3]
        simp_arith []
        rw [k_app2 hm3 (by rw [List.length_map]; unfold sizeLine; omega)]
        simp_arith []
        refine ⟨hE3.set g9, ?_, _, _, rfl⟩
        rw [set_at hm3]
        simp only [hb, if_true, List.map_append, Int.zero_add]
        rfl
      | false =>
        simp_arith []
        exact ⟨hE3, hm3, _, _, rfl⟩
    · obtain ⟨hE, hm1, a, b', rfl⟩ := hI
      rw [length_rangeD, hnn] at hm1
      have hc : S'[c]? = some (.lst ((swapL st long steps).map .int)) := hm1
      clear hm1
      have q11 := q7.ext hE
      have hil := length_pick (B := fun k => same st long (dropK steps k) steps) (n := steps.length)
      have hwl := length_pick (B := fun k => same st long (swapK steps k) steps) (n := steps.length - 1)
      simp_arith []
      refine W_idle k q11 (.inr (.inl rfl)) (by omega) hst l0 l1 fun S12 ia e12 gi hia => ?_
      simp_arith []
      refine W_swaps k (q11.ext e12) (.inl rfl) (by omega) hst l0 l1 fun S13 ib e13 gw hib => ?_
      simp_arith []
      have hia' := e13.at hia
      have e13' := e12.trans e13
      have hc' := e13'.at hc
      rw [W_eqTwo hia' hib hc']
      simp_arith []
      have nab : ia ≠ ib := by
        have := (List.getElem?_eq_some_iff.mp hia).1
        omega
      have nac : ia ≠ c := by
        have := (List.getElem?_eq_some_iff.mp hc).1
        omega
      have nbc : ib ≠ c := by
        have := (List.getElem?_eq_some_iff.mp hc).1
        have := e12.1
        omega
      rw [k_app1 hia']
      simp_arith []
      rw [k_app2 hia' (by rw [List.length_map]; unfold sizeLine idleL; omega)]
      simp_arith []
      have hib2 : (S13.set ia (.lst ((idleL st long steps).map .int ++ [.int 99])))[ib]? = some (.lst ((swapL st long steps).map .int)) := by
        rw [List.getElem?_set_ne nab]
        exact hib
      have hc2 : (S13.set ia (.lst ((idleL st long steps).map .int ++ [.int 99])))[c]? = some (.lst ((swapL st long steps).map .int)) := by
        rw [List.getElem?_set_ne nac]
        exact hc'
      have q14 := (q11.ext e13').set (es := (idleL st long steps).map .int ++ [.int 99]) hia'
      have e14 : Ext S' (S13.set ia (.lst ((idleL st long steps).map .int ++ [.int 99]))) := e13'.set gi
      generalize S13.set ia (.lst ((idleL st long steps).map .int ++ [.int 99])) = S14 at hib2 hc2 q14 e14 ⊢
      rw [k_app1 hib2]
      simp_arith []
      rw [k_app2 hib2 (by rw [List.length_map]; unfold sizeLine swapL; omega)]
      simp_arith []
      have hc3 : (S14.set ib (.lst ((swapL st long steps).map .int ++ [.int 99])))[c]? = some (.lst ((swapL st long steps).map .int)) := by
        rw [List.getElem?_set_ne nbc]
        exact hc2
      have q15 := q14.set (es := (swapL st long steps).map .int ++ [.int 99]) hib2
      have e15 : Ext S' (S14.set ib (.lst ((swapL st long steps).map .int ++ [.int 99]))) := e14.set (Nat.le_trans e12.1 gw)
      generalize S14.set ib (.lst ((swapL st long steps).map .int ++ [.int 99])) = S15 at hc3 q15 e15 ⊢
      refine W_idle k q15 (.inl rfl) (by omega) hst l0 l1 fun S16 ja e16 gj hja => ?_
      simp_arith []
      refine W_swaps k (q15.ext e16) (.inr (.inl rfl)) (by omega) hst l0 l1 fun S17 jb e17 gk hjb => ?_
      simp_arith []
      rw [W_eqTwo (e17.at hja) hjb ((e16.trans e17).at hc3)]
      simp_arith []
      exact hq S17 ((p7.ext ((hE.trans e15).trans (e16.trans e17))).mono (by omega))
end
end MM

/-! What the law's draws come to. -/
/-! k34: the law holds. -/
namespace MM
open PySem L2 PyProof.Rows
local macro_rules | `(tactic| simp_arith [$ts,*]) => `(tactic| simp -implicitDefEqProofs only [W_ok, W_var, k_var, W_c, W_op, k_op1, k_op2, W_un, k_un, W_nil, W_cons, k_cons1, k_cons2, W_call, k_call, W_tup, k_tup, W_lst, k_lst, W_lstS, k_lstS, W_seq, k_seq_nx, k_seq_rt, k_seq_bk, k_seq_ct, W_expr, k_expr, W_ret, k_ret, W_retN, W_nx, W_bk, W_ct, W_if, k_if_t, k_if_f, W_ifE, k_ifE_t, k_ifE_f, W_b, k_b, W_andT, k_andT_t, k_andT_f, W_orT, k_orT_t, k_orT_f, W_notT, k_notT, W_yes, W_andV, k_andV_t, k_andV_f, W_orV, k_orV_t, k_orV_f, W_notV, k_notV, W_cmpC, k_cmp1, k_cmp2, k_cmp3_t, k_cmp3_f, W_asg, k_asg, k_asg2, W_gN, W_gsNil, W_gsCons, k_gs, W_gTp, W_gIx, k_ix1, W_for, W_lc, W_lcS, W_next, W_miA, k_it_tup, k_it_lst, k_it_frz, W_def, k_def_rt, k_def_nx, W_callK, k_CK1, k_CK2, perm, List.filterMap_cons, List.filterMap_nil, and_self, W_f2I, W_addI, W_int, W_2L, W_is, W_lenT, W_lenL, W_lenF, W_tupleT, W_tupleL, W_tupleF, k_body, k_loop_nx, k_loop_ct, k_loop_bk, k_loop_rt, k_lc1, k_lc2_t, k_lc2_f, List.map_cons, List.map_nil, List.length_cons, List.length_nil, List.reduceReplicate, Nat.reduceSub, Nat.reduceAdd, Int.reduceAdd, Int.reduceSub, Int.reduceMul, Int.reduceNeg, Int.reduceLT, Int.reduceLE, Int.reduceEq, Int.cast_ofNat_Int, Int.natCast_zero, Int.natCast_one, eq_self, decide_true, decide_false, Bool.and_true, Bool.true_and, Bool.false_and, Bool.and_false, Nat.zero_add, List.replicate_zero, List.replicate_succ, List.cons_append, List.nil_append, List.append_nil, List.getElem?_cons_zero, List.getElem?_cons_succ, List.set_cons_zero, List.set_cons_succ, wipeD, Bool.not_true, Bool.not_false, if_true, if_false, reduceIte, isNon, Bool.false_eq_true, k_el, W_E, k_en_tup, k_en_lst, isi_int_i, isi_int_b, isi_int_n, isi_int_s, isi_int_t, isi_int_l, isi_bool_i, isi_bool_b, isi_bool_n, isi_bool_s, isi_bool_t, isi_bool_l, isi_tuple_i, isi_tuple_b, isi_tuple_n, isi_tuple_s, isi_tuple_t, isi_tuple_l, isi_list_i, isi_list_b, isi_list_n, isi_list_s, isi_list_t, isi_list_l, W_eq2I, W_intB, k_R1_eq, k_R2_eq, W_R1q, W_ixDT, W_ixDL, W_ixDF, k_opt, atI_lit, W_gTpT, W_gTpL, W_noPart, W_part, k_part, W_sl, k_sl1, k_sl2, k_sl3T, k_sl3L, W_revT, W_revL, W_meth, k_meth2, W_prop, W_make, k_make, k_made, W_sFld, k_fldS1, W_app, W_bits, W_gSt, k_st1, W_gSl, k_gsl1, k_gsl2, W_rgT, W_rgL, W_rgS, W_rg1, k_rg1, W_miS, k_itS, W_E2, k_en2_tup, k_en2_lst, k_en2_frz, W_par, k_par, W_par3, k_par3, W_dct0, W_disp, W_pnil, W_pcons, k_ps1, k_ps2, k_ps3, W_dc, k_dc1, k_dc2_t, k_dc2_f, k_dc3, k_dc4, isi_str_i, isi_str_b, isi_str_n, isi_str_s, isi_str_t, isi_str_l, $ts,*])
local macro_rules | `(tactic| simp_arith) => `(tactic| simp_arith [])
section
set_option maxHeartbeats 1000000
variable {Q : D → Store → Prop} {E : Er → Store → Prop} {S : Store}
def st0 : Sett := ⟨3, [("two", [2, 2, 2]), ("up", [1, 2, 2])], [], true⟩
def given0 : List (Str × List Int) := [("up", [1, 2, 2]), ("two", [2, 2, 2])]
theorem st0_ok : SetOk st0 where
  s1 := by decide
  s4 := by decide
  ml := by decide
  mn := by decide +kernel
  mm := by decide +kernel
  ms := by decide +kernel
  al := by decide
  an := fun _ z => (List.not_mem_nil z).elim
  am := fun _ z => (List.not_mem_nil z).elim
  as := by decide +kernel
  md := by decide +kernel
  ad := by decide +kernel
def steps0 : List Stp := [("turn", 0, 4), ("two", 0, 2), ("up", 0, 4), ("turn", 2, 2), ("turn", 0, 4)]
theorem steps0_ok : ∀ p ∈ steps0, StepOk st0 4 p := by
  intro p hp
  have m1 : ("two" : Str) ∈ deedsL st0 := deeds_mem.mpr (.inl (List.mem_cons_self))
  have m2 : ("up" : Str) ∈ deedsL st0 := deeds_mem.mpr (.inl (List.mem_cons_of_mem _ List.mem_cons_self))
  have m3 : ("turn" : Str) ∈ deedsL st0 := deeds_mem.mpr (.inr ⟨rfl, rfl⟩)
  rcases List.mem_cons.mp hp with rfl | hp
  · exact ⟨m3, by decide, by decide, by decide⟩
  rcases List.mem_cons.mp hp with rfl | hp
  · exact ⟨m1, by decide, by decide, by decide⟩
  rcases List.mem_cons.mp hp with rfl | hp
  · exact ⟨m2, by decide, by decide, by decide⟩
  rcases List.mem_cons.mp hp with rfl | hp
  · exact ⟨m3, by decide, by decide, by decide⟩
  rcases List.mem_cons.mp hp with rfl | hp
  · exact ⟨m3, by decide, by decide, by decide⟩
  · exact (List.not_mem_nil hp).elim
theorem idle0 : idleL st0 4 steps0 = [3] := by decide +kernel
theorem swap0 : swapL st0 4 steps0 = [1, 2, 3] := by decide +kernel
theorem W_eqInts {neg : Bool} {n : Nat} {xs : List Int} (h : S[n]? = some (.lst (xs.map .int))) : W (fEq2 neg (.ref n) (.lst (xs.map .int)) S) Q E = Q (.bl (!neg)) S := by
  have fl : flat 64 (.lst (xs.map .int)) = true := by
    unfold flat
    exact flatL_map fun x _ => rfl
  have nb : noB (.lst (xs.map .int)) = true := by
    unfold noB
    exact noBL_map fun _ _ => rfl
  rw [W_eq2Ref h fl fl, (eqD_iff nb nb).mpr rfl]
  cases neg <;> rfl
theorem law_run {ns : List Int} (hl : ns.length ≤ 63) : W (m_law [.frz (ns.map .int)] []) (fun d _ => d = .bl true) Er0 := by
  unfold m_law
  simp_arith [W_2L, List.length_map]
  refine ⟨by split <;> omega, by split <;> omega, ?_⟩
  generalize hm : Int.toNat (1 + if (ns.length : Int) < 6 then (ns.length : Int) else 6) = m
  have hm7 : m ≤ 7 := by rw [← hm]; split <;> omega
  refine k_for (lst_R _ _) (by rw [length_rangeD]; unfold BIG; omega) (fun i ρ S' => ∃ a b c d e f g, ρ = [some (.frz (ns.map .int)), a, b, c, d, e, f, g]) ⟨_, _, _, _, _, _, _, rfl⟩ (fun i d ρ S1 hi hI => ?_) (fun ρ S1 hI => ?_)
  · obtain ⟨a, b, c, d1, e, f, g, rfl⟩ := hI
    obtain ⟨hi, rfl⟩ := rangeD_get hi
    simp_arith []
    refine (W_purse (by omega) (by omega)).mono fun d S2 h2 => ?_
    obtain ⟨o, rfl, rfl, hp⟩ := h2
    simp_arith []
    generalize S1.length = n at hp ⊢
    generalize S1 ++ [o] = S2 at hp ⊢
    refine (W_own (PW.refl hp) (by omega) (by decide) (by decide) (by decide) (by decide)).mono fun d S3 h3 => ?_
    obtain ⟨st, ho, k, _, _, h3⟩ := h3
    simp_arith []
    refine W_setting k ho fun S4 made e4 hs => ?_
    simp_arith []
    refine ⟨by decide, by decide, ?_⟩
    refine k_for (lst_R _ _) (by rw [length_rangeD]; unfold BIG; decide) (fun t ρ S' => Pu S' n (1000 * (0 + i) + 100000 + t * 3000) ∧ OwnAt S' d st ∧ SetAt S' made st ∧ ∃ a b g, ρ = [some (.frz (ns.map .int)), some (.int (0 + i)), a, b, some (.ref n), some d, some (.ref made), g]) ⟨((h3.ext e4).mono (by simp)).1, ho.ext e4, hs, _, _, _, rfl⟩ (fun t y ρ S5 ht hI => ?_) (fun ρ S5 hI => ?_)
    · obtain ⟨h5, o5, s5, a, b, g, rfl⟩ := hI
      obtain ⟨ht3, rfl⟩ := rangeD_get ht
      have ht4 : t < 4 := ht3
      simp_arith []
      refine W_right k h5 (by omega) o5 s5 fun S6 h6 => ?_
      simp_arith []
      exact ⟨(h6.mono (by omega)).1, o5.pw h5 h6, s5.pw h5 h6, _, _, _, rfl⟩
    · obtain ⟨h5, o5, s5, a, b, g, rfl⟩ := hI
      simp_arith []
      exact ⟨_, _, _, _, _, _, _, rfl⟩
  · obtain ⟨a, b, c, d1, e, f, g, rfl⟩ := hI
    simp_arith []
    rw [k_disp (kvs := kdM given0) rfl at_end (by decide)]
    simp_arith []
    refine k_Setting (st := st0) st0_ok (.inr ⟨S1.length, given0, rfl, ?_, List.Perm.swap _ _ _⟩) (.inl ⟨rfl, rfl⟩) fun S4 made e4 hs => ?_
    · rw [set_at at_end]
      rfl
    simp_arith []
    refine W_idle (steps := steps0) st0_ok hs (.inl rfl) (by decide) steps0_ok (by decide) (by decide) fun S5 ia e5 _ hia => ?_
    rw [idle0] at hia
    simp_arith []
    rw [show D.lst [.int 3] = .lst ([3].map .int) from rfl, W_eqInts hia]
    simp_arith []
    have hs5 := hs.ext e5
    refine W_swaps (steps := steps0) st0_ok hs5 (.inl rfl) (by decide) steps0_ok (by decide) (by decide) fun S6 ib e6 _ hib => ?_
    rw [swap0] at hib
    simp_arith []
    rw [show D.lst [.int 1, .int 2, .int 3] = .lst ([1, 2, 3].map .int) from rfl, W_eqInts hib]
    simp_arith []
    refine W_swaps (steps := []) st0_ok (hs5.ext e6) (.inl rfl) (by decide) (fun _ z => (List.not_mem_nil z).elim) (by decide) (by decide) fun S7 ic e7 _ hic => ?_
    simp_arith []
    rw [show swapL st0 0 [] = [] from rfl] at hic
    rw [show D.lst [] = .lst (([] : List Int).map .int) from rfl, W_eqInts hic]
    rfl
theorem law_holds : ∀ ns : List Int, ns.length ≤ 63 → (∀ z ∈ ns, PySem.Builtin.Int.intBits z ≤ 1048576) → ∃ S, m_law [.frz (ns.map .int)] [] = .ok (.bl true) S := fun ns h _ => by
  obtain ⟨a, S, e, rfl⟩ := (law_run h).ex
  exact ⟨S, e⟩
end
end MM

open PySem PySem.W PyProof.Rows
set_option maxHeartbeats 0 in
theorem PySem.Challenge.cw_lazytags_k34_idle_steps_and_swaps_holds : PySem.Challenge.rw_lazytags_k34_idle_steps_and_swaps.Holds := by
  w_on; o_law; k_head; (case hw => w_witness2)
  k_fill
  refine MM.walk_mm (l := PySem.Challenge.rw_lazytags_k34_idle_steps_and_swaps) (n := 63) (k := 9) (x := "_law_script") (m := MM.m_law) rfl (by decide) rfl ⟨rfl, by decide, by decide⟩ (fun w h Y => PySem.W.kIn_of Y) ?F MM.law_holds
  case F =>
    intro w mg fa h Y KX G hmg N
    refine' MM.law_mk KX G N hmg ?aC_Setting ?pg_Setting ?hd_Setting ?po_Setting ?sa_Setting ?na_Setting_size ?na_Setting_own_maps ?na_Setting_own_asks ?na_Setting_turning ?ia_Setting ?ib_Setting ?ic_Setting ?id_Setting ?kit_Setting_self ?kit_Setting_NoneType ?kit_Setting_bool ?kit_Setting_int ?kit_Setting_str ?kit_Setting_tuple ?kit_Setting_list ?kit_Setting_dict ?a__law_at ?l__law_at ?c__law_at ?k__law_at ?a__law_purse ?l__law_purse ?c__law_purse ?k__law_purse ?a__law_mixed ?l__law_mixed ?c__law_mixed ?k__law_mixed ?a__law_draw ?l__law_draw ?c__law_draw ?k__law_draw ?a__law_machine ?l__law_machine ?c__law_machine ?k__law_machine ?a__law_own ?l__law_own ?c__law_own ?k__law_own ?a_is_integer ?l_is_integer ?c_is_integer ?k_is_integer ?a_require_size ?l_require_size ?c_require_size ?k_require_size ?a_is_name ?l_is_name ?c_is_name ?k_is_name ?a_is_row ?l_is_row ?c_is_row ?k_is_row ?a_is_map ?l_is_map ?c_is_map ?k_is_map ?a_taken_maps ?l_taken_maps ?c_taken_maps ?k_taken_maps ?a_fault_of ?l_fault_of ?c_fault_of ?k_fault_of ?a_taken_asks ?l_taken_asks ?c_taken_asks ?k_taken_asks ?a_Setting__init ?i_Setting__init ?mk_Setting__init ?kc_Setting__init ?l_Setting__init ?lt_Setting__init ?lv_Setting__init ?c_Setting__init ?k_Setting__init ?a__law_setting ?l__law_setting ?c__law_setting ?k__law_setting ?a__law_deeds ?l__law_deeds ?c__law_deeds ?k__law_deeds ?a__law_plan ?l__law_plan ?c__law_plan ?k__law_plan ?a__law_form ?l__law_form ?c__law_form ?k__law_form ?a_require_setting ?l_require_setting ?c_require_setting ?k_require_setting ?a_require_length ?l_require_length ?c_require_length ?k_require_length ?a_Setting__deeds ?r1_Setting__deeds ?r2_Setting__deeds ?r3_Setting__deeds ?l_Setting__deeds ?c_Setting__deeds ?k_Setting__deeds ?a_Setting__has_deed ?i_Setting__has_deed ?l_Setting__has_deed ?c_Setting__has_deed ?k_Setting__has_deed ?a_is_range ?l_is_range ?c_is_range ?k_is_range ?a_is_step ?l_is_step ?c_is_step ?k_is_step ?a_require_plan ?l_require_plan ?c_require_plan ?k_require_plan ?a_entry_after ?l_entry_after ?c_entry_after ?k_entry_after ?a_plain_form ?l_plain_form ?c_plain_form ?k_plain_form ?a_form_of ?l_form_of ?c_form_of ?k_form_of ?a_swaps ?l_swaps ?c_swaps ?k_swaps ?a_idle ?l_idle ?c_idle ?k_idle ?a__law_right ?l__law_right ?c__law_right ?k__law_right ?a_law ?l_law ?c_law ?k_law ?z_all ?z_bool ?z_dict ?z_enumerate ?z_int ?z_isinstance ?z_len ?z_list ?z_max ?z_min ?z_range ?z_set ?z_sorted ?z_str ?z_tuple ?y_LETTERS ?y_MOST_ANSWER ?y_MOST_LENGTH ?y_MOST_LETTERS ?y_MOST_VALUES ?y_TURN
    (case aC_Setting => k_is)
    (case pg_Setting => k_is)
    (case hd_Setting => k_is)
    (case po_Setting => k_is)
    (case sa_Setting => k_is)
    (case na_Setting_size => k_is)
    (case na_Setting_own_maps => k_is)
    (case na_Setting_own_asks => k_is)
    (case na_Setting_turning => k_is)
    (case ia_Setting => k_is)
    (case ib_Setting => k_is)
    (case ic_Setting => k_is)
    (case id_Setting => k_is)
    (case kit_Setting_self => kernel_rfl)
    (case kit_Setting_NoneType => kernel_rfl)
    (case kit_Setting_bool => kernel_rfl)
    (case kit_Setting_int => kernel_rfl)
    (case kit_Setting_str => kernel_rfl)
    (case kit_Setting_tuple => kernel_rfl)
    (case kit_Setting_list => kernel_rfl)
    (case kit_Setting_dict => kernel_rfl)
    (case a__law_at => k_is)
    (case l__law_at => k_is)
    (case c__law_at => k_is)
    (case k__law_at => k_is)
    (case a__law_purse => k_is)
    (case l__law_purse => k_is)
    (case c__law_purse => k_is)
    (case k__law_purse => k_is)
    (case a__law_mixed => k_is)
    (case l__law_mixed => k_is)
    (case c__law_mixed => k_is)
    (case k__law_mixed => k_is)
    (case a__law_draw => k_is)
    (case l__law_draw => k_is)
    (case c__law_draw => k_is)
    (case k__law_draw => k_is)
    (case a__law_machine => k_is)
    (case l__law_machine => k_is)
    (case c__law_machine => k_is)
    (case k__law_machine => k_is)
    (case a__law_own => k_is)
    (case l__law_own => k_is)
    (case c__law_own => k_is)
    (case k__law_own => k_is)
    (case a_is_integer => k_is)
    (case l_is_integer => k_is)
    (case c_is_integer => k_is)
    (case k_is_integer => k_is)
    (case a_require_size => k_is)
    (case l_require_size => k_is)
    (case c_require_size => k_is)
    (case k_require_size => k_is)
    (case a_is_name => k_is)
    (case l_is_name => k_is)
    (case c_is_name => k_is)
    (case k_is_name => k_is)
    (case a_is_row => k_is)
    (case l_is_row => k_is)
    (case c_is_row => k_is)
    (case k_is_row => k_is)
    (case a_is_map => k_is)
    (case l_is_map => k_is)
    (case c_is_map => k_is)
    (case k_is_map => k_is)
    (case a_taken_maps => k_is)
    (case l_taken_maps => k_is)
    (case c_taken_maps => k_is)
    (case k_taken_maps => k_is)
    (case a_fault_of => k_is)
    (case l_fault_of => k_is)
    (case c_fault_of => k_is)
    (case k_fault_of => k_is)
    (case a_taken_asks => k_is)
    (case l_taken_asks => k_is)
    (case c_taken_asks => k_is)
    (case k_taken_asks => k_is)
    (case a_Setting__init => k_is)
    (case i_Setting__init => k_is)
    (case mk_Setting__init => k_is)
    (case kc_Setting__init => k_is)
    (case l_Setting__init => k_is)
    (case lt_Setting__init => k_is)
    (case lv_Setting__init => exact (.cons rfl (.cons rfl (.cons rfl .nil))))
    (case c_Setting__init => k_is)
    (case k_Setting__init => k_is)
    (case a__law_setting => k_is)
    (case l__law_setting => k_is)
    (case c__law_setting => k_is)
    (case k__law_setting => k_is)
    (case a__law_deeds => k_is)
    (case l__law_deeds => k_is)
    (case c__law_deeds => k_is)
    (case k__law_deeds => k_is)
    (case a__law_plan => k_is)
    (case l__law_plan => k_is)
    (case c__law_plan => k_is)
    (case k__law_plan => k_is)
    (case a__law_form => k_is)
    (case l__law_form => k_is)
    (case c__law_form => k_is)
    (case k__law_form => k_is)
    (case a_require_setting => k_is)
    (case l_require_setting => k_is)
    (case c_require_setting => k_is)
    (case k_require_setting => k_is)
    (case a_require_length => k_is)
    (case l_require_length => k_is)
    (case c_require_length => k_is)
    (case k_require_length => k_is)
    (case a_Setting__deeds => k_is)
    (case r1_Setting__deeds => k_is)
    (case r2_Setting__deeds => k_is)
    (case r3_Setting__deeds => k_is)
    (case l_Setting__deeds => k_is)
    (case c_Setting__deeds => k_is)
    (case k_Setting__deeds => k_is)
    (case a_Setting__has_deed => k_is)
    (case i_Setting__has_deed => k_is)
    (case l_Setting__has_deed => k_is)
    (case c_Setting__has_deed => k_is)
    (case k_Setting__has_deed => k_is)
    (case a_is_range => k_is)
    (case l_is_range => k_is)
    (case c_is_range => k_is)
    (case k_is_range => k_is)
    (case a_is_step => k_is)
    (case l_is_step => k_is)
    (case c_is_step => k_is)
    (case k_is_step => k_is)
    (case a_require_plan => k_is)
    (case l_require_plan => k_is)
    (case c_require_plan => k_is)
    (case k_require_plan => k_is)
    (case a_entry_after => k_is)
    (case l_entry_after => k_is)
    (case c_entry_after => k_is)
    (case k_entry_after => k_is)
    (case a_plain_form => k_is)
    (case l_plain_form => k_is)
    (case c_plain_form => k_is)
    (case k_plain_form => k_is)
    (case a_form_of => k_is)
    (case l_form_of => k_is)
    (case c_form_of => k_is)
    (case k_form_of => k_is)
    (case a_swaps => k_is)
    (case l_swaps => k_is)
    (case c_swaps => k_is)
    (case k_swaps => k_is)
    (case a_idle => k_is)
    (case l_idle => k_is)
    (case c_idle => k_is)
    (case k_idle => k_is)
    (case a__law_right => k_is)
    (case l__law_right => k_is)
    (case c__law_right => k_is)
    (case k__law_right => k_is)
    (case a_law => k_is)
    (case l_law => k_is)
    (case c_law => k_is)
    (case k_law => k_is)
    (case z_all => k_is)
    (case z_bool => k_is)
    (case z_dict => k_is)
    (case z_enumerate => k_is)
    (case z_int => k_is)
    (case z_isinstance => k_is)
    (case z_len => k_is)
    (case z_list => k_is)
    (case z_max => k_is)
    (case z_min => k_is)
    (case z_range => k_is)
    (case z_set => k_is)
    (case z_sorted => k_is)
    (case z_str => k_is)
    (case z_tuple => k_is)
    (case y_LETTERS => k_is)
    (case y_MOST_ANSWER => k_is)
    (case y_MOST_LENGTH => k_is)
    (case y_MOST_LETTERS => k_is)
    (case y_MOST_VALUES => k_is)
    (case y_TURN => k_is)
