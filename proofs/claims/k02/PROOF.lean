import PyProof.Rows.All
import Wide.All
import OpenK.AllK
import Wide.FinOn
import HandS.ForMost
import HandS.IsInst
import HandS.Walk
import HandS.Wide
import HandS.TupAny
import HandS.Exc
import HandS.TryOnly
import HandS.ExcInit
import HandS.WordsExc
import HandS.AnyAll
import HandS.Comp
import KE.GoesEnum
import HandS.GenList
import HandS.EndOwn
import KE.KDictIter
import HandS.TupMul
import HandS.Small
import HandS.Dict
import HandS.WordsDict
import HandS.Property
import HandS.Defaults
import HandS.MakeKwOnly
import HandS.Text
import HandS.Style
import HandS.WideBits
import HandS.Conv
import HandS.More
import HandS.Deep
import HandS.SortInts
import HandS.Iter
import HandS.SetFor
import HandS.DictComp
import HandS.Zip
import HandS.SetKeys
import HandS.Finally
import HandS.Sort
import HandS.ListItems
import KE.KExcIs
import HandS.ExcIs
import HandS.ExcField
import HandS.ExcOwn
import HandS.CallSlots
import HandS.EndTab
import PyProof.Rows.CountFlat
import HandS.ExcValue
import HandS.ExcBuiltin
import HandS.MakeKw
import PySem.Challenge.RW_lazytags_k02_machines_checked
set_option Elab.async false
set_option autoImplicit false
set_option linter.all false
set_option maxHeartbeats 4000000
set_option maxRecDepth 100000
/-! The mirror layer: plain data D, a store of mutable objects, computations over it, and their tie to the readings of HandS. -/
namespace MM
open PySem L2

/-! ### data -/
inductive D where
  | non | bl (b : Bool) | int (i : Int) | str (s : Str)
  | tup (xs : List D) | lst (xs : List D)
  /-- a list that is read alone (the script) -/
  | frz (xs : List D)
  | ref (n : Nat)
  /-- an error that was caught and kept: its class's name, its field, the field's value (if it has one) -/
  | err (c f : Str) (ds : List D)
/-- a mutable object -/
inductive O where
  | lst (xs : List D)
  /-- a dict by texts and ints, one by tuples of such -/
  | dct (kvs : List (L2.Key × D))
  | dcT (kvs : List (List L2.Key × D))
  /-- an instance of the class of that name, its attributes -/
  | ins (c : Str) (fs : List (Str × D))
  /-- locked: read, not written -/
  | lk (o : O)
/-- what is read there -/
def O.base : O → O
  | .lk o => o
  | o => o
abbrev Store := List O
/-- an error: its class's name, its field -/
structure Er where
  cls : Str
  fld : Str
  arg : List D
inductive Res (α : Type) where
  | ok (a : α) (S : Store)
  | exc (e : Er) (S : Store)
  | bad
def Res.bind {α β : Type} (r : Res α) (k : α → Store → Res β) : Res β :=
  match r with
  | .ok a S => k a S
  | .exc e S => .exc e S
  | .bad => .bad
@[simp] theorem Res.bind_ok {α β : Type} (a : α) (S : Store) (k : α → Store → Res β) : (Res.ok a S).bind k = k a S := rfl
@[simp] theorem Res.bind_exc {α β : Type} (e : Er) (S : Store) (k : α → Store → Res β) : (Res.exc e S : Res α).bind k = .exc e S := rfl
@[simp] theorem Res.bind_bad {α β : Type} (k : α → Store → Res β) : (Res.bad : Res α).bind k = .bad := rfl
abbrev Rho := List (Option D)
/-- an expression's mirror; a test's; a list of arguments' -/
abbrev ME0 := Rho → Store → Res D
abbrev MT0 := Rho → Store → Res Bool
abbrev MA0 := Rho → Store → Res (List D)
inductive Fl where
  | nx | rt (d : D) | bk | ct
abbrev MS0 := Rho → Store → Res (Fl × Rho)

/-! ### the tie to the abstract heap -/
structure Gd where
  K : PySem.W.Frag
  mg : Str → Option Value
  /-- the tables of code objects that may grow -/
  tabs : List Addr
/-- a list that is read alone: frozen, or the module's -/
def Fz (K : PySem.W.Frag) (R φ : List Addr) (H : Hp) (a : Addr) (vs : List V) : Prop :=
  (a ∉ φ ∧ a ∉ R ∧ Rd H a (.lst vs)) ∨ ∃ (o : Obj) (its : Array Value) (n : Nat), K.lookup a = some o ∧ o.cls = .type "list" ∧ o.dict = none ∧ o.data = .seq its n ∧ its.size ≤ sizeLine ∧ Vals vs its.toList
theorem Fz.sq {K : PySem.W.Frag} {R φ : List Addr} {H : Hp} {a : Addr} {vs : List V} (h : Fz K R φ H a vs) : SqL K H a vs := by
  rcases h with ⟨_, _, h⟩ | h
  · exact .inl h
  · exact .inr h
/-- an error that was caught and kept: its class, its dict -/
def exK (a : Addr) (cls : Value) (d : Option Addr) : HO := .ext fun h => ∃ (oe : Obj) (vs : Array Value), h.get? a = some oe ∧ Zc cls d oe ∧ oe.data = .fields vs
theorem exK_tbl {a : Addr} {cls : Value} {d : Option Addr} {ps : Array Value} : exK a cls d ≠ .tbl ps := fun z => by
  have z' : HO.ext _ = HO.tbl ps := z
  cases z'
theorem exK_lst {a : Addr} {cls : Value} {d : Option Addr} {xs : List V} : exK a cls d ≠ .lst xs := fun z => by
  have z' : HO.ext _ = HO.lst xs := z
  cases z'
/-- the error's own dict: none, or of one field -/
def XdAt (R φ : List Addr) (H : Hp) (f : Str) (d : Option Addr) (vs : List V) : Prop := (vs = [] ∧ d = none) ∨ ∃ p w, vs = [w] ∧ d = some p ∧ p ∉ φ ∧ p ∉ R ∧ H p = some (.xd [(f, w)])
def ErrAt (G : Gd) (R φ : List Addr) (H : Hp) (c f : Str) (v : V) (vs : List V) : Prop := ∃ a C d, v = .ref a ∧ a ∉ φ ∧ a ∉ R ∧ G.mg c = some C ∧ H a = some (exK a C d) ∧ XdAt R φ H f d vs
theorem XdAt.mono {R φ R' φ' : List Addr} {H H' : Hp} {f : Str} {d : Option Addr} {vs : List V} (k : ∀ b o, H b = some o → b ∉ φ → b ∉ R → (∀ ps, o ≠ .tbl ps) → (∀ xs, o ≠ .lst xs) → H' b = some o ∧ b ∉ φ' ∧ b ∉ R') (h : XdAt R φ H f d vs) : XdAt R' φ' H' f d vs := by
  rcases h with h | ⟨p, w, e1, e2, n1, n2, e3⟩
  · exact .inl h
  · obtain ⟨k1, k2, k3⟩ := k p _ e3 n1 n2 (fun _ z => nomatch z) (fun _ z => nomatch z)
    exact .inr ⟨p, w, e1, e2, k2, k3, k1⟩
theorem ErrAt.mono {G : Gd} {R φ R' φ' : List Addr} {H H' : Hp} {c f : Str} {v : V} {vs : List V} (k : ∀ b o, H b = some o → b ∉ φ → b ∉ R → (∀ ps, o ≠ .tbl ps) → (∀ xs, o ≠ .lst xs) → H' b = some o ∧ b ∉ φ' ∧ b ∉ R') (h : ErrAt G R φ H c f v vs) : ErrAt G R' φ' H' c f v vs := by
  obtain ⟨a, C, d, e, n1, n2, m, h1, h2⟩ := h
  obtain ⟨k1, k2, k3⟩ := k a _ h1 n1 n2 (fun _ => exK_tbl) (fun _ => exK_lst)
  exact ⟨a, C, d, e, k2, k3, m, k1, h2.mono k⟩
mutual
/-- φ: the addresses of the store's objects; R: addresses that are kept apart -/
def Rv (G : Gd) (R φ : List Addr) (H : Hp) : D → V → Prop
  | .non, v => v = .non
  | .bl b, v => v = .bl b
  | .int i, v => v = .int i
  | .str s, v => v = .str s
  | .tup ds, v => ∃ a vs, v = .ref a ∧ H a = some (.tup vs) ∧ RvL G R φ H ds vs
  | .lst ds, v => ∃ a vs, v = .ref a ∧ a ∉ φ ∧ a ∉ R ∧ H a = some (.lst vs) ∧ RvL G R φ H ds vs
  | .frz ds, v => ∃ a vs, v = .ref a ∧ Fz G.K R φ H a vs ∧ RvL G R φ H ds vs
  | .ref n, v => ∃ a, v = .ref a ∧ φ[n]? = some a
  | .err c f ds, v => ∃ vs, ErrAt G R φ H c f v vs ∧ RvL G R φ H ds vs
def RvL (G : Gd) (R φ : List Addr) (H : Hp) : List D → List V → Prop
  | [], vs => vs = []
  | d :: ds, vs => ∃ v r, vs = v :: r ∧ Rv G R φ H d v ∧ RvL G R φ H ds r
end
/-- what is held in an object -/
def kids : O → List D
  | .lst ds => ds
  | .dct kvs => kvs.map (·.2)
  | .dcT kvs => kvs.map (·.2)
  | .ins _ fs => fs.map (·.2)
  | .lk o => kids o
/-- the object with these values in it, as the heap has it -/
def Sh (G : Gd) : O → List V → HO → Prop
  | .lst _, vs, u => u = .lst vs
  | .dct kvs, vs, u => u = .dK ((kvs.map (·.1)).zip vs)
  | .dcT kvs, vs, u => u = .dT ((kvs.map (·.1)).zip vs)
  | .ins c fs, vs, u => ∃ C dx, G.mg c = some (.ref C) ∧ u = .ins C dx ((fs.map (·.1)).zip vs)
  | .lk o, vs, u => ∃ ob u', u = .frz ob u' ∧ Sh G o vs u'
def Ro (G : Gd) (R φ : List Addr) (H : Hp) (o : O) (a : Addr) : Prop := ∃ vs u, H a = some u ∧ Sh G o vs u ∧ RvL G R φ H (kids o) vs
/-- objects of the store never are these -/
def HO.free : HO → Bool
  | .tup _ => false
  | .tbl _ => false
  | _ => true
theorem Sh.free {G : Gd} {o : O} {vs : List V} {u : HO} (h : Sh G o vs u) : HO.free u = true := by
  cases o with
  | lst ds => rw [show u = .lst vs from h]; rfl
  | dct ds => rw [show u = .dK _ from h]; rfl
  | dcT ds => rw [show u = .dT _ from h]; rfl
  | ins c fs => obtain ⟨C, dx, _, h⟩ := h; rw [h]; rfl
  | lk o => obtain ⟨ob, u', h, _⟩ := h; rw [h]; rfl
theorem Ro.mkL {G : Gd} {R φ : List Addr} {H : Hp} {ds : List D} {vs : List V} {a : Addr} (e : H a = some (.lst vs)) (r : RvL G R φ H ds vs) : Ro G R φ H (.lst ds) a := ⟨vs, _, e, rfl, r⟩
theorem Ro.ofL {G : Gd} {R φ : List Addr} {H : Hp} {ds : List D} {a : Addr} (h : Ro G R φ H (.lst ds) a) : ∃ vs, H a = some (.lst vs) ∧ RvL G R φ H ds vs := by
  obtain ⟨vs, u, e, sh, r⟩ := h
  have sh' : u = .lst vs := sh
  subst sh'
  exact ⟨vs, e, r⟩
structure Rs (G : Gd) (R φ : List Addr) (S : Store) (H : Hp) : Prop where
  nd : φ.Nodup
  len : φ.length = S.length
  apart : ∀ a ∈ φ, a ∉ R
  obj : ∀ (i : Nat) o a, S[i]? = some o → φ[i]? = some a → Ro G R φ H o a
  res : ∀ a ∈ R, H a ≠ none
  tabs : ∀ p ∈ G.tabs, GxR.TabG H p
/-- what may change: the store's objects; new ones may come -/
structure Le (φ : List Addr) (H : Hp) (φ' : List Addr) (H' : Hp) : Prop where
  pre : ∃ r, φ' = φ ++ r
  keep : ∀ a o, H a = some o → a ∉ φ → (∀ ps, o ≠ .tbl ps) → H' a = some o ∧ a ∉ φ'
  tups : ∀ a vs, H a = some (.tup vs) → H' a = some (.tup vs)
  ne : ∀ a, H a ≠ none → H' a ≠ none
  tab : ∀ a, GxR.TabG H a → GxR.TabG H' a
  frz : ∀ a ob u, H a = some (.frz ob u) → H' a = some (.frz ob u)
theorem Le.refl {φ : List Addr} {H : Hp} : Le φ H φ H := ⟨⟨[], (List.append_nil _).symm⟩, fun _ _ h n _ => ⟨h, n⟩, fun _ _ h => h, fun _ h => h, fun _ h => h, fun _ _ _ h => h⟩
theorem Le.trans {φ φ1 φ2 : List Addr} {H H1 H2 : Hp} (a : Le φ H φ1 H1) (b : Le φ1 H1 φ2 H2) : Le φ H φ2 H2 := by
  obtain ⟨r1, e1⟩ := a.pre
  obtain ⟨r2, e2⟩ := b.pre
  refine ⟨⟨r1 ++ r2, by rw [e2, e1, List.append_assoc]⟩, fun c o h n q => ?_, fun c vs h => b.tups c vs (a.tups c vs h), fun c h => b.ne c (a.ne c h), fun c h => b.tab c (a.tab c h), fun c ob u h => b.frz c ob u (a.frz c ob u h)⟩
  obtain ⟨h1, n1⟩ := a.keep c o h n q
  exact b.keep c o h1 n1 q
theorem SqT.le {G : Gd} {φ φ' : List Addr} {H H' : Hp} {a : Addr} {vs : List V} (l : Le φ H φ' H') (h : H a = some (.tup vs)) : SqT G.K H' a vs := .inl (.inl (l.tups a vs h))
theorem Fz.le {K : PySem.W.Frag} {R φ φ' : List Addr} {H H' : Hp} {a : Addr} {vs : List V} (l : Le φ H φ' H') (h : Fz K R φ H a vs) : Fz K R φ' H' a vs := by
  rcases h with ⟨n1, n2, h | ⟨o, h⟩⟩ | h
  · obtain ⟨k1, k2⟩ := l.keep a _ h n1 (fun _ z => nomatch z)
    exact .inl ⟨k2, n2, .inl k1⟩
  · obtain ⟨k1, k2⟩ := l.keep a _ h n1 (fun _ z => nomatch z)
    exact .inl ⟨k2, n2, .inr ⟨o, k1⟩⟩
  · exact .inr h
mutual
theorem Rv.le {G : Gd} {R φ φ' : List Addr} {H H' : Hp} (l : Le φ H φ' H') : ∀ {d : D} {v : V}, Rv G R φ H d v → Rv G R φ' H' d v
  | .non, v, h => by unfold Rv at h ⊢; exact h
  | .bl b, v, h => by unfold Rv at h ⊢; exact h
  | .int i, v, h => by unfold Rv at h ⊢; exact h
  | .str s, v, h => by unfold Rv at h ⊢; exact h
  | .tup ds, v, h => by
    unfold Rv at h ⊢
    obtain ⟨a, vs, e, h1, h2⟩ := h
    exact ⟨a, vs, e, l.tups a vs h1, RvL.le l h2⟩
  | .lst ds, v, h => by
    unfold Rv at h ⊢
    obtain ⟨a, vs, e, n1, n2, h1, h2⟩ := h
    obtain ⟨k1, k2⟩ := l.keep a _ h1 n1 (fun _ z => nomatch z)
    exact ⟨a, vs, e, k2, n2, k1, RvL.le l h2⟩
  | .frz ds, v, h => by
    unfold Rv at h ⊢
    obtain ⟨a, vs, e, h1, h2⟩ := h
    exact ⟨a, vs, e, Fz.le l h1, RvL.le l h2⟩
  | .ref n, v, h => by
    unfold Rv at h ⊢
    obtain ⟨a, e, h1⟩ := h
    obtain ⟨r, er⟩ := l.pre
    refine ⟨a, e, ?_⟩
    rw [er]
    obtain ⟨hl, _⟩ := List.getElem?_eq_some_iff.mp h1
    rw [List.getElem?_append_left hl]
    exact h1
  | .err c f ds, v, h => by
    unfold Rv at h ⊢
    obtain ⟨vs, e1, e2⟩ := h
    exact ⟨vs, e1.mono fun b o e n1 n2 q _ => ⟨(l.keep b o e n1 q).1, (l.keep b o e n1 q).2, n2⟩, RvL.le l e2⟩
theorem RvL.le {G : Gd} {R φ φ' : List Addr} {H H' : Hp} (l : Le φ H φ' H') : ∀ {ds : List D} {vs : List V}, RvL G R φ H ds vs → RvL G R φ' H' ds vs
  | [], vs, h => by unfold RvL at h ⊢; exact h
  | d :: ds, vs, h => by
    unfold RvL at h ⊢
    obtain ⟨v, r, e, h1, h2⟩ := h
    exact ⟨v, r, e, Rv.le l h1, RvL.le l h2⟩
end
section
variable {G : Gd} {R φ φ' : List Addr} {S S' : Store} {H H' : Hp}
theorem RvL.length : ∀ {ds : List D} {vs : List V}, RvL G R φ H ds vs → ds.length = vs.length
  | [], vs, h => by unfold RvL at h; subst h; rfl
  | d :: ds, vs, h => by
    unfold RvL at h
    obtain ⟨v, r, e, _, h2⟩ := h
    subst e
    rw [List.length_cons, List.length_cons, RvL.length h2]
theorem RvL.get : ∀ {ds : List D} {vs : List V} {i : Nat} {d : D}, RvL G R φ H ds vs → ds[i]? = some d → ∃ v, vs[i]? = some v ∧ Rv G R φ H d v
  | [], vs, i, d, h, e => by simp at e
  | x :: ds, vs, 0, d, h, e => by
    unfold RvL at h
    obtain ⟨v, r, rfl, h1, _⟩ := h
    have e' : x = d := by simpa using e
    subst e'
    exact ⟨v, rfl, h1⟩
  | x :: ds, vs, i + 1, d, h, e => by
    unfold RvL at h
    obtain ⟨v, r, rfl, _, h2⟩ := h
    obtain ⟨u, e1, e2⟩ := RvL.get (i := i) h2 (by simpa using e)
    exact ⟨u, by simpa using e1, e2⟩
theorem RvL.getV : ∀ {ds : List D} {vs : List V} {i : Nat} {v : V}, RvL G R φ H ds vs → vs[i]? = some v → ∃ d, ds[i]? = some d ∧ Rv G R φ H d v := fun {ds vs i v} h e => by
  obtain ⟨hl, _⟩ := List.getElem?_eq_some_iff.mp e
  have hd : i < ds.length := by rw [RvL.length h]; exact hl
  obtain ⟨u, e1, e2⟩ := RvL.get h (List.getElem?_eq_getElem hd)
  rw [e] at e1
  cases e1
  exact ⟨_, List.getElem?_eq_getElem hd, e2⟩
theorem RvL.nil : RvL G R φ H [] [] := by unfold RvL; rfl
theorem RvL.cons {d : D} {ds : List D} {v : V} {vs : List V} (h : Rv G R φ H d v) (t : RvL G R φ H ds vs) : RvL G R φ H (d :: ds) (v :: vs) := by
  unfold RvL
  exact ⟨v, vs, rfl, h, t⟩
theorem RvL.append : ∀ {ds es : List D} {vs us : List V}, RvL G R φ H ds vs → RvL G R φ H es us → RvL G R φ H (ds ++ es) (vs ++ us)
  | [], es, vs, us, h, t => by unfold RvL at h; subst h; exact t
  | d :: ds, es, vs, us, h, t => by
    unfold RvL at h
    obtain ⟨v, r, rfl, h1, h2⟩ := h
    exact RvL.cons h1 (RvL.append h2 t)
theorem RvL.set : ∀ {ds : List D} {vs : List V} {i : Nat} {d : D} {v : V}, RvL G R φ H ds vs → Rv G R φ H d v → RvL G R φ H (ds.set i d) (vs.set i v)
  | [], vs, i, d, v, h, r => by unfold RvL at h; subst h; exact RvL.nil
  | x :: ds, vs, 0, d, v, h, r => by
    unfold RvL at h
    obtain ⟨u, t, rfl, h1, h2⟩ := h
    exact RvL.cons r h2
  | x :: ds, vs, i + 1, d, v, h, r => by
    unfold RvL at h
    obtain ⟨u, t, rfl, h1, h2⟩ := h
    exact RvL.cons h1 (RvL.set h2 r)
theorem RvL.drop : ∀ {ds : List D} {vs : List V} (n : Nat), RvL G R φ H ds vs → RvL G R φ H (ds.drop n) (vs.drop n)
  | _, _, 0, h => h
  | [], vs, n + 1, h => by unfold RvL at h; subst h; exact RvL.nil
  | x :: ds, vs, n + 1, h => by
    unfold RvL at h
    obtain ⟨u, t, rfl, h1, h2⟩ := h
    exact RvL.drop n h2
theorem RvL.take : ∀ {ds : List D} {vs : List V} (n : Nat), RvL G R φ H ds vs → RvL G R φ H (ds.take n) (vs.take n)
  | _, _, 0, h => RvL.nil
  | [], vs, n + 1, h => by unfold RvL at h; subst h; exact RvL.nil
  | x :: ds, vs, n + 1, h => by
    unfold RvL at h
    obtain ⟨u, t, rfl, h1, h2⟩ := h
    exact RvL.cons h1 (RvL.take n h2)
theorem RvL.reverse : ∀ {ds : List D} {vs : List V}, RvL G R φ H ds vs → RvL G R φ H ds.reverse vs.reverse
  | [], vs, h => by unfold RvL at h; subst h; exact RvL.nil
  | x :: ds, vs, h => by
    unfold RvL at h
    obtain ⟨u, t, rfl, h1, h2⟩ := h
    rw [List.reverse_cons, List.reverse_cons]
    exact RvL.append (RvL.reverse h2) (RvL.cons h1 RvL.nil)
/-- the environment -/
structure Rn (G : Gd) (R φ : List Addr) (H : Hp) (ρ : Rho) (σ : L2.St) : Prop where
  len : ρ.length = σ.length
  get : ∀ (i : Nat) (d : D), ρ[i]? = some (some d) → ∃ v, σ[i]? = some (some v) ∧ Rv G R φ H d v
theorem Rn.le (l : Le φ H φ' H') {ρ : Rho} {σ : L2.St} (r : Rn G R φ H ρ σ) : Rn G R φ' H' ρ σ := ⟨r.len, fun i d e => by
  obtain ⟨v, e1, e2⟩ := r.get i d e
  exact ⟨v, e1, Rv.le l e2⟩⟩
theorem Rn.set {ρ : Rho} {σ : L2.St} (r : Rn G R φ H ρ σ) {i : Nat} {d : D} {v : V} (h : Rv G R φ H d v) : Rn G R φ H (ρ.set i (some d)) (σ.set i (some v)) := by
  refine ⟨by rw [List.length_set, List.length_set]; exact r.len, fun j e q => ?_⟩
  by_cases hj : i = j
  · subst hj
    by_cases hl : i < ρ.length
    · rw [List.getElem?_set_self hl] at q
      cases q
      exact ⟨v, List.getElem?_set_self (by rw [← r.len]; exact hl), h⟩
    · rw [List.getElem?_eq_none (by rw [List.length_set]; omega)] at q
      cases q
  · rw [List.getElem?_set_ne hj] at q ⊢
    exact r.get j e q
theorem Rn.set_none {ρ : Rho} {σ : L2.St} (r : Rn G R φ H ρ σ) {i : Nat} {o : Option V} : Rn G R φ H (ρ.set i none) (σ.set i o) := by
  refine ⟨by rw [List.length_set, List.length_set]; exact r.len, fun j e q => ?_⟩
  by_cases hj : i = j
  · subst hj
    by_cases hl : i < ρ.length
    · rw [List.getElem?_set_self hl] at q
      cases q
    · rw [List.getElem?_eq_none (by rw [List.length_set]; omega)] at q
      cases q
  · rw [List.getElem?_set_ne hj] at q ⊢
    exact r.get j e q
end
section
variable {G : Gd} {R R' φ φ' : List Addr} {S S' : Store} {H H' : Hp}
mutual
/-- other addresses kept apart: those that were free -/
theorem Rv.reR (hR : ∀ a ∈ R', a ∈ R ∨ H a = none) : ∀ {d : D} {v : V}, Rv G R φ H d v → Rv G R' φ H d v
  | .non, v, h => by unfold Rv at h ⊢; exact h
  | .bl b, v, h => by unfold Rv at h ⊢; exact h
  | .int i, v, h => by unfold Rv at h ⊢; exact h
  | .str s, v, h => by unfold Rv at h ⊢; exact h
  | .tup ds, v, h => by
    unfold Rv at h ⊢
    obtain ⟨a, vs, e, h1, h2⟩ := h
    exact ⟨a, vs, e, h1, RvL.reR hR h2⟩
  | .lst ds, v, h => by
    unfold Rv at h ⊢
    obtain ⟨a, vs, e, n1, n2, h1, h2⟩ := h
    refine ⟨a, vs, e, n1, fun z => ?_, h1, RvL.reR hR h2⟩
    rcases hR a z with q | q
    · exact n2 q
    · rw [h1] at q
      cases q
  | .frz ds, v, h => by
    unfold Rv at h ⊢
    obtain ⟨a, vs, e, h1, h2⟩ := h
    refine ⟨a, vs, e, ?_, RvL.reR hR h2⟩
    rcases h1 with ⟨n1, n2, h1⟩ | h1
    · refine .inl ⟨n1, fun z => ?_, h1⟩
      rcases hR a z with q | q
      · exact n2 q
      · rcases h1 with h1 | ⟨o, h1⟩
        · rw [h1] at q
          cases q
        · rw [h1] at q
          cases q
    · exact .inr h1
  | .ref n, v, h => by unfold Rv at h ⊢; exact h
  | .err c f ds, v, h => by
    unfold Rv at h ⊢
    obtain ⟨vs, e1, e2⟩ := h
    refine ⟨vs, e1.mono fun b o e n1 n2 q _ => ⟨e, n1, fun z => ?_⟩, RvL.reR hR e2⟩
    rcases hR b z with q | q
    · exact n2 q
    · rw [e] at q
      cases q
theorem RvL.reR (hR : ∀ a ∈ R', a ∈ R ∨ H a = none) : ∀ {ds : List D} {vs : List V}, RvL G R φ H ds vs → RvL G R' φ H ds vs
  | [], vs, h => by unfold RvL at h ⊢; exact h
  | d :: ds, vs, h => by
    unfold RvL at h ⊢
    obtain ⟨v, r, e, h1, h2⟩ := h
    exact ⟨v, r, e, Rv.reR hR h1, RvL.reR hR h2⟩
end
mutual
/-- an address kept apart becomes the store's -/
theorem Rv.own {p : Addr} : ∀ {d : D} {v : V}, Rv G (p :: R) φ H d v → Rv G R (φ ++ [p]) H d v
  | .non, v, h => by unfold Rv at h ⊢; exact h
  | .bl b, v, h => by unfold Rv at h ⊢; exact h
  | .int i, v, h => by unfold Rv at h ⊢; exact h
  | .str s, v, h => by unfold Rv at h ⊢; exact h
  | .tup ds, v, h => by
    unfold Rv at h ⊢
    obtain ⟨a, vs, e, h1, h2⟩ := h
    exact ⟨a, vs, e, h1, RvL.own h2⟩
  | .lst ds, v, h => by
    unfold Rv at h ⊢
    obtain ⟨a, vs, e, n1, n2, h1, h2⟩ := h
    refine ⟨a, vs, e, fun z => ?_, fun z => n2 (List.mem_cons_of_mem _ z), h1, RvL.own h2⟩
    rcases List.mem_append.mp z with q | q
    · exact n1 q
    · exact n2 (by rw [List.mem_singleton.mp q]; exact List.mem_cons_self)
  | .frz ds, v, h => by
    unfold Rv at h ⊢
    obtain ⟨a, vs, e, h1, h2⟩ := h
    refine ⟨a, vs, e, ?_, RvL.own h2⟩
    rcases h1 with ⟨n1, n2, h1⟩ | h1
    · refine .inl ⟨fun z => ?_, fun z => n2 (List.mem_cons_of_mem _ z), h1⟩
      rcases List.mem_append.mp z with q | q
      · exact n1 q
      · exact n2 (by rw [List.mem_singleton.mp q]; exact List.mem_cons_self)
    · exact .inr h1
  | .ref n, v, h => by
    unfold Rv at h ⊢
    obtain ⟨a, e, h1⟩ := h
    refine ⟨a, e, ?_⟩
    rw [List.getElem?_append_left (List.getElem?_eq_some_iff.mp h1).1]
    exact h1
  | .err c f ds, v, h => by
    unfold Rv at h ⊢
    obtain ⟨vs, e1, e2⟩ := h
    refine ⟨vs, e1.mono fun b o e n1 n2 q _ => ⟨e, fun z => ?_, fun z => n2 (List.mem_cons_of_mem _ z)⟩, RvL.own e2⟩
    rcases List.mem_append.mp z with q | q
    · exact n1 q
    · exact n2 (by rw [List.mem_singleton.mp q]; exact List.mem_cons_self)
theorem RvL.own {p : Addr} : ∀ {ds : List D} {vs : List V}, RvL G (p :: R) φ H ds vs → RvL G R (φ ++ [p]) H ds vs
  | [], vs, h => by unfold RvL at h ⊢; exact h
  | d :: ds, vs, h => by
    unfold RvL at h ⊢
    obtain ⟨v, r, e, h1, h2⟩ := h
    exact ⟨v, r, e, Rv.own h1, RvL.own h2⟩
end
mutual
/-- a list kept apart is written -/
theorem Rv.upR {p : Addr} {us : List V} (h1 : ∀ b u, H b = some u → b ≠ p → H' b = some u) (h2 : H p = some (.lst us)) (h3 : p ∈ R) : ∀ {d : D} {v : V}, Rv G R φ H d v → Rv G R φ H' d v
  | .non, v, h => by unfold Rv at h ⊢; exact h
  | .bl b, v, h => by unfold Rv at h ⊢; exact h
  | .int i, v, h => by unfold Rv at h ⊢; exact h
  | .str s, v, h => by unfold Rv at h ⊢; exact h
  | .tup ds, v, h => by
    unfold Rv at h ⊢
    obtain ⟨a, vs, e, q1, q2⟩ := h
    exact ⟨a, vs, e, h1 a _ q1 (ne_of q1 h2 (fun z => nomatch z)), RvL.upR h1 h2 h3 q2⟩
  | .lst ds, v, h => by
    unfold Rv at h ⊢
    obtain ⟨a, vs, e, n1, n2, q1, q2⟩ := h
    exact ⟨a, vs, e, n1, n2, h1 a _ q1 (fun z => n2 (by rw [z]; exact h3)), RvL.upR h1 h2 h3 q2⟩
  | .frz ds, v, h => by
    unfold Rv at h ⊢
    obtain ⟨a, vs, e, q1, q2⟩ := h
    refine ⟨a, vs, e, ?_, RvL.upR h1 h2 h3 q2⟩
    rcases q1 with ⟨n1, n2, q1 | ⟨o, q1⟩⟩ | q1
    · exact .inl ⟨n1, n2, .inl (h1 a _ q1 (fun z => n2 (by rw [z]; exact h3)))⟩
    · exact .inl ⟨n1, n2, .inr ⟨o, h1 a _ q1 (fun z => n2 (by rw [z]; exact h3))⟩⟩
    · exact .inr q1
  | .ref n, v, h => by unfold Rv at h ⊢; exact h
  | .err c f ds, v, h => by
    unfold Rv at h ⊢
    obtain ⟨vs, e1, e2⟩ := h
    exact ⟨vs, e1.mono fun b o e n1 n2 q _ => ⟨h1 b o e (fun z => n2 (by rw [z]; exact h3)), n1, n2⟩, RvL.upR h1 h2 h3 e2⟩
theorem RvL.upR {p : Addr} {us : List V} (h1 : ∀ b u, H b = some u → b ≠ p → H' b = some u) (h2 : H p = some (.lst us)) (h3 : p ∈ R) : ∀ {ds : List D} {vs : List V}, RvL G R φ H ds vs → RvL G R φ H' ds vs
  | [], vs, h => by unfold RvL at h ⊢; exact h
  | d :: ds, vs, h => by
    unfold RvL at h ⊢
    obtain ⟨v, r, e, q1, q2⟩ := h
    exact ⟨v, r, e, Rv.upR h1 h2 h3 q1, RvL.upR h1 h2 h3 q2⟩
end
theorem Rn.reR (hR : ∀ a ∈ R', a ∈ R ∨ H a = none) {ρ : Rho} {σ : L2.St} (r : Rn G R φ H ρ σ) : Rn G R' φ H ρ σ := ⟨r.len, fun i d e => by
  obtain ⟨v, e1, e2⟩ := r.get i d e
  exact ⟨v, e1, Rv.reR hR e2⟩⟩
theorem Ro.reR (hR : ∀ a ∈ R', a ∈ R ∨ H a = none) {o : O} {a : Addr} (h : Ro G R φ H o a) : Ro G R' φ H o a := by
  obtain ⟨vs, u, e, sh, r⟩ := h
  exact ⟨vs, u, e, sh, RvL.reR hR r⟩
theorem Ro.own {p : Addr} {o : O} {a : Addr} (h : Ro G (p :: R) φ H o a) : Ro G R (φ ++ [p]) H o a := by
  obtain ⟨vs, u, e, sh, r⟩ := h
  exact ⟨vs, u, e, sh, RvL.own r⟩
end
section
variable {G : Gd} {R φ φ' : List Addr} {S S' : Store} {H H' : Hp}
/-- a new object that the store does not know -/
theorem Le.new (r : Rs G R φ S H) {p : Addr} {o : HO} (h : H p = none) : Le φ H φ (upd H p o) := by
  refine ⟨⟨[], (List.append_nil _).symm⟩, fun a u e n _ => ⟨by rw [upd_ne (ne_of_none e h)]; exact e, n⟩, fun a vs e => by rw [upd_ne (ne_of_none e h)]; exact e, fun a e => ?_, fun a ⟨ps, e, t⟩ => ⟨ps, by rw [upd_ne (ne_of_none e h)]; exact e, t⟩, fun a ob u e => by rw [upd_ne (ne_of_none e h)]; exact e⟩
  · by_cases hp : a = p
    · subst hp
      rw [upd_same]
      exact fun z => nomatch z
    · rw [upd_ne hp]
      exact e
theorem Rs.at (r : Rs G R φ S H) {a : Addr} (h : a ∈ φ) : ∃ (i : Nat) (o : O), φ[i]? = some a ∧ S[i]? = some o ∧ Ro G R φ H o a := by
  obtain ⟨i, hi⟩ := List.mem_iff_getElem?.mp h
  have hl : i < S.length := by
    rw [← r.len]
    exact (List.getElem?_eq_some_iff.mp hi).1
  exact ⟨i, _, hi, List.getElem?_eq_getElem hl, r.obj i _ a (List.getElem?_eq_getElem hl) hi⟩
theorem Ro.there {o : O} {a : Addr} (h : Ro G R φ H o a) : ∃ u, H a = some u := by
  obtain ⟨vs, u, e, _⟩ := h
  exact ⟨u, e⟩
theorem Rs.fresh (r : Rs G R φ S H) {p : Addr} (h : H p = none) : p ∉ φ ∧ p ∉ R := by
  refine ⟨fun z => ?_, fun z => r.res p z h⟩
  obtain ⟨i, o, _, _, ro⟩ := r.at z
  obtain ⟨u, e⟩ := Ro.there ro
  rw [h] at e
  cases e
theorem Ro.le (l : Le φ H φ' H') {o : O} {a : Addr} (h : Ro G R φ H o a) (k : H' a = H a) : Ro G R φ' H' o a := by
  obtain ⟨vs, u, e, sh, r⟩ := h
  exact ⟨vs, u, k.trans e, sh, RvL.le l r⟩
theorem Rs.reserve (r : Rs G R φ S H) {p : Addr} {o : HO} (h : H p = none) : Rs G (p :: R) φ S (upd H p o) := by
  have l := Le.new r (o := o) h
  have fr := r.fresh h
  refine ⟨r.nd, r.len, fun a ha z => ?_, fun i u a e1 e2 => ?_, fun a ha => ?_, fun a ha => l.tab a (r.tabs a ha)⟩
  · rcases List.mem_cons.mp z with z | z
    · exact fr.1 (z ▸ ha)
    · exact r.apart a ha z
  · have ro := Ro.reR (R' := p :: R) (fun b hb => (List.mem_cons.mp hb).elim (fun z => .inr (by rw [z]; exact h)) .inl) (r.obj i u a e1 e2)
    refine Ro.le l ro (upd_ne ?_)
    rintro rfl
    exact fr.1 (List.mem_iff_getElem?.mpr ⟨i, e2⟩)
  · rcases List.mem_cons.mp ha with z | z
    · rw [z, upd_same]
      exact fun q => nomatch q
    · exact l.ne a (r.res a z)
theorem Rs.release {p : Addr} (r : Rs G (p :: R) φ S H) : Rs G R φ S H := by
  have hR : ∀ a ∈ R, a ∈ p :: R ∨ H a = none := fun a ha => .inl (List.mem_cons_of_mem _ ha)
  exact ⟨r.nd, r.len, fun a ha z => r.apart a ha (List.mem_cons_of_mem _ z), fun i u a e1 e2 => Ro.reR hR (r.obj i u a e1 e2), fun a ha => r.res a (List.mem_cons_of_mem _ ha), r.tabs⟩
/-- what was kept apart becomes the store's -/
theorem Rs.own {p : Addr} {o : O} (r : Rs G (p :: R) φ S H) (hp : p ∉ R) (ro : Ro G R (φ ++ [p]) H o p) : Rs G R (φ ++ [p]) (S ++ [o]) H := by
  have np : p ∉ φ := fun z => r.apart p z List.mem_cons_self
  refine ⟨?_, by rw [List.length_append, List.length_append, r.len]; rfl, fun a ha => ?_, fun i u a e1 e2 => ?_, fun a ha => r.res a (List.mem_cons_of_mem _ ha), r.tabs⟩
  · rw [List.nodup_append]
    exact ⟨r.nd, by simp, fun a ha b hb e => np (by have := List.mem_singleton.mp hb; rw [← this, ← e]; exact ha)⟩
  · rcases List.mem_append.mp ha with z | z
    · exact fun q => r.apart a z (List.mem_cons_of_mem _ q)
    · rw [List.mem_singleton.mp z]
      exact hp
  · by_cases hi : i < φ.length
    · rw [List.getElem?_append_left hi] at e2
      rw [List.getElem?_append_left (by rw [← r.len]; exact hi)] at e1
      exact Ro.own (r.obj i u a e1 e2)
    · rw [List.getElem?_append_right (by omega)] at e2
      rw [List.getElem?_append_right (by rw [← r.len]; omega), ← r.len] at e1
      have e0 : i - φ.length = 0 := by
        have := (List.getElem?_eq_some_iff.mp e2).1
        simp at this
        omega
      rw [e0] at e1 e2
      cases e1
      cases e2
      exact ro
theorem Rs.new (r : Rs G R φ S H) {p : Addr} {o : HO} (h : H p = none) : Rs G R φ S (upd H p o) := by
  have l := Le.new r (o := o) h
  refine ⟨r.nd, r.len, r.apart, fun i u a e1 e2 => ?_, fun a ha => l.ne a (r.res a ha), fun a ha => l.tab a (r.tabs a ha)⟩
  refine Ro.le l (r.obj i u a e1 e2) (upd_ne ?_)
  rintro rfl
  exact (r.fresh h).1 (List.mem_iff_getElem?.mpr ⟨i, e2⟩)
/-- a new store object -/
theorem Le.alloc (r : Rs G R φ S H) {p : Addr} {o : HO} (h : H p = none) : Le φ H (φ ++ [p]) (upd H p o) := by
  have l := Le.new r (o := o) h
  refine ⟨⟨[p], rfl⟩, fun a u e n q => ⟨(l.keep a u e n q).1, fun z => ?_⟩, l.tups, l.ne, l.tab, l.frz⟩
  rcases List.mem_append.mp z with z | z
  · exact n z
  · exact ne_of_none e h (List.mem_singleton.mp z)
theorem Rs.alloc (r : Rs G R φ S H) {p : Addr} {ho : HO} {o : O} (h : H p = none) (ro : Ro G R (φ ++ [p]) (upd H p ho) o p) : Rs G R (φ ++ [p]) (S ++ [o]) (upd H p ho) := by
  have l := Le.alloc r (o := ho) h
  have fr := r.fresh h
  refine ⟨?_, by rw [List.length_append, List.length_append, r.len]; rfl, fun a ha => ?_, fun i u a e1 e2 => ?_, fun a ha => l.ne a (r.res a ha), fun a ha => l.tab a (r.tabs a ha)⟩
  · rw [List.nodup_append]
    exact ⟨r.nd, by simp, fun a ha b hb e => fr.1 (by have := List.mem_singleton.mp hb; rw [← this, ← e]; exact ha)⟩
  · rcases List.mem_append.mp ha with z | z
    · exact r.apart a z
    · rw [List.mem_singleton.mp z]
      exact fr.2
  · by_cases hi : i < φ.length
    · rw [List.getElem?_append_left hi] at e2
      rw [List.getElem?_append_left (by rw [← r.len]; exact hi)] at e1
      refine Ro.le l (r.obj i u a e1 e2) (upd_ne ?_)
      rintro rfl
      exact fr.1 (List.mem_iff_getElem?.mpr ⟨i, e2⟩)
    · rw [List.getElem?_append_right (by omega)] at e2
      rw [List.getElem?_append_right (by rw [← r.len]; omega), ← r.len] at e1
      have e0 : i - φ.length = 0 := by
        have := (List.getElem?_eq_some_iff.mp e2).1
        simp at this
        omega
      rw [e0] at e1 e2
      cases e1
      cases e2
      exact ro
/-- what is locked is not written -/
theorem nfz {a : Addr} {u : HO} (e : H a = some u) (h : ∀ ob u', u ≠ .frz ob u') : ∀ ob u', H a ≠ some (.frz ob u') := fun ob u' z => h ob u' (Option.some.inj (e.symm.trans z))
theorem Sh.rd {o : O} {vs : List V} {u : HO} {a : Addr} (sh : Sh G o vs u) (e : H a = some u) : ∃ u', Rd H a u' ∧ Sh G o.base vs u' ∧ kids o.base = kids o := by
  cases o with
  | lk o =>
    obtain ⟨ob, u', rfl, h⟩ := sh
    exact ⟨u', .inr ⟨ob, e⟩, h, rfl⟩
  | _ => exact ⟨u, .inl e, sh, rfl⟩
/-- a store object is written -/
theorem Le.write (r : Rs G R φ S H) {n : Nat} {a : Addr} {o : HO} (h : φ[n]? = some a) (nf : ∀ ob u, H a ≠ some (.frz ob u)) : Le φ H φ (upd H a o) := by
  have ha : a ∈ φ := List.mem_iff_getElem?.mpr ⟨n, h⟩
  refine ⟨⟨[], (List.append_nil _).symm⟩, fun b u e nb _ => ⟨?_, nb⟩, fun b vs e => ?_, fun b e => ?_, fun b ⟨ps, e, t⟩ => ⟨ps, ?_, t⟩, fun b ob u e => by rw [upd_ne (show b ≠ a from fun z => nf ob u (z ▸ e))]; exact e⟩
  · rw [upd_ne (show b ≠ a from fun z => nb (by rw [z]; exact ha))]
    exact e
  · have nb : b ≠ a := by
      rintro rfl
      obtain ⟨i, ob, _, _, ro⟩ := r.at ha
      obtain ⟨ws, u, e1, sh, _⟩ := ro
      have fr := sh.free
      rw [e1] at e
      cases e
      cases fr
    rw [upd_ne nb]
    exact e
  · by_cases hp : b = a
    · subst hp
      rw [upd_same]
      exact fun z => nomatch z
    · rw [upd_ne hp]
      exact e
  · have nb : b ≠ a := by
      rintro rfl
      obtain ⟨i, ob, _, _, ro⟩ := r.at ha
      obtain ⟨ws, u, e1, sh, _⟩ := ro
      have fr := sh.free
      rw [e1] at e
      cases e
      cases fr
    rw [upd_ne nb]
    exact e
theorem Rs.write (r : Rs G R φ S H) {n : Nat} {a : Addr} {ho : HO} {o : O} (h : φ[n]? = some a) (nf : ∀ ob u, H a ≠ some (.frz ob u)) (ro : Ro G R φ (upd H a ho) o a) : Rs G R φ (S.set n o) (upd H a ho) := by
  have l := Le.write r (o := ho) h nf
  refine ⟨r.nd, by rw [List.length_set]; exact r.len, r.apart, fun i u b e1 e2 => ?_, fun b hb => l.ne b (r.res b hb), fun b hb => l.tab b (r.tabs b hb)⟩
  by_cases hi : n = i
  · subst hi
    rw [h] at e2
    cases e2
    rw [List.getElem?_set_self (by rw [← r.len]; exact (List.getElem?_eq_some_iff.mp h).1)] at e1
    cases e1
    exact ro
  · rw [List.getElem?_set_ne hi] at e1
    refine Ro.le l (r.obj i u b e1 e2) (upd_ne ?_)
    rintro rfl
    exact hi ((List.getElem?_inj (List.getElem?_eq_some_iff.mp h).1 r.nd).mp (h.trans e2.symm))
end

/-! ### a run: what a computation in continuation form answers, by its mirror -/
/-- the class at C and the name of it, the error's own dict -/
def Xq (G : Gd) (R φ : List Addr) (H : Hp) (e : Er) (c : Value) (d : Option Addr) : Prop :=
  G.mg e.cls = some c ∧ ∃ vs, XdAt R φ H e.fld d vs ∧ RvL G R φ H e.arg vs
def Run {α β : Type} (G : Gd) (E : XK) (R φ : List Addr) (H : Hp) (rel : List Addr → Hp → β → α → Prop) (r : Res β) (c : (α → Hp → Prop) → Prop) : Prop :=
  ∀ Q : α → Hp → Prop, (∀ b S' φ' v H', r = .ok b S' → Le φ H φ' H' → Rs G R φ' S' H' → rel φ' H' b v → Q v H') →
    (∀ e S' φ' H' cl d, r = .exc e S' → Le φ H φ' H' → Rs G R φ' S' H' → Xq G R φ' H' e cl d → E cl d H') → r ≠ .bad → c Q
section
variable {α β γ δ : Type} {G : Gd} {E : XK} {R φ φ' : List Addr} {S S' : Store} {H H' : Hp}
theorem Run.bind {rel : List Addr → Hp → β → α → Prop} {rel' : List Addr → Hp → δ → γ → Prop} {r : Res β} {k : β → Store → Res δ} {c : (α → Hp → Prop) → Prop} {c' : α → Hp → (γ → Hp → Prop) → Prop}
    (h : Run G E R φ H rel r c) (hk : ∀ b S' φ' v H', r = .ok b S' → Le φ H φ' H' → Rs G R φ' S' H' → rel φ' H' b v → Run G E R φ' H' rel' (k b S') (c' v H')) :
    Run G E R φ H rel' (r.bind k) (fun Q => c fun v H' => c' v H' Q) := by
  intro Q hq he hb
  refine h _ (fun b S' φ' v H' e l rs rl => ?_) (fun e S' φ' H' cl d er l rs x => he e S' φ' H' cl d (by rw [er]; rfl) l rs x) (fun z => hb (by rw [z]; rfl))
  subst e
  refine hk b S' φ' v H' rfl l rs rl Q (fun b2 S2 φ2 v2 H2 e2 l2 rs2 rl2 => hq b2 S2 φ2 v2 H2 e2 (l.trans l2) rs2 rl2) (fun e S2 φ2 H2 cl d er l2 rs2 x => he e S2 φ2 H2 cl d er (l.trans l2) rs2 x) hb
/-- the same, towards a computation that comes to it -/
theorem Run.bnd {rel : List Addr → Hp → β → α → Prop} {rel' : List Addr → Hp → δ → γ → Prop} {r : Res β} {k : β → Store → Res δ} {c : (α → Hp → Prop) → Prop} {c' : α → Hp → (γ → Hp → Prop) → Prop} {c0 : (γ → Hp → Prop) → Prop}
    (h : Run G E R φ H rel r c) (hk : ∀ b S' φ' v H', r = .ok b S' → Le φ H φ' H' → Rs G R φ' S' H' → rel φ' H' b v → Run G E R φ' H' rel' (k b S') (c' v H'))
    (hc : ∀ Q, c (fun v H' => c' v H' Q) → c0 Q := by exact fun _ q => q) : Run G E R φ H rel' (r.bind k) c0 := fun Q hq he hb => hc Q (Run.bind h hk Q hq he hb)
theorem Run.ret {rel : List Addr → Hp → β → α → Prop} {b : β} {v : α} {c : (α → Hp → Prop) → Prop} (rs : Rs G R φ S H) (h : rel φ H b v) (hc : ∀ Q : α → Hp → Prop, Q v H → c Q) : Run G E R φ H rel (.ok b S) c :=
  fun Q hq _ _ => hc Q (hq b S φ v H rfl Le.refl rs h)
theorem Run.bad {rel : List Addr → Hp → β → α → Prop} {c : (α → Hp → Prop) → Prop} : Run G E R φ H rel (.bad : Res β) c := fun _ _ _ h => (h rfl).elim
/-- a new object behind it -/
theorem Run.new {rel : List Addr → Hp → β → V → Prop} {b : β} {o : HO} {c : VK → Prop} (rs : Rs G R φ S H) (h : ∀ p, H p = none → rel φ (upd H p o) b (.ref p)) (hc : ∀ Q : VK, (∀ p, H p = none → Q (.ref p) (upd H p o)) → c Q) : Run G E R φ H rel (.ok b S) c :=
  fun Q hq _ _ => hc Q fun p hp => hq b S φ (.ref p) _ rfl (Le.new rs hp) (rs.new hp) (h p hp)
theorem Run.imp {rel rel' : List Addr → Hp → β → α → Prop} {r : Res β} {c : (α → Hp → Prop) → Prop} (h : Run G E R φ H rel r c) (hr : ∀ φ' H' b v, rel φ' H' b v → rel' φ' H' b v) : Run G E R φ H rel' r c :=
  fun Q hq he hb => h Q (fun b S' φ' v H' e l rs rl => hq b S' φ' v H' e l rs (hr _ _ _ _ rl)) he hb
theorem Run.conv {rel : List Addr → Hp → β → α → Prop} {r : Res β} {c c' : (α → Hp → Prop) → Prop} (h : Run G E R φ H rel r c) (hc : ∀ Q, c Q → c' Q) : Run G E R φ H rel r c' :=
  fun Q hq he hb => hc Q (h Q hq he hb)
end
abbrev RelV' (G : Gd) (R : List Addr) : List Addr → Hp → D → V → Prop := fun φ H d v => Rv G R φ H d v
abbrev RelB : List Addr → Hp → Bool → Bool → Prop := fun _ _ b c => b = c
abbrev RelL (G : Gd) (R : List Addr) : List Addr → Hp → List D → List V → Prop := fun φ H ds vs => RvL G R φ H ds vs
def SndE (G : Gd) (E : XK) (t : TE) (m : ME0) : Prop := ∀ σ H ρ φ R S, Rs G R φ S H → Rn G R φ H ρ σ → Run G E R φ H (RelV' G R) (m ρ S) (t σ H)
def SndT (G : Gd) (E : XK) (t : TT) (m : MT0) : Prop := ∀ σ H ρ φ R S, Rs G R φ S H → Rn G R φ H ρ σ → Run G E R φ H RelB (m ρ S) (t σ H)
def SndA (G : Gd) (E : XK) (t : TA) (m : MA0) : Prop := ∀ σ H ρ φ R S, Rs G R φ S H → Rn G R φ H ρ σ → Run G E R φ H (RelL G R) (m ρ S) (t σ H)
abbrev _root_.L2.Cx.gd (X : Cx) (T : List Addr) : Gd := ⟨X.K, X.mg, T⟩
def ME (T : List Addr) (X : Cx) (E : XK) (e : Expr) (m : ME0) : Prop := ∃ t, PE X e t ∧ SndE (X.gd T) E t m
def MT (T : List Addr) (X : Cx) (E : XK) (e : Expr) (m : MT0) : Prop := ∃ t, PT X e t ∧ SndT (X.gd T) E t m
def MW (T : List Addr) (X : Cx) (E : XK) (e : Expr) (m : MT0) : Prop := ∃ t, PW X e t ∧ SndT (X.gd T) E t m
def MA (T : List Addr) (X : Cx) (E : XK) (es : List Expr) (m : MA0) : Prop := ∃ t, PA X es t ∧ SndA (X.gd T) E t m
/-- what a statement ends in -/
inductive Out where
  | nx (σ : L2.St) | rt (v : V) | bk (σ : L2.St) | ct (σ : L2.St)
def endsOf (Q : Out → Hp → Prop) : Ends := ⟨fun σ H => Q (.nx σ) H, fun v H => Q (.rt v) H, fun σ H => Q (.bk σ) H, fun σ H => Q (.ct σ) H⟩
def outTo (D : Ends) : Out → Hp → Prop
  | .nx σ, H => D.nx σ H
  | .rt v, H => D.rt v H
  | .bk σ, H => D.bk σ H
  | .ct σ, H => D.ct σ H
theorem endsOf_outTo (D : Ends) : endsOf (outTo D) = D := rfl
def RelO (G : Gd) (R : List Addr) : List Addr → Hp → (Fl × Rho) → Out → Prop := fun φ H x o => match x.1, o with
  | .nx, .nx σ => Rn G R φ H x.2 σ
  | .rt d, .rt v => Rv G R φ H d v
  | .bk, .bk σ => Rn G R φ H x.2 σ
  | .ct, .ct σ => Rn G R φ H x.2 σ
  | _, _ => False
def SndS (G : Gd) (E : XK) (t : TS) (m : MS0) : Prop := ∀ σ H ρ φ R S, Rs G R φ S H → Rn G R φ H ρ σ → Run G E R φ H (RelO G R) (m ρ S) (fun Q => t (endsOf Q) σ H)
def MS (T : List Addr) (X : Cx) (E : XK) (st : Stmt) (m : MS0) : Prop := ∃ t, PS X st t ∧ SndS (X.gd T) E t m
def MSs (T : List Addr) (X : Cx) (E : XK) (sts : List Stmt) (m : MS0) : Prop := ∃ t, PSs X sts t ∧ SndS (X.gd T) E t m
end MM

/-! The mirror layer's rules: expressions. -/
namespace MM
open PySem L2

/-! ### the mirrors of expressions -/
def mVar (i : Nat) : ME0 := fun ρ S => match ρ[i]? with
  | some (some d) => .ok d S
  | _ => .bad
def mC (d : D) : ME0 := fun _ S => .ok d S
def mOp (f : D → D → Store → Res D) (ma mb : ME0) : ME0 := fun ρ S => (ma ρ S).bind fun x S1 => (mb ρ S1).bind fun y S2 => f x y S2
def mUn (f : D → Store → Res D) (ma : ME0) : ME0 := fun ρ S => (ma ρ S).bind fun x S1 => f x S1
def mNil : MA0 := fun _ S => .ok [] S
def mCons (ma : ME0) (mr : MA0) : MA0 := fun ρ S => (ma ρ S).bind fun x S1 => (mr ρ S1).bind fun xs S2 => .ok (x :: xs) S2
def mAndV (ma mb : ME0) : ME0 := fun ρ S => (ma ρ S).bind fun x S1 => match x with
  | .bl true => mb ρ S1
  | .bl false => .ok (.bl false) S1
  | _ => .bad
def mOrV (ma mb : ME0) : ME0 := fun ρ S => (ma ρ S).bind fun x S1 => match x with
  | .bl true => .ok (.bl true) S1
  | .bl false => mb ρ S1
  | _ => .bad
def mNotV (ma : ME0) : ME0 := fun ρ S => (ma ρ S).bind fun x S1 => match x with
  | .bl b => .ok (.bl (!b)) S1
  | _ => .bad
/-- a test by its value, True or False -/
def mB (ma : ME0) : MT0 := fun ρ S => (ma ρ S).bind fun x S1 => match x with
  | .bl b => .ok b S1
  | _ => .bad
def mAndT (a b : MT0) : MT0 := fun ρ S => (a ρ S).bind fun x S1 => if x = true then b ρ S1 else .ok false S1
def mOrT (a b : MT0) : MT0 := fun ρ S => (a ρ S).bind fun x S1 => if x = true then .ok true S1 else b ρ S1
def mNotT (a : MT0) : MT0 := fun ρ S => (a ρ S).bind fun x S1 => .ok (!x) S1
def mIfE (c : MT0) (a b : ME0) : ME0 := fun ρ S => (c ρ S).bind fun x S1 => if x = true then a ρ S1 else b ρ S1
def mTup (ma : MA0) : ME0 := fun ρ S => (ma ρ S).bind fun xs S1 => .ok (.tup xs) S1
/-- a list that no one will change; one that may be changed -/
def mLst (ma : MA0) : ME0 := fun ρ S => (ma ρ S).bind fun xs S1 => .ok (.lst xs) S1
def mLstS (ma : MA0) : ME0 := fun ρ S => (ma ρ S).bind fun xs S1 => .ok (.ref S1.length) (S1 ++ [.lst xs])
def mCall (f : List D → Store → Res D) (ma : MA0) : ME0 := fun ρ S => (ma ρ S).bind fun xs S1 => f xs S1
def mCmpC (f g : D → D → Store → Res D) (ma mb mc : ME0) : ME0 := fun ρ S => (ma ρ S).bind fun x S1 => (mb ρ S1).bind fun y S2 => (f x y S2).bind fun z S3 => match z with
  | .bl true => (mc ρ S3).bind fun w S4 => g y w S4
  | .bl false => .ok (.bl false) S3
  | _ => .bad

/-! ### values -/
section
variable {G : Gd} {E : XK} {R φ : List Addr} {S : Store} {H : Hp}
theorem Rv.int_of {i : Int} {v : V} (h : Rv G R φ H (.int i) v) : v = .int i := by unfold Rv at h; exact h
theorem Rv.bl_of {b : Bool} {v : V} (h : Rv G R φ H (.bl b) v) : v = .bl b := by unfold Rv at h; exact h
theorem Rv.non_of {v : V} (h : Rv G R φ H .non v) : v = .non := by unfold Rv at h; exact h
theorem Rv.str_of {z : Str} {v : V} (h : Rv G R φ H (.str z) v) : v = .str z := by unfold Rv at h; exact h
theorem Rv.int {i : Int} : Rv G R φ H (.int i) (.int i) := by unfold Rv; rfl
theorem Rv.bl {b : Bool} : Rv G R φ H (.bl b) (.bl b) := by unfold Rv; rfl
theorem Rv.non : Rv G R φ H .non .non := by unfold Rv; rfl
theorem Rv.str {z : Str} : Rv G R φ H (.str z) (.str z) := by unfold Rv; rfl
theorem Rv.tup {ds : List D} {vs : List V} {a : Addr} (h : H a = some (.tup vs)) (r : RvL G R φ H ds vs) : Rv G R φ H (.tup ds) (.ref a) := by
  unfold Rv
  exact ⟨a, vs, rfl, h, r⟩
theorem Rv.lst {ds : List D} {vs : List V} {a : Addr} (n1 : a ∉ φ) (n2 : a ∉ R) (h : H a = some (.lst vs)) (r : RvL G R φ H ds vs) : Rv G R φ H (.lst ds) (.ref a) := by
  unfold Rv
  exact ⟨a, vs, rfl, n1, n2, h, r⟩
theorem Rv.tup_at {ds : List D} {v : V} (h : Rv G R φ H (.tup ds) v) : ∃ a vs, v = .ref a ∧ H a = some (.tup vs) ∧ RvL G R φ H ds vs := by unfold Rv at h; exact h
theorem Rv.tup_of {ds : List D} {v : V} (h : Rv G R φ H (.tup ds) v) : ∃ a vs, v = .ref a ∧ SqT G.K H a vs ∧ RvL G R φ H ds vs := by
  obtain ⟨a, vs, e, h1, h2⟩ := Rv.tup_at h
  exact ⟨a, vs, e, .inl (.inl h1), h2⟩
theorem Rv.lst_of {ds : List D} {v : V} (h : Rv G R φ H (.lst ds) v) : ∃ a vs, v = .ref a ∧ a ∉ φ ∧ a ∉ R ∧ H a = some (.lst vs) ∧ RvL G R φ H ds vs := by unfold Rv at h; exact h
theorem Rv.frz_of {ds : List D} {v : V} (h : Rv G R φ H (.frz ds) v) : ∃ a vs, v = .ref a ∧ Fz G.K R φ H a vs ∧ RvL G R φ H ds vs := by unfold Rv at h; exact h
theorem Rv.ref_of {n : Nat} {v : V} (h : Rv G R φ H (.ref n) v) : ∃ a, v = .ref a ∧ φ[n]? = some a := by unfold Rv at h; exact h
theorem Rs.lst (r : Rs G R φ S H) {n : Nat} {ds : List D} {v : V} (h : Rv G R φ H (.ref n) v) (e : S[n]? = some (.lst ds)) : ∃ a vs, v = .ref a ∧ φ[n]? = some a ∧ H a = some (.lst vs) ∧ RvL G R φ H ds vs := by
  obtain ⟨a, rfl, ha⟩ := Rv.ref_of h
  obtain ⟨vs, h1, h2⟩ := (r.obj n _ a e ha).ofL
  exact ⟨a, vs, rfl, ha, h1, h2⟩
def lstAt (S : Store) (n : Nat) : Option (List D) := match S[n]? with
  | some (.lst ds) => some ds
  | _ => none
theorem lstAt_of {n : Nat} {ds : List D} (h : lstAt S n = some ds) : S[n]? = some (.lst ds) := by
  unfold lstAt at h
  split at h
  · rename_i h'
    cases h
    exact h'
  · cases h
/-- the items of what is like a list or a tuple -/
def seqOf (S : Store) : D → Option (List D)
  | .tup ds => some ds
  | .lst ds => some ds
  | .frz ds => some ds
  | .ref n => lstAt S n
  | _ => none
theorem seq_of (r : Rs G R φ S H) {d : D} {v : V} {ds : List D} (h : Rv G R φ H d v) (e : seqOf S d = some ds) : ∃ a vs, v = .ref a ∧ (SqL G.K H a vs ∨ SqT G.K H a vs) ∧ RvL G R φ H ds vs := by
  cases d with
  | tup xs =>
    cases e
    obtain ⟨a, vs, e1, h1, h2⟩ := Rv.tup_of h
    exact ⟨a, vs, e1, .inr h1, h2⟩
  | lst xs =>
    cases e
    obtain ⟨a, vs, e1, _, _, h1, h2⟩ := Rv.lst_of h
    exact ⟨a, vs, e1, .inl (.inl (.inl h1)), h2⟩
  | frz xs =>
    cases e
    obtain ⟨a, vs, e1, h1, h2⟩ := Rv.frz_of h
    exact ⟨a, vs, e1, .inl h1.sq, h2⟩
  | ref n =>
    obtain ⟨a, vs, e1, _, h1, h2⟩ := r.lst h (lstAt_of e)
    exact ⟨a, vs, e1, .inl (.inl (.inl h1)), h2⟩
  | _ => cases e
/-- as above, lists alone -/
def lstOf (S : Store) : D → Option (List D)
  | .lst ds => some ds
  | .frz ds => some ds
  | .ref n => lstAt S n
  | _ => none
theorem lst_of (r : Rs G R φ S H) {d : D} {v : V} {ds : List D} (h : Rv G R φ H d v) (e : lstOf S d = some ds) : ∃ a vs, v = .ref a ∧ SqL G.K H a vs ∧ RvL G R φ H ds vs := by
  cases d with
  | lst xs =>
    cases e
    obtain ⟨a, vs, e1, _, _, h1, h2⟩ := Rv.lst_of h
    exact ⟨a, vs, e1, .inl (.inl h1), h2⟩
  | frz xs =>
    cases e
    obtain ⟨a, vs, e1, h1, h2⟩ := Rv.frz_of h
    exact ⟨a, vs, e1, h1.sq, h2⟩
  | ref n =>
    obtain ⟨a, vs, e1, _, h1, h2⟩ := r.lst h (lstAt_of e)
    exact ⟨a, vs, e1, .inl (.inl h1), h2⟩
  | _ => cases e

/-! ### operators by values -/
def Op2 (G : Gd) (E : XK) (r : R2) (f : D → D → Store → Res D) : Prop := ∀ R φ S H d e x y, Rs G R φ S H → Rv G R φ H d x → Rv G R φ H e y → Run G E R φ H (RelV' G R) (f d e S) (r x y H)
def Op1 (G : Gd) (E : XK) (r : V → Hp → VK → Prop) (f : D → Store → Res D) : Prop := ∀ R φ S H d x, Rs G R φ S H → Rv G R φ H d x → Run G E R φ H (RelV' G R) (f d S) (r x H)
/-- a call of a built-in by values -/
def OpL (G : Gd) (E : XK) (r : List V → Hp → VK → Prop) (f : List D → Store → Res D) : Prop := ∀ R φ S H ds xs, Rs G R φ S H → RvL G R φ H ds xs → Run G E R φ H (RelV' G R) (f ds S) (r xs H)
/-- two ints -/
def f2I (g : Int → Int → D) : D → D → Store → Res D := fun x y S => match x, y with
  | .int i, .int j => .ok (g i j) S
  | _, _ => .bad
def f2Ic (C : Int → Int → Bool) (g : Int → Int → D) : D → D → Store → Res D := fun x y S => match x, y with
  | .int i, .int j => if C i j = true then .ok (g i j) S else .bad
  | _, _ => .bad
theorem op2I {g : Int → Int → V} {g' : Int → Int → D} (hg : ∀ i j R φ H, Rv G R φ H (g' i j) (g i j)) : Op2 G E (rI0 g) (f2I g') := by
  intro R φ S H d e x y rs rd re
  cases d with
  | int i =>
    cases e with
    | int j =>
      have e1 := Rv.int_of rd
      have e2 := Rv.int_of re
      subst e1
      subst e2
      exact Run.ret rs (hg i j R φ H) fun Q q => ⟨i, j, rfl, rfl, q⟩
    | _ => exact Run.bad
  | _ => exact Run.bad
theorem op2Ic {C : Int → Int → Prop} {C' : Int → Int → Bool} {g : Int → Int → V} {g' : Int → Int → D} (hC : ∀ i j, C' i j = true → C i j) (hg : ∀ i j R φ H, Rv G R φ H (g' i j) (g i j)) : Op2 G E (rI C g) (f2Ic C' g') := by
  intro R φ S H d e x y rs rd re
  cases d with
  | int i =>
    cases e with
    | int j =>
      have e1 := Rv.int_of rd
      have e2 := Rv.int_of re
      subst e1
      subst e2
      show Run G E R φ H _ (if C' i j = true then .ok (g' i j) S else .bad) _
      by_cases hc : C' i j = true
      · rw [if_pos hc]
        exact Run.ret rs (hg i j R φ H) fun Q q => ⟨i, j, rfl, rfl, hC i j hc, q⟩
      · rw [if_neg hc]
        exact Run.bad
    | _ => exact Run.bad
  | _ => exact Run.bad
abbrev fSub := f2I fun i j => .int (i - j)
abbrev fLtI := f2I fun i j => .bl (decide (i < j))
abbrev fLeI := f2I fun i j => .bl (decide (i ≤ j))
abbrev fGtI := f2I fun i j => .bl (decide (j < i))
abbrev fGeI := f2I fun i j => .bl (decide (j ≤ i))
/-- products: together below a million bits -/
abbrev fMulI := f2Ic (fun i j => decide (i.natAbs.log2 + j.natAbs.log2 < 1000000)) fun i j => .int (i * j)
abbrev fMod := f2Ic (fun _ j => decide (0 < j)) fun i j => .int (i % j)
abbrev fFloor := f2Ic (fun _ j => decide (0 < j ∧ j.natAbs.log2 < 9000)) fun i j => .int (i / j)
abbrev fPow := f2Ic (fun i j => decide (0 ≤ j ∧ j ≤ 1000000 ∧ i.natAbs < 2 ^ 64)) fun i j => .int (i ^ j.toNat)
theorem o_sub : Op2 G E (rI0 fun i j => .int (i - j)) fSub := op2I fun _ _ _ _ _ => Rv.int
theorem o_add : Op2 G E (rI0 fun i j => .int (i + j)) (f2I fun i j => .int (i + j)) := op2I fun _ _ _ _ _ => Rv.int
theorem o_lt : Op2 G E (rI0 fun i j => .bl (decide (i < j))) fLtI := op2I fun _ _ _ _ _ => Rv.bl
theorem o_le : Op2 G E (rI0 fun i j => .bl (decide (i ≤ j))) fLeI := op2I fun _ _ _ _ _ => Rv.bl
theorem o_gt : Op2 G E (rI0 fun i j => .bl (decide (j < i))) fGtI := op2I fun _ _ _ _ _ => Rv.bl
theorem o_ge : Op2 G E (rI0 fun i j => .bl (decide (j ≤ i))) fGeI := op2I fun _ _ _ _ _ => Rv.bl
theorem o_mul : Op2 G E (rI CMulW fun i j => .int (i * j)) fMulI := op2Ic (fun i j h => show i.natAbs.log2 + j.natAbs.log2 < 1000000 from of_decide_eq_true h) fun _ _ _ _ _ => Rv.int
theorem o_mod : Op2 G E (rI (fun _ j => 0 < j) fun i j => .int (i % j)) fMod := op2Ic (fun _ _ h => of_decide_eq_true h) fun _ _ _ _ _ => Rv.int
theorem o_floor : Op2 G E (rI CDivW fun i j => .int (i / j)) fFloor := op2Ic (fun i j h => show 0 < j ∧ j.natAbs.log2 < 9000 from of_decide_eq_true h) fun _ _ _ _ _ => Rv.int
theorem o_pow : Op2 G E (rI CPow fun i j => .int (i ^ j.toNat)) fPow := op2Ic (fun i j h => show 0 ≤ j ∧ j ≤ 1000000 ∧ i.natAbs < 2 ^ 64 from of_decide_eq_true h) fun _ _ _ _ _ => Rv.int
def fNeg : D → Store → Res D := fun x S => match x with
  | .int i => .ok (.int (-i)) S
  | _ => .bad
theorem o_neg : Op1 G E (rU fun i => .int (-i)) fNeg := by
  intro R φ S H d x rs rd
  cases d with
  | int i =>
    have e1 := Rv.int_of rd
    subst e1
    exact Run.ret rs Rv.int fun Q q => ⟨i, rfl, q⟩
  | _ => exact Run.bad
def isNon : D → Bool
  | .non => true
  | _ => false
theorem Rv.isNon {d : D} {v : V} (h : Rv G R φ H d v) : decide (v = .non) = isNon d := by
  cases d with
  | non => rw [Rv.non_of h]; rfl
  | bl b => rw [Rv.bl_of h]; rfl
  | int b => rw [Rv.int_of h]; rfl
  | str b => rw [Rv.str_of h]; rfl
  | tup ds => obtain ⟨a, _, rfl, _⟩ := Rv.tup_of h; rfl
  | lst ds => obtain ⟨a, _, rfl, _⟩ := Rv.lst_of h; rfl
  | frz ds => obtain ⟨a, _, rfl, _⟩ := Rv.frz_of h; rfl
  | ref n => obtain ⟨a, rfl, _⟩ := Rv.ref_of h; rfl
  | err c f ds =>
    unfold Rv at h
    obtain ⟨vs, ⟨a, C, d, rfl, _⟩, _⟩ := h
    rfl
/-- x is None, x is not None -/
def fIs (neg : Bool) : D → D → Store → Res D := fun x y S => match y with
  | .non => .ok (.bl (if neg then !isNon x else isNon x)) S
  | _ => .bad
theorem o_isN : Op2 G E (fun x y H Q => y = .non ∧ Q (.bl (decide (x = .non))) H) (fIs false) := by
  intro R φ S H d e x y rs rd re
  cases e with
  | non => exact Run.ret rs (Rv.bl (b := decide (x = .non)) |> fun h => by rw [Rv.isNon rd] at h ⊢; exact h) fun Q q => ⟨Rv.non_of re, q⟩
  | _ => exact Run.bad
theorem o_notN : Op2 G E (fun x y H Q => y = .non ∧ Q (.bl (!decide (x = .non))) H) (fIs true) := by
  intro R φ S H d e x y rs rd re
  cases e with
  | non => exact Run.ret rs (Rv.bl (b := !decide (x = .non)) |> fun h => by rw [Rv.isNon rd] at h ⊢; exact h) fun Q q => ⟨Rv.non_of re, q⟩
  | _ => exact Run.bad
/-! #### equality of data -/
mutual
def toPy (S : Store) : D → Option PyData
  | .non => some .none
  | .bl b => some (.bool b)
  | .int i => some (.int i)
  | .str z => some (.str z)
  | .tup ds => (toPyL S ds).map .tuple
  | .lst ds => (toPyL S ds).map .list
  | .frz ds => (toPyL S ds).map .list
  | .ref _ => none
  | .err _ _ _ => none
def toPyL (S : Store) : List D → Option (List PyData)
  | [] => some []
  | d :: ds => match toPy S d, toPyL S ds with
    | some p, some ps => some (p :: ps)
    | _, _ => none
end
mutual
theorem toPy_dp (r : Rs G R φ S H) : ∀ {d : D} {v : V} {p : PyData}, Rv G R φ H d v → toPy S d = some p → Dp G.K H v p
  | .non, v, p, h, e => by
    unfold toPy at e
    cases e
    rw [Rv.non_of h]
    exact .non
  | .bl b, v, p, h, e => by
    unfold toPy at e
    cases e
    rw [Rv.bl_of h]
    exact .bl b
  | .int i, v, p, h, e => by
    unfold toPy at e
    cases e
    rw [Rv.int_of h]
    exact .int i
  | .str i, v, p, h, e => by
    unfold toPy at e
    cases e
    rw [Rv.str_of h]
    exact .str i
  | .tup ds, v, p, h, e => by
    unfold toPy at e
    obtain ⟨ps, e1, e2⟩ := Option.map_eq_some_iff.mp e
    obtain ⟨a, vs, rfl, h1, h2⟩ := Rv.tup_of h
    subst e2
    exact .tup h1 (toPyL_dp r h2 e1)
  | .lst ds, v, p, h, e => by
    unfold toPy at e
    obtain ⟨ps, e1, e2⟩ := Option.map_eq_some_iff.mp e
    obtain ⟨a, vs, rfl, _, _, h1, h2⟩ := Rv.lst_of h
    subst e2
    exact .lst (.inl (.inl h1)) (toPyL_dp r h2 e1)
  | .frz ds, v, p, h, e => by
    unfold toPy at e
    obtain ⟨ps, e1, e2⟩ := Option.map_eq_some_iff.mp e
    obtain ⟨a, vs, rfl, h1, h2⟩ := Rv.frz_of h
    subst e2
    exact .lst h1.sq (toPyL_dp r h2 e1)
  | .ref n, v, p, h, e => by
    unfold toPy at e
    cases e
  | .err c f ds, v, p, h, e => by
    unfold toPy at e
    cases e
theorem toPyL_dp (r : Rs G R φ S H) : ∀ {ds : List D} {vs : List V} {ps : List PyData}, RvL G R φ H ds vs → toPyL S ds = some ps → DpAll G.K H vs ps
  | [], vs, ps, h, e => by
    unfold toPyL at e
    unfold RvL at h
    cases e
    subst h
    exact .nil
  | d :: ds, vs, ps, h, e => by
    unfold toPyL at e
    unfold RvL at h
    obtain ⟨v, r', rfl, h1, h2⟩ := h
    split at e
    · rename_i p ps' e1 e2
      cases e
      exact .cons (toPy_dp r h1 e1) (toPyL_dp r h2 e2)
    · cases e
end
def eqRes (S : Store) (neg : Bool) (x y : D) : Option Bool := match toPy S x, toPy S y with
  | some p, some q => if SeqAt.shaped p = true ∧ SeqAt.shaped q = true then some (if neg then !PyData.eqv p q else PyData.eqv p q) else none
  | _, _ => none
def fEq (neg : Bool) : D → D → Store → Res D := fun x y S => match eqRes S neg x y with
  | some b => .ok (.bl b) S
  | none => .bad
theorem o_eq : Op2 G E (rEqD G.K) (fEq false) := by
  intro R φ S H d e x y rs rd re
  unfold fEq eqRes
  split
  · rename_i b hb
    split at hb
    · rename_i p q e1 e2
      split at hb
      · rename_i hs
        cases hb
        exact Run.ret rs Rv.bl fun Q q' => ⟨p, q, toPy_dp rs rd e1, toPy_dp rs re e2, hs.1, hs.2, q'⟩
      · cases hb
    · cases hb
  · exact Run.bad
theorem o_ne : Op2 G E (rNeD G.K) (fEq true) := by
  intro R φ S H d e x y rs rd re
  unfold fEq eqRes
  split
  · rename_i b hb
    split at hb
    · rename_i p q e1 e2
      split at hb
      · rename_i hs
        cases hb
        exact Run.ret rs Rv.bl fun Q q' => ⟨p, q, toPy_dp rs rd e1, toPy_dp rs re e2, hs.1, hs.2, q'⟩
      · cases hb
    · cases hb
  · exact Run.bad
/-! #### items -/
def fIx : D → D → Store → Res D := fun x y S => match y, seqOf S x with
  | .int i, some ds => match atI ds i with
    | some d => .ok d S
    | none => .bad
  | _, _ => .bad
theorem RvL.atI {ds : List D} {vs : List V} {i : Int} {d : D} (h : RvL G R φ H ds vs) (e : L2.atI ds i = some d) : ∃ v, L2.atI vs i = some v ∧ Rv G R φ H d v := by
  unfold L2.atI at e ⊢
  rw [← RvL.length h]
  cases h1 : ixN ds.length i with
  | none => rw [h1] at e; cases e
  | some j =>
    rw [h1] at e
    exact RvL.get h e
theorem o_ix : Op2 G E (rIx G.K) fIx := by
  intro R φ S H d e x y rs rd re
  unfold fIx
  split
  · rename_i i ds h1
    split
    · rename_i z h2
      obtain ⟨a, vs, rfl, h3, h4⟩ := seq_of rs rd h1
      obtain ⟨v, h5, h6⟩ := RvL.atI h4 h2
      refine Run.ret rs h6 fun Q q => ?_
      rcases h3 with h3 | h3
      · exact .inl ⟨a, vs, i, v, rfl, Rv.int_of re, h3, h5, q⟩
      · exact .inr (.inl ⟨a, vs, i, v, rfl, Rv.int_of re, h3, h5, q⟩)
    · exact Run.bad
  · exact Run.bad
end
end MM

/-! The mirror layer's rules: expressions by their syntax. -/
namespace MM
open PySem L2
section
variable {T : List Addr} {X : Cx} {E : XK} {a b c e : Expr} {es rest : List Expr} {ma mb mc me : ME0} {mA mB' : MT0} {mr : MA0} {pos p : Pos}

/-! ### readings made of readings -/
theorem SndE.var {G : Gd} {i : Nat} : SndE G E (tVar i) (mVar i) := by
  intro σ H ρ φ R S rs rn
  unfold mVar
  split
  · rename_i d h
    obtain ⟨v, e1, e2⟩ := rn.get i d h
    exact Run.ret rs e2 fun Q q => ⟨v, e1, q⟩
  · exact Run.bad
theorem me_var (i : Nat) {x : Str} (hN : X.N[i]? = some x := by rfl) (hv : Vis X.env.scope x := by first | exact Or.inl rfl | exact Or.inr (Or.inl rfl) | exact Or.inr (Or.inr rfl)) (hd : (x == ("__debug__" : Str)) = false := by decide)
    (hcd : (x == ("__classdict__" : Str)) = false := by decide) : ME T X E (.Name x pos) (mVar i) := ⟨_, pe_var hN hv hd hcd, SndE.var⟩
theorem SndE.cst {G : Gd} {v : V} {d : D} (h : ∀ R φ H, Rv G R φ H d v) : SndE G E (tC v) (mC d) := fun σ H ρ φ R S rs rn => Run.ret rs (h R φ H) fun Q q => q
theorem me_int {i : Int} {j : Nat} : ME T X E (.Constant (.int i) j pos) (mC (.int i)) := ⟨_, pe_int, SndE.cst fun _ _ _ => Rv.int⟩
theorem me_bl {i : Bool} {j : Nat} : ME T X E (.Constant (.bool i) j pos) (mC (.bl i)) := ⟨_, pe_bl, SndE.cst fun _ _ _ => Rv.bl⟩
theorem me_non {j : Nat} : ME T X E (.Constant .none j pos) (mC .non) := ⟨_, pe_non, SndE.cst fun _ _ _ => Rv.non⟩
theorem me_str {z : Str} {j : Nat} : ME T X E (.Constant (.str z) j pos) (mC (.str z)) := ⟨_, pe_str, SndE.cst fun _ _ _ => Rv.str⟩
/-- a constant of the module -/
theorem me_gint {x : Str} {i : Int} {t : Tok} (hg : Gl X x) (hm : X.mg x = some (.int i t)) (hd : (x == ("__debug__" : Str)) = false := by decide) : ME T X E (.Name x pos) (mC (.int i)) :=
  ⟨_, pe_glob hg hm (v := .int i) ⟨t, rfl⟩ hd, SndE.cst fun _ _ _ => Rv.int⟩
theorem me_gstr {x z : Str} {t : Tok} (hg : Gl X x) (hm : X.mg x = some (.str z t)) (hd : (x == ("__debug__" : Str)) = false := by decide) : ME T X E (.Name x pos) (mC (.str z)) :=
  ⟨_, pe_glob hg hm (v := .str z) ⟨t, rfl⟩ hd, SndE.cst fun _ _ _ => Rv.str⟩
theorem SndE.op {G : Gd} {r : R2} {f : D → D → Store → Res D} {ta tb : TE} (ha : SndE G E ta ma) (hb : SndE G E tb mb) (ho : Op2 G E r f) : SndE G E (tOp r ta tb) (mOp f ma mb) := fun σ H ρ φ R S rs rn =>
  Run.bnd (ha σ H ρ φ R S rs rn) fun d S1 φ1 x H1 _ l1 rs1 r1 => Run.bnd (hb σ H1 ρ φ1 R S1 rs1 (rn.le l1)) fun e S2 φ2 y H2 _ l2 rs2 r2 => ho R φ2 S2 H2 d e x y rs2 (Rv.le l2 r1) r2
theorem me_bin {op : Operator} {r : R2} {f : D → D → Store → Res D} (ho : OpR X (binaryOp op) r) (hs : Op2 (X.gd T) E r f) (ha : ME T X E a ma) (hb : ME T X E b mb) : ME T X E (.BinOp a op b pos) (mOp f ma mb) := by
  obtain ⟨ta, pa, sa⟩ := ha
  obtain ⟨tb, pb, sb⟩ := hb
  exact ⟨_, pe_op ho pa pb, SndE.op sa sb hs⟩
theorem SndE.un {G : Gd} {r : V → Hp → VK → Prop} {f : D → Store → Res D} {ta : TE} (ha : SndE G E ta ma) (ho : Op1 G E r f) : SndE G E (tUn r ta) (mUn f ma) := fun σ H ρ φ R S rs rn =>
  Run.bnd (ha σ H ρ φ R S rs rn) fun d S1 φ1 x H1 _ l1 rs1 r1 => ho R φ1 S1 H1 d x rs1 r1
theorem me_neg (ha : ME T X E a ma) : ME T X E (.UnaryOp .USub a pos) (mUn fNeg ma) := by
  obtain ⟨ta, pa, sa⟩ := ha
  exact ⟨_, pe_un un_neg pa, SndE.un sa o_neg⟩
theorem me_sub (ha : ME T X E a ma) (hb : ME T X E b mb) : ME T X E (.BinOp a .Sub b pos) (mOp fSub ma mb) := me_bin op_sub o_sub ha hb
theorem me_mul (ha : ME T X E a ma) (hb : ME T X E b mb) : ME T X E (.BinOp a .Mult b pos) (mOp fMulI ma mb) := me_bin op_mulW o_mul ha hb
theorem me_mod (ha : ME T X E a ma) (hb : ME T X E b mb) : ME T X E (.BinOp a .Mod b pos) (mOp fMod ma mb) := me_bin op_mod o_mod ha hb
theorem me_floor (ha : ME T X E a ma) (hb : ME T X E b mb) : ME T X E (.BinOp a .FloorDiv b pos) (mOp fFloor ma mb) := me_bin op_fdivW o_floor ha hb
theorem me_pow (ha : ME T X E a ma) (hb : ME T X E b mb) : ME T X E (.BinOp a .Pow b pos) (mOp fPow ma mb) := me_bin op_pow o_pow ha hb
/-! ### comparisons -/
theorem me_cmp {op : CmpOp} {r : R2} {f : D → D → Store → Res D} (ho : OpR X (compareOp op) r) (hs : Op2 (X.gd T) E r f) (ha : ME T X E a ma) (hb : ME T X E b mb) (hm : behindInMarks op b = false := by exact nomark _) : ME T X E (.Compare a [op] [b] pos) (mOp f ma mb) := by
  obtain ⟨ta, pa, sa⟩ := ha
  obtain ⟨tb, pb, sb⟩ := hb
  exact ⟨_, pe_cmpR ho pa pb hm, SndE.op sa sb hs⟩
theorem SndT.test {G : Gd} {ta : TE} (ha : SndE G E ta ma) : SndT G E (tTest ta) (mB ma) := fun σ H ρ φ R S rs rn =>
  Run.bnd (c' := fun x H1 Q => ∃ k, x = .bl k ∧ Q k H1) (ha σ H ρ φ R S rs rn) fun d S1 φ1 x H1 _ l1 rs1 r1 => by
    cases d with
    | bl b => exact Run.ret rs1 rfl fun Q q => ⟨b, Rv.bl_of r1, q⟩
    | _ => exact Run.bad
theorem mt_cmp {op : CmpOp} {r : R2} {f : D → D → Store → Res D} (ho : OpR X (compareOp op) r) (hs : Op2 (X.gd T) E r f) (ha : ME T X E a ma) (hb : ME T X E b mb) (hm : behindInMarks op b = false := by exact nomark _) : MT T X E (.Compare a [op] [b] pos) (mB (mOp f ma mb)) := by
  obtain ⟨ta, pa, sa⟩ := ha
  obtain ⟨tb, pb, sb⟩ := hb
  exact ⟨_, pt_cmpR ho pa pb hm, SndT.test (SndE.op sa sb hs)⟩
theorem SndE.chain {G : Gd} {r r' : R2} {f g : D → D → Store → Res D} {ta tb tc : TE} (ha : SndE G E ta ma) (hb : SndE G E tb mb) (hc : SndE G E tc mc) (ho : Op2 G E r f) (ho' : Op2 G E r' g) : SndE G E (tChain r r' ta tb tc) (mCmpC f g ma mb mc) := fun σ H ρ φ R S rs rn =>
  Run.bnd (ha σ H ρ φ R S rs rn) fun d S1 φ1 x H1 _ l1 rs1 r1 => Run.bnd (hb σ H1 ρ φ1 R S1 rs1 (rn.le l1)) fun e S2 φ2 y H2 _ l2 rs2 r2 =>
    Run.bnd (c' := fun z H3 Q => ∃ k, z = .bl k ∧ (if k = true then tc σ H3 fun w' H4 => r' y w' H4 Q else Q (.bl false) H3)) (ho R φ2 S2 H2 d e x y rs2 (Rv.le l2 r1) r2) fun z S3 φ3 w H3 _ l3 rs3 r3 => by
      cases z with
      | bl k =>
        cases k with
        | false => exact Run.ret rs3 Rv.bl fun Q q => ⟨false, Rv.bl_of r3, q⟩
        | true =>
          refine Run.conv (c := fun Q => tc σ H3 fun w' H4 => r' y w' H4 Q) (Run.bnd (hc σ H3 ρ φ3 R S3 rs3 (rn.le (l1.trans (l2.trans l3)))) fun u S4 φ4 w4 H4 _ l4 rs4 r4 => ho' R φ4 S4 H4 e u y w4 rs4 (Rv.le (l3.trans l4) r2) r4) fun Q q => ⟨true, Rv.bl_of r3, q⟩
      | _ => exact Run.bad
theorem me_chain {op op' : CmpOp} {r r' : R2} {f g : D → D → Store → Res D} (ho : OpR X (compareOp op) r) (hs : Op2 (X.gd T) E r f) (ho' : OpR X (compareOp op') r') (hs' : Op2 (X.gd T) E r' g) (ha : ME T X E a ma) (hb : ME T X E b mb) (hc : ME T X E c mc)
    (hm : lastMarks [op, op'] [b, c] = false := by with_unfolding_all rfl) : ME T X E (.Compare a [op, op'] [b, c] pos) (mCmpC f g ma mb mc) := by
  obtain ⟨ta, pa, sa⟩ := ha
  obtain ⟨tb, pb, sb⟩ := hb
  obtain ⟨tc, pc, sc⟩ := hc
  exact ⟨_, pe_chain ho ho' pa pb pc hm, SndE.chain sa sb sc hs hs'⟩
theorem mt_chain {op op' : CmpOp} {r r' : R2} {f g : D → D → Store → Res D} (ho : OpR X (compareOp op) r) (hs : Op2 (X.gd T) E r f) (ho' : OpR X (compareOp op') r') (hs' : Op2 (X.gd T) E r' g) (ha : ME T X E a ma) (hb : ME T X E b mb) (hc : ME T X E c mc)
    (hm : lastMarks [op, op'] [b, c] = false := by with_unfolding_all rfl) : MT T X E (.Compare a [op, op'] [b, c] pos) (mB (mCmpC f g ma mb mc)) := by
  obtain ⟨ta, pa, sa⟩ := ha
  obtain ⟨tb, pb, sb⟩ := hb
  obtain ⟨tc, pc, sc⟩ := hc
  exact ⟨_, pt_chain ho ho' pa pb pc hm, SndT.test (SndE.chain sa sb sc hs hs')⟩
/-! ### and, or, not, if-else -/
theorem me_one {op : BoolOp} (h : ME T X E a ma) : ME T X E (.BoolOp op [a] pos) ma := by
  obtain ⟨ta, pa, sa⟩ := h
  exact ⟨_, pe_one pa, sa⟩
theorem me_and (ha : ME T X E a ma) (hb : ME T X E (.BoolOp .And (b :: rest) pos) mb) : ME T X E (.BoolOp .And (a :: b :: rest) pos) (mAndV ma mb) := by
  obtain ⟨ta, pa, sa⟩ := ha
  obtain ⟨tb, pb, sb⟩ := hb
  refine ⟨_, pe_and pa pb, fun σ H ρ φ R S rs rn => Run.bnd (sa σ H ρ φ R S rs rn) fun d S1 φ1 x H1 _ l1 rs1 r1 => ?_⟩
  cases d with
  | bl k =>
    cases k with
    | false => exact Run.ret rs1 Rv.bl fun Q q => ⟨false, Rv.bl_of r1, q⟩
    | true => exact Run.conv (sb σ H1 ρ φ1 R S1 rs1 (rn.le l1)) fun Q q => ⟨true, Rv.bl_of r1, q⟩
  | _ => exact Run.bad
theorem me_or (ha : ME T X E a ma) (hb : ME T X E (.BoolOp .Or (b :: rest) pos) mb) : ME T X E (.BoolOp .Or (a :: b :: rest) pos) (mOrV ma mb) := by
  obtain ⟨ta, pa, sa⟩ := ha
  obtain ⟨tb, pb, sb⟩ := hb
  refine ⟨_, pe_or pa pb, fun σ H ρ φ R S rs rn => Run.bnd (sa σ H ρ φ R S rs rn) fun d S1 φ1 x H1 _ l1 rs1 r1 => ?_⟩
  cases d with
  | bl k =>
    cases k with
    | true => exact Run.ret rs1 Rv.bl fun Q q => ⟨true, Rv.bl_of r1, q⟩
    | false => exact Run.conv (sb σ H1 ρ φ1 R S1 rs1 (rn.le l1)) fun Q q => ⟨false, Rv.bl_of r1, q⟩
  | _ => exact Run.bad
theorem me_not (ha : ME T X E a ma) : ME T X E (.UnaryOp .Not a pos) (mNotV ma) := by
  obtain ⟨ta, pa, sa⟩ := ha
  refine ⟨_, pe_not pa, fun σ H ρ φ R S rs rn => Run.bnd (sa σ H ρ φ R S rs rn) fun d S1 φ1 x H1 _ l1 rs1 r1 => ?_⟩
  cases d with
  | bl k => exact Run.ret rs1 Rv.bl fun Q q => ⟨k, Rv.bl_of r1, q⟩
  | _ => exact Run.bad
theorem me_if {mc : MT0} (hc : MT T X E c mc) (ha : ME T X E a ma) (hb : ME T X E b mb) : ME T X E (.IfExp c a b pos) (mIfE mc ma mb) := by
  obtain ⟨tc, pc, sc⟩ := hc
  obtain ⟨ta, pa, sa⟩ := ha
  obtain ⟨tb, pb, sb⟩ := hb
  refine ⟨_, pe_ifExp pc pa pb, fun σ H ρ φ R S rs rn => Run.bnd (sc σ H ρ φ R S rs rn) fun d S1 φ1 x H1 _ l1 rs1 r1 => ?_⟩
  have e1 : d = x := r1
  subst e1
  cases d with
  | true => exact Run.conv (sa σ H1 ρ φ1 R S1 rs1 (rn.le l1)) fun Q q => by rw [if_pos rfl]; exact q
  | false => exact Run.conv (sb σ H1 ρ φ1 R S1 rs1 (rn.le l1)) fun Q q => by rw [if_neg Bool.false_ne_true]; exact q
/-! ### tests -/
theorem mt_val (h : ME T X E e me) (he : ∀ whole, isTrue e X.env whole = (do let v ← whole; standAt e.pos; holding [v] (truthy v)) := by intro _; rfl) : MT T X E e (mB me) := by
  obtain ⟨t, pt, st⟩ := h
  exact ⟨_, pt_val pt he, SndT.test st⟩
theorem mw_pt (h : MW T X E e mA) : MT T X E e mA := by
  obtain ⟨t, pt, st⟩ := h
  exact ⟨_, pt.pt, st⟩
theorem mw_and1 (h : MT T X E a mA) : MW T X E (.BoolOp .And [a] pos) mA := by
  obtain ⟨t, pt, st⟩ := h
  exact ⟨_, pw_and1 pt, st⟩
theorem mw_or1 (h : MT T X E a mA) : MW T X E (.BoolOp .Or [a] pos) mA := by
  obtain ⟨t, pt, st⟩ := h
  exact ⟨_, pw_or1 pt, st⟩
theorem mw_and (ha : MT T X E a mA) (hb : MW T X E (.BoolOp .And (b :: rest) pos) mB') : MW T X E (.BoolOp .And (a :: b :: rest) pos) (mAndT mA mB') := by
  obtain ⟨ta, pa, sa⟩ := ha
  obtain ⟨tb, pb, sb⟩ := hb
  refine ⟨_, pw_and pa pb, fun σ H ρ φ R S rs rn => Run.bnd (sa σ H ρ φ R S rs rn) fun d S1 φ1 x H1 _ l1 rs1 r1 => ?_⟩
  have e1 : d = x := r1
  subst e1
  cases d with
  | true => exact Run.conv (sb σ H1 ρ φ1 R S1 rs1 (rn.le l1)) fun Q q => by rw [if_pos rfl]; exact q
  | false => exact Run.ret rs1 rfl fun Q q => by rw [if_neg Bool.false_ne_true]; exact q
theorem mw_or (ha : MT T X E a mA) (hb : MW T X E (.BoolOp .Or (b :: rest) pos) mB') : MW T X E (.BoolOp .Or (a :: b :: rest) pos) (mOrT mA mB') := by
  obtain ⟨ta, pa, sa⟩ := ha
  obtain ⟨tb, pb, sb⟩ := hb
  refine ⟨_, pw_or pa pb, fun σ H ρ φ R S rs rn => Run.bnd (sa σ H ρ φ R S rs rn) fun d S1 φ1 x H1 _ l1 rs1 r1 => ?_⟩
  have e1 : d = x := r1
  subst e1
  cases d with
  | true => exact Run.ret rs1 rfl fun Q q => by rw [if_pos rfl]; exact q
  | false => exact Run.conv (sb σ H1 ρ φ1 R S1 rs1 (rn.le l1)) fun Q q => by rw [if_neg Bool.false_ne_true]; exact q
theorem mt_not (ha : MT T X E a mA) : MT T X E (.UnaryOp .Not a pos) (mNotT mA) := by
  obtain ⟨ta, pa, sa⟩ := ha
  refine ⟨_, pt_not pa, fun σ H ρ φ R S rs rn => Run.bnd (sa σ H ρ φ R S rs rn) fun d S1 φ1 x H1 _ l1 rs1 r1 => ?_⟩
  have e1 : d = x := r1
  subst e1
  exact Run.ret rs1 rfl fun Q q => q
/-! ### arguments, displays -/
/-- arguments, told by their number, too -/
def MAn (T : List Addr) (X : Cx) (E : XK) (es : List Expr) (m : MA0) : Prop := MA T X E es m ∧ ∀ ρ S ds S', m ρ S = .ok ds S' → ds.length = es.length
theorem ma_nil : MAn T X E [] mNil := ⟨⟨_, pa_nil, fun σ H ρ φ R S rs rn => Run.ret rs RvL.nil fun Q q => q⟩, fun ρ S ds S' h => by cases h; rfl⟩
theorem ma_cons (ha : ME T X E e me) (hr : MAn T X E es mr) (hs : starEach (e :: es) X.env = (false, eval e X.env) :: starEach es X.env := by rfl) : MAn T X E (e :: es) (mCons me mr) := by
  obtain ⟨ta, pa, sa⟩ := ha
  obtain ⟨⟨tr, pr, sr⟩, hl⟩ := hr
  refine ⟨⟨_, pa_cons pa pr hs, fun σ H ρ φ R S rs rn => Run.bnd (sa σ H ρ φ R S rs rn) fun d S1 φ1 x H1 _ l1 rs1 r1 => Run.bnd (sr σ H1 ρ φ1 R S1 rs1 (rn.le l1)) fun ds S2 φ2 xs H2 _ l2 rs2 r2 => Run.ret rs2 (RvL.cons (Rv.le l2 r1) r2) fun Q q => q⟩, fun ρ S ds S' h => ?_⟩
  unfold mCons at h
  cases h1 : me ρ S with
  | ok x S1 =>
    rw [h1] at h
    cases h2 : mr ρ S1 with
    | ok xs S2 =>
      rw [Res.bind_ok, h2] at h
      cases h
      rw [List.length_cons, List.length_cons, hl _ _ _ _ h2]
    | exc e S2 => rw [Res.bind_ok, h2] at h; cases h
    | bad => rw [Res.bind_ok, h2] at h; cases h
  | exc e S2 => rw [h1] at h; cases h
  | bad => rw [h1] at h; cases h
theorem me_tup {k : Nat} (h : MAn T X E es mr) (hl : es.length ≤ sizeLine := by decide) : ME T X E (.Tuple es k pos) (mTup mr) := by
  obtain ⟨⟨tr, pr, sr⟩, hn⟩ := h
  refine ⟨_, pe_tup pr, fun σ H ρ φ R S rs rn => Run.bnd (sr σ H ρ φ R S rs rn) fun ds S1 φ1 xs H1 e l1 rs1 r1 => ?_⟩
  refine Run.new (o := .tup xs) rs1 (fun p hp => Rv.tup upd_same (RvL.le (Le.new rs1 hp) r1)) fun Q q => ⟨?_, q⟩
  rw [← RvL.length r1, hn _ _ _ _ e]
  exact hl
theorem me_lst (h : MAn T X E es mr) (hl : es.length ≤ sizeLine := by decide) : ME T X E (.List es pos) (mLst mr) := by
  obtain ⟨⟨tr, pr, sr⟩, hn⟩ := h
  refine ⟨_, pe_lst pr, fun σ H ρ φ R S rs rn => Run.bnd (sr σ H ρ φ R S rs rn) fun ds S1 φ1 xs H1 e l1 rs1 r1 => ?_⟩
  refine Run.new (o := .lst xs) rs1 (fun p hp => Rv.lst (rs1.fresh hp).1 (rs1.fresh hp).2 upd_same (RvL.le (Le.new rs1 hp) r1)) fun Q q => ⟨?_, q⟩
  rw [← RvL.length r1, hn _ _ _ _ e]
  exact hl
/-- a new store object behind it -/
theorem Run.alloc {G : Gd} {R φ : List Addr} {S : Store} {H : Hp} {o : HO} {o' : O} {c : VK → Prop} (rs : Rs G R φ S H) (h : ∀ p, H p = none → Ro G R (φ ++ [p]) (upd H p o) o' p) (hc : ∀ Q : VK, (∀ p, H p = none → Q (.ref p) (upd H p o)) → c Q) :
    Run G E R φ H (RelV' G R) (.ok (.ref S.length) (S ++ [o'])) c := fun Q hq _ _ => hc Q fun p hp => hq _ _ (φ ++ [p]) (.ref p) _ rfl (Le.alloc rs hp) (rs.alloc hp (h p hp)) (by
    show Rv G R _ _ (.ref S.length) (.ref p)
    unfold Rv
    refine ⟨p, rfl, ?_⟩
    rw [List.getElem?_append_right (by rw [rs.len]; exact Nat.le_refl _), rs.len, Nat.sub_self]
    rfl)
theorem me_lstS (h : MAn T X E es mr) (hl : es.length ≤ sizeLine := by decide) : ME T X E (.List es pos) (mLstS mr) := by
  obtain ⟨⟨tr, pr, sr⟩, hn⟩ := h
  refine ⟨_, pe_lst pr, fun σ H ρ φ R S rs rn => Run.bnd (sr σ H ρ φ R S rs rn) fun ds S1 φ1 xs H1 e l1 rs1 r1 => ?_⟩
  refine Run.alloc (o := .lst xs) (o' := .lst ds) rs1 (fun p hp => Ro.mkL upd_same (RvL.le (Le.alloc rs1 hp) r1)) fun Q q => ⟨?_, q⟩
  rw [← RvL.length r1, hn _ _ _ _ e]
  exact hl
theorem SndE.cb {G : Gd} {r : List V → Hp → VK → Prop} {f : List D → Store → Res D} {ta : TA} (ha : SndA G E ta mr) (ho : OpL G E r f) : SndE G E (tCB r ta) (mCall f mr) := fun σ H ρ φ R S rs rn =>
  Run.bnd (ha σ H ρ φ R S rs rn) fun ds S1 φ1 xs H1 _ l1 rs1 r1 => ho R φ1 S1 H1 ds xs rs1 r1
/-- a built-in by its name -/
theorem me_cb {id : String} {x : Str} {r : List V → Hp → VK → Prop} {f : List D → Store → Res D} (hc : CallR X (.builtin id) r) (ho : OpL (X.gd T) E r f) (hg : Gl X x) (hm : X.mg x = none) (hv : bootBuiltins x = some (.builtin id)) (ha : MAn T X E (e :: es) mr)
    (hn : x ≠ "__name__" := by decide) (hdb : (x == ("__debug__" : Str)) = false := by decide)
    (he : starEach (e :: es) X.env = (false, eval e X.env) :: starEach es X.env := by rfl) (hpl : (backTo pos (starEach es X.env)).any (·.1) = false := by rfl) : ME T X E (.Call (.Name x p) (e :: es) [] pos) (mCall f mr) := by
  obtain ⟨⟨tr, pr, sr⟩, _⟩ := ha
  exact ⟨_, pe_callB hc hg hm hv pr hn hdb he hpl, SndE.cb sr ho⟩
theorem me_cty {TT : String} {x : Str} {r : List V → Hp → VK → Prop} {f : List D → Store → Res D} (hc : CallR X (.type TT) r) (ho : OpL (X.gd T) E r f) (hg : Gl X x) (hm : X.mg x = none) (hv : bootBuiltins x = some (.type TT)) (ha : MAn T X E (e :: es) mr)
    (hn : x ≠ "__name__" := by decide) (hdb : (x == ("__debug__" : Str)) = false := by decide)
    (he : starEach (e :: es) X.env = (false, eval e X.env) :: starEach es X.env := by rfl) (hpl : (backTo pos (starEach es X.env)).any (·.1) = false := by rfl) : ME T X E (.Call (.Name x p) (e :: es) [] pos) (mCall f mr) := by
  obtain ⟨⟨tr, pr, sr⟩, _⟩ := ha
  exact ⟨_, pe_callTy hc hg hm hv pr hn hdb he hpl, SndE.cb sr ho⟩
/-! ### items -/
theorem me_ix (ha : ME T X E a ma) (hb : ME T X E b mb) (hs : PlainIx b := by exact fun _ _ => rfl) : ME T X E (.Subscript a b pos) (mOp fIx ma mb) := by
  obtain ⟨ta, pa, sa⟩ := ha
  obtain ⟨tb, pb, sb⟩ := hb
  exact ⟨_, pe_ix ix_seq pa pb hs, SndE.op sa sb o_ix⟩
/-! ### a def's promise -/
def spM (G : Gd) (n : Nat) (f : List D → Store → Res D) : Sp := fun vs H Q E => ∃ φ R S ds, Rs G R φ S H ∧ RvL G R φ H ds vs ∧ ds.length = n ∧ f ds S ≠ .bad ∧
  (∀ d S' φ' v H', f ds S = .ok d S' → Le φ H φ' H' → Rs G R φ' S' H' → Rv G R φ' H' d v → Q v H') ∧
  (∀ er S' φ' H' cl d, f ds S = .exc er S' → Le φ H φ' H' → Rs G R φ' S' H' → Xq G R φ' H' er cl d → E cl d H')
theorem SndE.call {G : Gd} {n : Nat} {f : List D → Store → Res D} {ta : TA} (ha : SndA G E ta mr) (hn : ∀ ρ S ds S', mr ρ S = .ok ds S' → ds.length = n) : SndE G E (tCall (spM G n f) [] E ta) (mCall f mr) := fun σ H ρ φ R S rs rn =>
  Run.bnd (c' := fun vs H1 Q => spM G n f (vs ++ []) H1 Q E) (ha σ H ρ φ R S rs rn) fun ds S1 φ1 xs H1 e l1 rs1 r1 => fun Q hq he hb => by
    refine ⟨φ1, R, S1, ds, rs1, ?_, hn _ _ _ _ e, hb, hq, he⟩
    rw [List.append_nil]
    exact r1
theorem me_call {k : Nat} {f : Addr} {fd : FuncData} {ps : List Str} {x : Str} {n : Nat} {m : List D → Store → Res D} (F : FnOk X.prog X.w X.K X.mg X.base (L2.CX X.prog X.w) k f fd ps (spM (X.gd T) n m)) (hr : Room k X.A) (hg : Gl X x) (hm : X.mg x = some (.ref f)) (hk : PySem.W.keepIn X.K (.ref f) = true) (hb : Binds X.K fd ps [])
    (hx : Passes (L2.CX X.prog X.w) X E) (ha : MAn T X E (e :: es) mr) (hn : (e :: es).length = n := by rfl) (hdb : (x == ("__debug__" : Str)) = false := by decide) (he : starEach (e :: es) X.env = (false, eval e X.env) :: starEach es X.env := by rfl) (hpl : (backTo pos (starEach es X.env)).any (·.1) = false := by rfl) :
    ME T X E (.Call (.Name x p) (e :: es) [] pos) (mCall m mr) := by
  obtain ⟨⟨tr, pr, sr⟩, hl⟩ := ha
  exact ⟨_, pe_call F hr hg hm hk hb .nil hx pr hdb he hpl, SndE.call sr fun ρ S ds S' h => (hl ρ S ds S' h).trans hn⟩
theorem me_call0 {k : Nat} {f : Addr} {fd : FuncData} {ps : List Str} {x : Str} {m : List D → Store → Res D} (F : FnOk X.prog X.w X.K X.mg X.base (L2.CX X.prog X.w) k f fd ps (spM (X.gd T) 0 m)) (hr : Room k X.A) (hg : Gl X x) (hm : X.mg x = some (.ref f)) (hk : PySem.W.keepIn X.K (.ref f) = true) (hb : Binds X.K fd ps [])
    (hx : Passes (L2.CX X.prog X.w) X E) (hdb : (x == ("__debug__" : Str)) = false := by decide) : ME T X E (.Call (.Name x p) [] [] pos) (mCall m mNil) := by
  refine ⟨_, pe_call0 F hr hg hm hk hb .nil hx hdb, fun σ H ρ φ R S rs rn Q hq he hb => ?_⟩
  exact ⟨φ, R, S, [], rs, RvL.nil, rfl, hb, hq, he⟩
end
end MM

/-! The mirror layer's rules: statements, loops, comprehensions, defs. -/
namespace MM
open PySem L2

/-! ### the mirrors of statements -/
def sNx : MS0 := fun ρ S => .ok (.nx, ρ) S
def sBk : MS0 := fun ρ S => .ok (.bk, ρ) S
def sCt : MS0 := fun ρ S => .ok (.ct, ρ) S
def sNever : MS0 := fun _ _ => .bad
def sSeq (a b : MS0) : MS0 := fun ρ S => (a ρ S).bind fun x S1 => match x.1 with
  | .nx => b x.2 S1
  | fl => .ok (fl, x.2) S1
def sExpr (m : ME0) : MS0 := fun ρ S => (m ρ S).bind fun _ S1 => .ok (.nx, ρ) S1
def sRet (m : ME0) : MS0 := fun ρ S => (m ρ S).bind fun d S1 => .ok (.rt d, ρ) S1
def sRetN : MS0 := fun ρ S => .ok (.rt .non, ρ) S
def sIf (c : MT0) (a b : MS0) : MS0 := fun ρ S => (c ρ S).bind fun x S1 => if x = true then a ρ S1 else b ρ S1
/-- targets -/
abbrev MG0 := D → Rho → Store → Res Rho
abbrev MGs0 := List D → Rho → Store → Res Rho
def gN (i : Nat) : MG0 := fun d ρ S => .ok (ρ.set i (some d)) S
def gsNil : MGs0 := fun ds ρ S => match ds with
  | [] => .ok ρ S
  | _ => .bad
def gsCons (g : MG0) (gs : MGs0) : MGs0 := fun ds ρ S => match ds with
  | d :: r => (g d ρ S).bind fun ρ1 S1 => gs r ρ1 S1
  | [] => .bad
def gTp (n : Nat) (gs : MGs0) : MG0 := fun d ρ S => match d with
  | .tup ds => if ds.length = n then gs ds ρ S else .bad
  | _ => .bad
/-- o[i] = value, o a list of the store -/
def gIx (mo mi : ME0) : MG0 := fun d ρ S => (mo ρ S).bind fun o S1 => (mi ρ S1).bind fun i S2 => match o, i with
  | .ref n, .int k => match lstAt S2 n with
    | some ds => match ixN ds.length k with
      | some j => .ok ρ (S2.set n (.lst (ds.set j d)))
      | none => .bad
    | none => .bad
  | _, _ => .bad
def sAsg (m : ME0) (g : MG0) : MS0 := fun ρ S => (m ρ S).bind fun d S1 => (g d ρ S1).bind fun ρ1 S2 => .ok (.nx, ρ1) S2
/-- an iterator: at turn i over a store: none (not told), or at its end, or an item -/
structure ItD where
  get : Nat → Store → Option (Option D)
abbrev MI0 := Rho → Store → Res ItD
def itL (ds : List D) : ItD := ⟨fun i _ => some ds[i]?⟩
def itS (n : Nat) : ItD := ⟨fun i S => (lstAt S n).map fun ds => ds[i]?⟩
def itR (lo : Int) (n : Nat) : ItD := ⟨fun i _ => some (if i < n then some (.int (lo + i)) else none)⟩
def itE (ds : List D) : ItD := ⟨fun i _ => some (ds[i]?.map fun d => .tup [.int i, d])⟩
def BIG : Nat := 2 ^ 40
theorem BIG_eq : BIG = 2 ^ 40 := rfl
def forL (g : MG0) (b : MS0) : Nat → Nat → ItD → Rho → Store → Res (Fl × Rho)
  | 0, _, _, _, _ => .bad
  | f + 1, i, it, ρ, S => match it.get i S with
    | none => .bad
    | some none => .ok (.nx, ρ) S
    | some (some d) => (g d ρ S).bind fun ρ1 S1 => (b ρ1 S1).bind fun x S2 => match x.1 with
      | .nx => forL g b f (i + 1) it x.2 S2
      | .ct => forL g b f (i + 1) it x.2 S2
      | .bk => .ok (.nx, x.2) S2
      | .rt d => .ok (.rt d, x.2) S2
def sFor (mi : MI0) (g : MG0) (b : MS0) : MS0 := fun ρ S => (mi ρ S).bind fun it S1 => forL g b BIG 0 it ρ S1
def whL (c : MT0) (b : MS0) : Nat → Rho → Store → Res (Fl × Rho)
  | 0, _, _ => .bad
  | f + 1, ρ, S => (c ρ S).bind fun k S1 => if k = true then (b ρ S1).bind fun x S2 => match x.1 with
      | .nx => whL c b f x.2 S2
      | .ct => whL c b f x.2 S2
      | .bk => .ok (.nx, x.2) S2
      | .rt d => .ok (.rt d, x.2) S2
    else .ok (.nx, ρ) S1
def sWhile (c : MT0) (b : MS0) : MS0 := whL c b BIG
/-- comprehensions: nothing raised within -/
def Res.calm {α : Type} : Res α → Res α
  | .exc _ _ => .bad
  | r => r
def wipeD (ρ : Rho) : List Nat → Rho
  | [] => ρ
  | v :: vs => (wipeD ρ vs).set v none
def lcL (g : MG0) (tt : MT0) (te : ME0) : Nat → Nat → ItD → Rho → List D → Store → Res (List D)
  | 0, _, _, _, _, _ => .bad
  | f + 1, i, it, ρ, acc, S => match it.get i S with
    | none => .bad
    | some none => .ok acc S
    | some (some d) => (g d ρ S).calm.bind fun ρ1 S1 => (tt ρ1 S1).calm.bind fun b S2 =>
      if b = true then (te ρ1 S2).calm.bind fun y S3 => if acc.length < sizeLine then lcL g tt te f (i + 1) it ρ (acc ++ [y]) S3 else .bad
      else lcL g tt te f (i + 1) it ρ acc S2
def mLcL (mi : MI0) (g : MG0) (tt : MT0) (te : ME0) (vs : List Nat) : Rho → Store → Res (List D) := fun ρ S => (mi ρ S).bind fun it S1 => lcL g tt te BIG 0 it (wipeD ρ vs) [] S1
def mLc (mi : MI0) (g : MG0) (tt : MT0) (te : ME0) (vs : List Nat) : ME0 := fun ρ S => (mLcL mi g tt te vs ρ S).bind fun ds S1 => .ok (.lst ds) S1
/-- .. a list that may be changed -/
def mLcS (mi : MI0) (g : MG0) (tt : MT0) (te : ME0) (vs : List Nat) : ME0 := fun ρ S => (mLcL mi g tt te vs ρ S).bind fun ds S1 => .ok (.ref S1.length) (S1 ++ [.lst ds])
def mYes : MT0 := fun _ S => .ok true S
def mDef (N : Nat) (b : MS0) : List D → Store → Res D := fun ds S => (b (ds.map some ++ List.replicate (N - ds.length) none) S).bind fun x S1 => match x.1 with
  | .nx => .ok .non S1
  | .rt d => .ok d S1
  | _ => .bad

section
variable {T : List Addr} {X : Cx} {E : XK} {st : Stmt} {sts a b : List Stmt} {e c tg iter : Expr} {me : ME0} {mc : MT0} {m m1 m2 mb : MS0} {pos p : Pos}
theorem SndS.nx {G : Gd} : SndS G E tNext sNx := fun σ H ρ φ R S rs rn => Run.ret (v := Out.nx σ) rs (show RelO G R φ H (.nx, ρ) (.nx σ) from rn) fun Q q => q
theorem mss_nil : MSs T X E [] sNx := ⟨_, pss_nil, SndS.nx⟩
theorem mss_one (h : MS T X E st m) : MSs T X E [st] m := by
  obtain ⟨t, pt, s⟩ := h
  exact ⟨_, pss_one pt, s⟩
theorem mss_cons (h1 : MS T X E st m1) (h2 : MSs T X E sts m2) : MSs T X E (st :: sts) (sSeq m1 m2) := by
  obtain ⟨t, pt, s1⟩ := h1
  obtain ⟨u, pu, s2⟩ := h2
  refine ⟨_, pss_cons pt pu, fun σ H ρ φ R S rs rn => Run.bnd (c' := fun (o : Out) H1 (Q : Out → Hp → Prop) => match o with
    | .nx σ1 => u (endsOf Q) σ1 H1
    | o => Q o H1) (s1 σ H ρ φ R S rs rn) (fun x S1 φ1 o H1 _ l1 rs1 r1 => ?_) fun Q q => q⟩
  obtain ⟨fl, ρ1⟩ := x
  cases fl with
  | nx =>
    cases o with
    | nx σ1 => exact s2 σ1 H1 ρ1 φ1 R S1 rs1 r1
    | _ => exact False.elim r1
  | rt d =>
    cases o with
    | rt v => exact Run.ret (v := Out.rt v) rs1 r1 fun Q q => q
    | _ => exact False.elim r1
  | bk =>
    cases o with
    | bk σ1 => exact Run.ret (v := Out.bk σ1) rs1 r1 fun Q q => q
    | _ => exact False.elim r1
  | ct =>
    cases o with
    | ct σ1 => exact Run.ret (v := Out.ct σ1) rs1 r1 fun Q q => q
    | _ => exact False.elim r1
theorem ms_pass : MS T X E (.Pass pos) sNx := ⟨_, ps_pass, SndS.nx⟩
theorem ms_break : MS T X E (.Break pos) sBk := ⟨_, ps_break, fun σ H ρ φ R S rs rn => Run.ret (v := Out.bk σ) rs (show RelO (X.gd T) R φ H (.bk, ρ) (.bk σ) from rn) fun Q q => q⟩
theorem ms_continue : MS T X E (.Continue pos) sCt := ⟨_, ps_continue, fun σ H ρ φ R S rs rn => Run.ret (v := Out.ct σ) rs (show RelO (X.gd T) R φ H (.ct, ρ) (.ct σ) from rn) fun Q q => q⟩
theorem ms_never : MS T X E st sNever := ⟨_, ps_never, fun σ H ρ φ R S rs rn => Run.bad⟩
theorem ms_expr (h : ME T X E e me) (hs : swapsWith e none pos.line X.env = pure false := by rfl) : MS T X E (.Expr e pos) (sExpr me) := by
  obtain ⟨t, pt, s⟩ := h
  exact ⟨_, ps_expr pt hs, fun σ H ρ φ R S rs rn => Run.bnd (c' := fun _ H1 Q => Q (Out.nx σ) H1) (s σ H ρ φ R S rs rn) fun d S1 φ1 v H1 _ l1 rs1 r1 => Run.ret (v := Out.nx σ) rs1 (show RelO (X.gd T) R φ1 H1 (.nx, ρ) (.nx σ) from rn.le l1) fun Q q => q⟩
theorem ms_ret (h : ME T X E e me) : MS T X E (.Return (some e) pos) (sRet me) := by
  obtain ⟨t, pt, s⟩ := h
  exact ⟨_, ps_ret pt, fun σ H ρ φ R S rs rn => Run.bnd (c' := fun v H1 Q => Q (Out.rt v) H1) (s σ H ρ φ R S rs rn) fun d S1 φ1 v H1 _ l1 rs1 r1 => Run.ret (v := Out.rt v) rs1 (show RelO (X.gd T) R φ1 H1 (.rt d, ρ) (.rt v) from r1) fun Q q => q⟩
theorem ms_retN : MS T X E (.Return none pos) sRetN := ⟨_, ps_retN, fun σ H ρ φ R S rs rn => Run.ret (v := Out.rt .non) rs (show RelO (X.gd T) R φ H (.rt .non, ρ) (.rt .non) from (Rv.non : Rv (X.gd T) R φ H .non .non)) fun Q q => q⟩
theorem ms_if (hc : MT T X E c mc) (ha : MSs T X E a m1) (hb : MSs T X E b m2) : MS T X E (.If c a b pos) (sIf mc m1 m2) := by
  obtain ⟨tc, pc, sc⟩ := hc
  obtain ⟨ta, pa, sa⟩ := ha
  obtain ⟨tb, pb, sb⟩ := hb
  refine ⟨_, ps_if pc pa pb, fun σ H ρ φ R S rs rn => Run.bnd (c' := fun k H1 Q => if k = true then ta (endsOf Q) σ H1 else tb (endsOf Q) σ H1) (sc σ H ρ φ R S rs rn) (fun d S1 φ1 x H1 _ l1 rs1 r1 => ?_) fun Q q => q⟩
  have e1 : d = x := r1
  subst e1
  cases d with
  | true => exact Run.conv (sa σ H1 ρ φ1 R S1 rs1 (rn.le l1)) fun Q q => by rw [if_pos rfl]; exact q
  | false => exact Run.conv (sb σ H1 ρ φ1 R S1 rs1 (rn.le l1)) fun Q q => by rw [if_neg Bool.false_ne_true]; exact q
/-! ### targets -/
abbrev RelR (G : Gd) (R : List Addr) : List Addr → Hp → Rho → L2.St → Prop := fun φ H ρ σ => Rn G R φ H ρ σ
def SndG (G : Gd) (E : XK) (t : TG) (g : MG0) : Prop := ∀ d v σ H ρ φ R S, Rs G R φ S H → Rn G R φ H ρ σ → Rv G R φ H d v → Run G E R φ H (RelR G R) (g d ρ S) (fun Q => t v σ H Q)
def SndGs (G : Gd) (E : XK) (t : TGs) (g : MGs0) : Prop := ∀ ds vs σ H ρ φ R S, Rs G R φ S H → Rn G R φ H ρ σ → RvL G R φ H ds vs → Run G E R φ H (RelR G R) (g ds ρ S) (fun Q => t vs σ H Q)
def MG (T : List Addr) (X : Cx) (E : XK) (tg : Expr) (g : MG0) : Prop := ∃ t, PG X tg t ∧ SndG (X.gd T) E t g
def MGs (T : List Addr) (X : Cx) (E : XK) (tgs : List Expr) (g : MGs0) : Prop := ∃ t, PGs X tgs t ∧ SndGs (X.gd T) E t g
theorem SndG.name {G : Gd} {i : Nat} : SndG G E (gName i) (gN i) := fun d v σ H ρ φ R S rs rn r => Run.ret (v := σ.set i (some v)) rs (rn.set r) fun Q q => q
theorem mg_name {i : Nat} {x : Str} (hN : X.N.Nodup) (hi : X.N[i]? = some x) (hx : Loc X.env.scope x := by first | exact Or.inl rfl | exact Or.inr rfl) (hf : X.fn x = true ∨ X.env.scope.names.lookup x = some .local := by first | exact .inl rfl | exact .inr rfl | assumption) : MG T X E (.Name x pos) (gN i) :=
  ⟨_, pg_name hN hi hx hf, SndG.name⟩
theorem mgs_nil : MGs T X E [] gsNil := ⟨_, pgs_nil, fun ds vs σ H ρ φ R S rs rn r => by
  cases ds with
  | nil =>
    unfold RvL at r
    subst r
    exact Run.ret rs rn fun Q q => ⟨rfl, q⟩
  | cons d ds => exact Run.bad⟩
theorem mgs_cons {es : List Expr} {g : MG0} {gs : MGs0} (h1 : MG T X E e g) (h2 : MGs T X E es gs) (hs : (assignEach (e :: es) X.env).map (·.2) = assign e X.env :: (assignEach es X.env).map (·.2) := by rfl) : MGs T X E (e :: es) (gsCons g gs) := by
  obtain ⟨t, pt, s1⟩ := h1
  obtain ⟨u, pu, s2⟩ := h2
  refine ⟨_, pgs_cons pt pu hs, fun ds vs σ H ρ φ R S rs rn r => ?_⟩
  cases ds with
  | nil => exact Run.bad
  | cons d ds =>
    unfold RvL at r
    obtain ⟨v, vr, rfl, r1, r2⟩ := r
    refine Run.bnd (c' := fun σ1 H1 Q => u vr σ1 H1 Q) (s1 d v σ H ρ φ R S rs rn r1) (fun ρ1 S1 φ1 σ1 H1 _ l1 rs1 q1 => s2 ds vr σ1 H1 ρ1 φ1 R S1 rs1 q1 (RvL.le l1 r2)) fun Q q => ⟨v, vr, rfl, q⟩
theorem mg_tup {es : List Expr} {k n : Nat} {gs : MGs0} (hc : X.calm = true) (h : MGs T X E es gs) (hn : (assignEach es X.env).length = n := by rfl) (hst : (assignEach es X.env).findIdx? (·.1) = none := by rfl) : MG T X E (.Tuple es k pos) (gTp n gs) := by
  obtain ⟨t, pt, s⟩ := h
  refine ⟨_, pg_tup hc pt hn hst, fun d v σ H ρ φ R S rs rn r => ?_⟩
  cases d with
  | tup ds =>
    obtain ⟨a, vs, rfl, h1, h2⟩ := Rv.tup_of r
    show Run (X.gd T) E R φ H _ (if ds.length = n then gs ds ρ S else .bad) _
    by_cases hl : ds.length = n
    · rw [if_pos hl]
      exact Run.conv (s ds vs σ H ρ φ R S rs rn h2) fun Q q => ⟨a, vs, rfl, h1, by rw [← RvL.length h2]; exact hl, q⟩
    · rw [if_neg hl]
      exact Run.bad
  | _ => exact Run.bad
theorem mg_ix {o i : Expr} {mo mi : ME0} (ho : ME T X E o mo) (hi : ME T X E i mi)
    (ha : ∀ v, assign (.Subscript o i pos) X.env v = (do
      let ov ← holding [v] (eval o X.env)
      let iv ← holding [v, ov] (eval i X.env)
      standAt pos
      holding [v, ov, iv] (setItem ov iv v)
      release [v, ov, iv] []) := by intro _; rfl) : MG T X E (.Subscript o i pos) (gIx mo mi) := by
  obtain ⟨to, po, so⟩ := ho
  obtain ⟨ti, pi, si⟩ := hi
  refine ⟨_, pg_sub po pi set_list ha, fun d v σ H ρ φ R S rs rn r => ?_⟩
  refine Run.bnd (c' := fun o H1 Q => ti σ H1 fun i H2 => rSetL o i v H2 fun H3 => Q σ H3) (so σ H ρ φ R S rs rn) (fun o S1 φ1 ov H1 _ l1 rs1 r1 => ?_) fun Q q => q
  refine Run.bnd (c' := fun i H2 Q => rSetL ov i v H2 fun H3 => Q σ H3) (si σ H1 ρ φ1 R S1 rs1 (rn.le l1)) (fun i S2 φ2 iv H2 _ l2 rs2 r2 => ?_) fun Q q => q
  have l12 := l1.trans l2
  cases o with
  | ref n =>
    cases i with
    | int k =>
      show Run (X.gd T) E R φ2 H2 _ (match lstAt S2 n with
        | some ds => match ixN ds.length k with
          | some j => .ok ρ (S2.set n (.lst (ds.set j d)))
          | none => .bad
        | none => .bad) _
      split
      · rename_i ds hds
        split
        · rename_i j hj
          obtain ⟨a, vs, rfl, ha, h1, h2⟩ := rs2.lst (Rv.le l2 r1) (lstAt_of hds)
          have lw : Le φ2 H2 φ2 (upd H2 a (.lst (vs.set j v))) := Le.write rs2 ha (nfz h1 (fun _ _ z => nomatch z))
          have rw' := rs2.write (ho := .lst (vs.set j v)) (o := .lst (ds.set j d)) ha (nfz h1 (fun _ _ z => nomatch z)) (Ro.mkL upd_same (RvL.set (RvL.le lw h2) (Rv.le (l12.trans lw) r)))
          intro Q hq _ _
          refine ⟨a, vs, k, j, rfl, Rv.int_of r2, h1, by rw [← RvL.length h2]; exact hj, ?_⟩
          exact hq ρ _ φ2 σ _ rfl lw rw' (rn.le (l12.trans lw))
        · exact Run.bad
      · exact Run.bad
    | _ => exact Run.bad
  | _ => exact Run.bad
theorem SndS.asg {G : Gd} {te : TE} {t : TG} {g : MG0} (se : SndE G E te me) (sg : SndG G E t g) : SndS G E (tAsg te t) (sAsg me g) := fun σ H ρ φ R S rs rn =>
  Run.bnd (c' := fun v H1 Q => t v σ H1 fun σ1 H2 => Q (Out.nx σ1) H2) (se σ H ρ φ R S rs rn) (fun d S1 φ1 v H1 _ l1 rs1 r1 =>
    Run.bnd (c' := fun σ1 H2 Q => Q (Out.nx σ1) H2) (sg d v σ H1 ρ φ1 R S1 rs1 (rn.le l1) r1) (fun ρ1 S2 φ2 σ1 H2 _ l2 rs2 r2 => Run.ret (v := Out.nx σ1) rs2 (show RelO G R φ2 H2 (.nx, ρ1) (.nx σ1) from r2) fun Q q => q) fun Q q => q) fun Q q => q
theorem ms_asg {g : MG0} (he : ME T X E e me) (hg : MG T X E tg g) (hs : swapsWithSole [tg] e pos.line X.env = pure false := by rfl) (hw : swappedStores [tg] e X.env = pure none := by rfl)
    (h1 : (assignEach [tg] X.env).map (·.2) = [assign tg X.env] := by rfl) : MS T X E (.Assign [tg] e pos) (sAsg me g) := by
  obtain ⟨t, pt, s⟩ := he
  obtain ⟨u, pu, sg⟩ := hg
  exact ⟨_, ps_asg pt pu hs hw h1, SndS.asg s sg⟩
theorem ms_set {i : Nat} {x : Str} {pos' : Pos} (hN : X.N.Nodup) (hi : X.N[i]? = some x) (he : ME T X E e me) (hx : Loc X.env.scope x := by first | exact Or.inl rfl | exact Or.inr rfl) (hs : swapsWith e (some (.Name x pos')) pos.line X.env = pure false := by rfl) (hf : X.fn x = true ∨ X.env.scope.names.lookup x = some .local := by first | exact .inl rfl | exact .inr rfl | assumption) :
    MS T X E (.Assign [.Name x pos'] e pos) (sAsg me (gN i)) := by
  obtain ⟨t, pt, s⟩ := he
  exact ⟨_, ps_set hN hi hx pt hs hf, SndS.asg s SndG.name⟩
/-! ### iterators -/
def RelI (G : Gd) (R : List Addr) : List Addr → Hp → ItD → It → Prop := fun φ0 H0 it J => ∀ R', (∀ a ∈ R', a ∈ R ∨ H0 a = none) → ∀ i φ S H, Le φ0 H0 φ H → Rs G R' φ S H →
  (it.get i S = some none → J.stop i H) ∧ ∀ d, it.get i S = some (some d) → J.go i H ∧ ∀ x H', J.yld i H x H' → Le φ H φ H' ∧ Rs G R' φ S H' ∧ Rv G R' φ H' d x
def SndI (G : Gd) (E : XK) (t : TI) (m : MI0) : Prop := ∀ σ H ρ φ R S, Rs G R φ S H → Rn G R φ H ρ σ → Run G E R φ H (RelI G R) (m ρ S) (fun Q => t σ H Q)
def MI (T : List Addr) (X : Cx) (E : XK) (tg iter : Expr) (m : MI0) : Prop := ∃ t, PI X tg iter t ∧ SndI (X.gd T) E t m
/-- a list, by value or of the store -/
def miL (me : ME0) : MI0 := fun ρ S => (me ρ S).bind fun d S1 => match d with
  | .lst ds => .ok (itL ds) S1
  | .frz ds => .ok (itL ds) S1
  | .ref n => match lstAt S1 n with
    | some _ => .ok (itS n) S1
    | none => .bad
  | _ => .bad
def miT (me : ME0) : MI0 := fun ρ S => (me ρ S).bind fun d S1 => match d with
  | .tup ds => .ok (itL ds) S1
  | _ => .bad
theorem Le.new_same {G : Gd} {R φ : List Addr} {S : Store} {H : Hp} (rs : Rs G R φ S H) : Le φ H φ H ∧ Rs G R φ S H := ⟨Le.refl, rs⟩
theorem relI_list {G : Gd} {R φ : List Addr} {H : Hp} {ds : List D} {vs : List V} {a : Addr} (h : ∀ φ' H', Le φ H φ' H' → SqL G.K H' a vs) (r : RvL G R φ H ds vs) : RelI G R φ H (itL ds) (Itl G.K a) := by
  intro R' hR i φ1 S1 H1 l rs
  refine ⟨fun e => ⟨vs, h _ _ l, ?_⟩, fun d e => ?_⟩
  · have e' : ds[i]? = none := Option.some.inj e
    rw [← RvL.length r]
    exact List.getElem?_eq_none_iff.mp e'
  · have e' : ds[i]? = some d := Option.some.inj e
    obtain ⟨v, e1, e2⟩ := RvL.get r e'
    refine ⟨⟨vs, v, h _ _ l, e1⟩, fun x H' hy => ?_⟩
    obtain ⟨rfl, hy⟩ := hy
    have e3 := hy vs (h _ _ l)
    rw [e1] at e3
    cases e3
    exact ⟨Le.refl, rs, Rv.le l (Rv.reR hR e2)⟩
theorem relI_tup {G : Gd} {R φ : List Addr} {H : Hp} {ds : List D} {vs : List V} {a : Addr} (h : H a = some (.tup vs)) (r : RvL G R φ H ds vs) : RelI G R φ H (itL ds) (Itt G.K a) := by
  intro R' hR i φ1 S1 H1 l rs
  refine ⟨fun e => ⟨vs, SqT.le l h, ?_⟩, fun d e => ?_⟩
  · have e' : ds[i]? = none := Option.some.inj e
    rw [← RvL.length r]
    exact List.getElem?_eq_none_iff.mp e'
  · have e' : ds[i]? = some d := Option.some.inj e
    obtain ⟨v, e1, e2⟩ := RvL.get r e'
    refine ⟨⟨vs, v, SqT.le l h, e1⟩, fun x H' hy => ?_⟩
    obtain ⟨rfl, hy⟩ := hy
    have e3 := hy vs (SqT.le l h)
    rw [e1] at e3
    cases e3
    exact ⟨Le.refl, rs, Rv.le l (Rv.reR hR e2)⟩
theorem relI_store {G : Gd} {R φ : List Addr} {H : Hp} {n : Nat} {a : Addr} (h : φ[n]? = some a) : RelI G R φ H (itS n) (Itl G.K a) := by
  intro R' hR i φ1 S1 H1 l rs
  have ha : φ1[n]? = some a := by
    obtain ⟨r, er⟩ := l.pre
    rw [er, List.getElem?_append_left (List.getElem?_eq_some_iff.mp h).1]
    exact h
  have key : ∀ o, (itS n).get i S1 = some o → ∃ ds vs, S1[n]? = some (.lst ds) ∧ ds[i]? = o ∧ H1 a = some (.lst vs) ∧ RvL G R' φ1 H1 ds vs := fun o e => by
    obtain ⟨ds, e1, e2⟩ := Option.map_eq_some_iff.mp (show (lstAt S1 n).map (fun ds => ds[i]?) = some o from e)
    obtain ⟨vs, h1, h2⟩ := (rs.obj n _ a (lstAt_of e1) ha).ofL
    exact ⟨ds, vs, lstAt_of e1, e2, h1, h2⟩
  refine ⟨fun e => ?_, fun d e => ?_⟩
  · obtain ⟨ds, vs, _, e2, h1, h2⟩ := key _ e
    refine ⟨vs, .inl (.inl h1), ?_⟩
    rw [← RvL.length h2]
    exact List.getElem?_eq_none_iff.mp e2
  · obtain ⟨ds, vs, _, e2, h1, h2⟩ := key _ e
    obtain ⟨v, e3, e4⟩ := RvL.get h2 e2
    refine ⟨⟨vs, v, .inl (.inl h1), e3⟩, fun x H' hy => ?_⟩
    obtain ⟨rfl, hy⟩ := hy
    have e5 := hy vs (.inl (.inl h1))
    rw [e3] at e5
    cases e5
    exact ⟨Le.refl, rs, e4⟩
theorem mi_list (h : ME T X E e me) : MI T X E tg e (miL me) := by
  obtain ⟨t, pt, s⟩ := h
  refine ⟨_, pi_list pt, fun σ H ρ φ R S rs rn => Run.bnd (c' := fun (x : V) H1 Q => ∃ a, x = V.ref a ∧ (∃ xs, SqL X.K H1 a xs) ∧ Q (Itl X.K a) H1) (s σ H ρ φ R S rs rn) (fun d S1 φ1 v H1 _ l1 rs1 r1 => ?_) fun Q q => q⟩
  cases d with
  | lst ds =>
    obtain ⟨a, vs, rfl, n1, n2, h1, h2⟩ := Rv.lst_of r1
    exact Run.ret (v := Itl X.K a) rs1 (relI_list (fun φ' H' l => .inl (.inl (l.keep a _ h1 n1 (fun _ z => nomatch z)).1)) h2) fun Q q => ⟨a, rfl, ⟨vs, .inl (.inl h1)⟩, q⟩
  | frz ds =>
    obtain ⟨a, vs, rfl, h1, h2⟩ := Rv.frz_of r1
    exact Run.ret (v := Itl X.K a) rs1 (relI_list (fun φ' H' l => (Fz.le l h1).sq) h2) fun Q q => ⟨a, rfl, ⟨vs, h1.sq⟩, q⟩
  | ref n =>
    show Run (X.gd T) E R φ1 H1 _ (match lstAt S1 n with
      | some _ => .ok (itS n) S1
      | none => .bad) _
    split
    · rename_i ds hds
      obtain ⟨a, vs, rfl, ha, h1, h2⟩ := rs1.lst r1 (lstAt_of hds)
      exact Run.ret (v := Itl X.K a) rs1 (relI_store ha) fun Q q => ⟨a, rfl, ⟨vs, .inl (.inl h1)⟩, q⟩
    · exact Run.bad
  | _ => exact Run.bad
theorem mi_tup (h : ME T X E e me) : MI T X E tg e (miT me) := by
  obtain ⟨t, pt, s⟩ := h
  refine ⟨_, pi_tup pt, fun σ H ρ φ R S rs rn => Run.bnd (c' := fun (x : V) H1 Q => ∃ a, x = V.ref a ∧ (∃ xs, SqT X.K H1 a xs) ∧ Q (Itt X.K a) H1) (s σ H ρ φ R S rs rn) (fun d S1 φ1 v H1 _ l1 rs1 r1 => ?_) fun Q q => q⟩
  cases d with
  | tup ds =>
    obtain ⟨a, vs, rfl, h1, h2⟩ := Rv.tup_at r1
    exact Run.ret (v := Itt X.K a) rs1 (relI_tup h1 h2) fun Q q => ⟨a, rfl, ⟨vs, .inl (.inl h1)⟩, q⟩
  | _ => exact Run.bad
def miR1 (ma : MA0) : MI0 := fun ρ S => (ma ρ S).bind fun ds S1 => match ds with
  | [.int j] => if -(2 ^ 62) ≤ j ∧ j < 2 ^ 62 then .ok (itR 0 j.toNat) S1 else .bad
  | _ => .bad
def miR2 (ma : MA0) : MI0 := fun ρ S => (ma ρ S).bind fun ds S1 => match ds with
  | [.int i, .int j] => if -(2 ^ 62) ≤ i ∧ i < 2 ^ 62 ∧ -(2 ^ 62) ≤ j ∧ j < 2 ^ 62 then .ok (itR i (j - i).toNat) S1 else .bad
  | _ => .bad
theorem relI_range {G : Gd} {R φ : List Addr} {H : Hp} {lo : Int} {n : Nat} : RelI G R φ H (itR lo n) (Itr lo n) := by
  intro R' hR i φ1 S1 H1 l rs
  refine ⟨fun e => ?_, fun d e => ?_⟩
  · have e' : (if i < n then some (D.int (lo + i)) else none) = none := Option.some.inj e
    by_cases h : i < n
    · rw [if_pos h] at e'
      cases e'
    · exact Nat.le_of_not_lt h
  · have e' : (if i < n then some (D.int (lo + i)) else none) = some d := Option.some.inj e
    by_cases h : i < n
    · rw [if_pos h] at e'
      cases e'
      refine ⟨h, fun x H' hy => ?_⟩
      obtain ⟨rfl, rfl⟩ := hy
      exact ⟨Le.refl, rs, Rv.int⟩
    · rw [if_neg h] at e'
      cases e'
theorem RvL.one_of {G : Gd} {R φ : List Addr} {H : Hp} {d : D} {vs : List V} (h : RvL G R φ H [d] vs) : ∃ v, vs = [v] ∧ Rv G R φ H d v := by
  unfold RvL at h
  obtain ⟨v, r, rfl, h1, h2⟩ := h
  unfold RvL at h2
  subst h2
  exact ⟨v, rfl, h1⟩
theorem RvL.two_of {G : Gd} {R φ : List Addr} {H : Hp} {d e : D} {vs : List V} (h : RvL G R φ H [d, e] vs) : ∃ v w, vs = [v, w] ∧ Rv G R φ H d v ∧ Rv G R φ H e w := by
  unfold RvL at h
  obtain ⟨v, r, rfl, h1, h2⟩ := h
  obtain ⟨w, rfl, h3⟩ := RvL.one_of h2
  exact ⟨v, w, rfl, h1, h3⟩
theorem mi_range1 {mr : MA0} (hg : Gl X "range") (hm : X.mg "range" = none) (ha : MAn T X E [e] mr) (hs : starEach [e] X.env = [(false, eval e X.env)] := by rfl) : MI T X E tg (.Call (.Name "range" p) [e] [] pos) (miR1 mr) := by
  obtain ⟨⟨t, pt, s⟩, _⟩ := ha
  refine ⟨_, pi_range1 hg hm pt hs, fun σ H ρ φ R S rs rn => Run.bnd (c' := fun (vs : List V) H1 Q => ∃ j : Int, vs = [V.int j] ∧ -(2 ^ 62) ≤ j ∧ j < 2 ^ 62 ∧ Q (Itr 0 j.toNat) H1) (s σ H ρ φ R S rs rn) (fun ds S1 φ1 vs H1 e0 l1 rs1 r1 => ?_) fun Q q => q⟩
  split
  · rename_i j
    obtain ⟨v, rfl, h1⟩ := RvL.one_of r1
    by_cases hj : -(2 ^ 62) ≤ j ∧ j < 2 ^ 62
    · rw [if_pos hj]
      exact Run.ret (v := Itr 0 j.toNat) rs1 relI_range fun Q q => ⟨j, by rw [Rv.int_of h1], hj.1, hj.2, q⟩
    · rw [if_neg hj]
      exact Run.bad
  · exact Run.bad
theorem mi_range2 {e1 e2 : Expr} {mr : MA0} (hg : Gl X "range") (hm : X.mg "range" = none) (ha : MAn T X E [e1, e2] mr) (hs : starEach [e1, e2] X.env = [(false, eval e1 X.env), (false, eval e2 X.env)] := by rfl) (hs2 : starEach [e2] X.env = [(false, eval e2 X.env)] := by rfl) : MI T X E tg (.Call (.Name "range" p) [e1, e2] [] pos) (miR2 mr) := by
  obtain ⟨⟨t, pt, s⟩, _⟩ := ha
  refine ⟨_, pi_range2 hg hm pt hs hs2, fun σ H ρ φ R S rs rn => Run.bnd (c' := fun (vs : List V) H1 Q => ∃ i j : Int, vs = [V.int i, V.int j] ∧ (-(2 ^ 62) ≤ i ∧ i < 2 ^ 62 ∧ -(2 ^ 62) ≤ j ∧ j < 2 ^ 62) ∧ Q (Itr i (j - i).toNat) H1) (s σ H ρ φ R S rs rn) (fun ds S1 φ1 vs H1 e0 l1 rs1 r1 => ?_) fun Q q => q⟩
  split
  · rename_i i j
    obtain ⟨v, w, rfl, h1, h2⟩ := RvL.two_of r1
    by_cases hj : -(2 ^ 62) ≤ i ∧ i < 2 ^ 62 ∧ -(2 ^ 62) ≤ j ∧ j < 2 ^ 62
    · rw [if_pos hj]
      exact Run.ret (v := Itr i (j - i).toNat) rs1 relI_range fun Q q => ⟨i, j, by rw [Rv.int_of h1, Rv.int_of h2], hj, q⟩
    · rw [if_neg hj]
      exact Run.bad
  · exact Run.bad
end
end MM

/-! The mirror layer's rules: loops, comprehensions, defs. -/
namespace MM
open PySem L2
/-! ### loops -/
section
variable {G : Gd} {E : XK} {R φ : List Addr} {S : Store} {H : Hp}
theorem for_run {t : TG} {tb : TS} {g : MG0} {b : MS0} {it : ItD} {J : It} {ρ : Rho} {σ : L2.St} (rel : RelI G R φ H it J) (sg : SndG G E t g) (sb : SndS G E tb b) (rs : Rs G R φ S H) (rn : Rn G R φ H ρ σ) :
    Run G E R φ H (RelO G R) (forL g b BIG 0 it ρ S) (fun Q => ∃ W : Nat → Nat → L2.St → Hp → Prop, (∃ m, W 0 m σ H) ∧ ∀ i m σ H, W i m σ H →
      (J.stop i H ∧ (endsOf Q).nx σ H) ∨ (J.go i H ∧ ∃ N : L2.St → Hp → Prop, (∀ σ' H', N σ' H' → ∃ m', m' < m ∧ W (i + 1) m' σ' H') ∧ ∀ x H', J.yld i H x H' → t x σ H' fun σ2 H2 => tb { (endsOf Q) with nx := N, ct := N, bk := (endsOf Q).nx } σ2 H2)) := by
  intro Q hq he hb
  refine ⟨fun i m σ' H' => ∃ φ' ρ' S', Le φ H φ' H' ∧ Rs G R φ' S' H' ∧ Rn G R φ' H' ρ' σ' ∧ forL g b m i it ρ' S' = forL g b BIG 0 it ρ S, ⟨BIG, φ, ρ, S, Le.refl, rs, rn, rfl⟩, fun i m σ1 H1 hW => ?_⟩
  obtain ⟨φ1, ρ1, S1, l1, rs1, rn1, e⟩ := hW
  cases m with
  | zero => exact (hb e.symm).elim
  | succ f =>
    obtain ⟨r0, r1⟩ := rel R (fun _ h => .inl h) i φ1 S1 H1 l1 rs1
    cases hg : it.get i S1 with
    | none =>
      have : forL g b (f + 1) i it ρ1 S1 = .bad := by unfold forL; rw [hg]
      exact (hb (e.symm.trans this)).elim
    | some o =>
      cases o with
      | none =>
        have z : forL g b (f + 1) i it ρ1 S1 = .ok (.nx, ρ1) S1 := by unfold forL; rw [hg]
        exact .inl ⟨r0 hg, hq _ S1 φ1 (Out.nx σ1) H1 (e.symm.trans z) l1 rs1 rn1⟩
      | some d =>
        have z : forL g b (f + 1) i it ρ1 S1 = ((g d ρ1 S1).bind fun ρ2 S2 => (b ρ2 S2).bind fun x S3 => match x.1 with
            | .nx => forL g b f (i + 1) it x.2 S3
            | .ct => forL g b f (i + 1) it x.2 S3
            | .bk => .ok (.nx, x.2) S3
            | .rt d => .ok (.rt d, x.2) S3) := by
          conv => lhs; unfold forL
          rw [hg]
          try rfl
        rw [e] at z
        obtain ⟨r2, r3⟩ := r1 d hg
        refine .inr ⟨r2, fun σ' H' => ∃ φ' ρ' S', Le φ H φ' H' ∧ Rs G R φ' S' H' ∧ Rn G R φ' H' ρ' σ' ∧ forL g b f (i + 1) it ρ' S' = forL g b BIG 0 it ρ S, fun σ' H' hN => ⟨f, Nat.lt_succ_self f, hN⟩, fun x H2 hy => ?_⟩
        obtain ⟨l2, rs2, rv⟩ := r3 x H2 hy
        have l12 := l1.trans l2
        refine sg d x σ1 H2 ρ1 φ1 R S1 rs2 (rn1.le l2) rv (fun σ2 H3 => tb _ σ2 H3) (fun ρ2 S2 φ2 σ2 H3 e2 l3 rs3 rn3 => ?_) (fun er S2 φ2 H3 cl dd e2 l3 rs3 xq => he er S2 φ2 H3 cl dd (by rw [z, e2]; rfl) (l12.trans l3) rs3 xq) (fun e2 => hb (by rw [z, e2]; rfl))
        have z2 := z
        rw [e2, Res.bind_ok] at z2
        have l13 := l12.trans l3
        refine sb σ2 H3 ρ2 φ2 R S2 rs3 rn3 (fun o H4 => match o with
          | .nx σ' => ∃ φ' ρ' S', Le φ H φ' H4 ∧ Rs G R φ' S' H4 ∧ Rn G R φ' H4 ρ' σ' ∧ forL g b f (i + 1) it ρ' S' = forL g b BIG 0 it ρ S
          | .ct σ' => ∃ φ' ρ' S', Le φ H φ' H4 ∧ Rs G R φ' S' H4 ∧ Rn G R φ' H4 ρ' σ' ∧ forL g b f (i + 1) it ρ' S' = forL g b BIG 0 it ρ S
          | .bk σ' => Q (.nx σ') H4
          | .rt v => Q (.rt v) H4) (fun y S3 φ3 o H4 e3 l4 rs4 ro => ?_) (fun er S3 φ3 H4 cl dd e3 l4 rs4 xq => he er S3 φ3 H4 cl dd (by rw [z2, e3]; rfl) (l13.trans l4) rs4 xq) (fun e3 => hb (by rw [z2, e3]; rfl))
        obtain ⟨fl, ρ3⟩ := y
        rw [e3, Res.bind_ok] at z2
        cases fl with
        | nx =>
          cases o with
          | nx σ3 => exact ⟨φ3, ρ3, S3, l13.trans l4, rs4, ro, z2.symm⟩
          | _ => exact False.elim ro
        | ct =>
          cases o with
          | ct σ3 => exact ⟨φ3, ρ3, S3, l13.trans l4, rs4, ro, z2.symm⟩
          | _ => exact False.elim ro
        | bk =>
          cases o with
          | bk σ3 => exact hq _ S3 φ3 (Out.nx σ3) H4 z2 (l13.trans l4) rs4 ro
          | _ => exact False.elim ro
        | rt d =>
          cases o with
          | rt v => exact hq _ S3 φ3 (Out.rt v) H4 z2 (l13.trans l4) rs4 ro
          | _ => exact False.elim ro
theorem wh_run {tc : TT} {tb : TS} {c : MT0} {b : MS0} {ρ : Rho} {σ : L2.St} (sc : SndT G E tc c) (sb : SndS G E tb b) (rs : Rs G R φ S H) (rn : Rn G R φ H ρ σ) :
    Run G E R φ H (RelO G R) (whL c b BIG ρ S) (fun Q => tWhile tc tb (endsOf Q) σ H) := by
  intro Q hq he hb
  refine ⟨fun m σ' H' => ∃ φ' ρ' S', Le φ H φ' H' ∧ Rs G R φ' S' H' ∧ Rn G R φ' H' ρ' σ' ∧ whL c b m ρ' S' = whL c b BIG ρ S, ⟨BIG, φ, ρ, S, Le.refl, rs, rn, rfl⟩, fun m σ1 H1 hW => ?_⟩
  obtain ⟨φ1, ρ1, S1, l1, rs1, rn1, e⟩ := hW
  cases m with
  | zero => exact (hb e.symm).elim
  | succ f =>
    have z : whL c b (f + 1) ρ1 S1 = ((c ρ1 S1).bind fun k S2 => if k = true then (b ρ1 S2).bind fun x S3 => match x.1 with
            | .nx => whL c b f x.2 S3
            | .ct => whL c b f x.2 S3
            | .bk => .ok (.nx, x.2) S3
            | .rt d => .ok (.rt d, x.2) S3
          else .ok (.nx, ρ1) S2) := by
      conv => lhs; unfold whL
      try rfl
    rw [e] at z
    refine sc σ1 H1 ρ1 φ1 R S1 rs1 rn1 _ (fun k S2 φ2 k' H2 e2 l2 rs2 ek => ?_) (fun er S2 φ2 H2 cl dd e2 l2 rs2 xq => he er S2 φ2 H2 cl dd (by rw [z, e2]; rfl) (l1.trans l2) rs2 xq) (fun e2 => hb (by rw [z, e2]; rfl))
    have ek' : k = k' := ek
    subst ek'
    have z2 := z
    rw [e2, Res.bind_ok] at z2
    have l12 := l1.trans l2
    cases k with
    | false =>
      rw [if_neg Bool.false_ne_true] at z2 ⊢
      exact hq _ S2 φ2 (Out.nx σ1) H2 z2 l12 rs2 (rn1.le l2)
    | true =>
      rw [if_pos rfl] at z2 ⊢
      refine ⟨fun σ' H' => ∃ φ' ρ' S', Le φ H φ' H' ∧ Rs G R φ' S' H' ∧ Rn G R φ' H' ρ' σ' ∧ whL c b f ρ' S' = whL c b BIG ρ S, fun σ' H' hN => ⟨f, Nat.lt_succ_self f, hN⟩, ?_⟩
      refine sb σ1 H2 ρ1 φ2 R S2 rs2 (rn1.le l2) (fun o H4 => match o with
          | .nx σ' => ∃ φ' ρ' S', Le φ H φ' H4 ∧ Rs G R φ' S' H4 ∧ Rn G R φ' H4 ρ' σ' ∧ whL c b f ρ' S' = whL c b BIG ρ S
          | .ct σ' => ∃ φ' ρ' S', Le φ H φ' H4 ∧ Rs G R φ' S' H4 ∧ Rn G R φ' H4 ρ' σ' ∧ whL c b f ρ' S' = whL c b BIG ρ S
          | .bk σ' => Q (.nx σ') H4
          | .rt v => Q (.rt v) H4) (fun y S3 φ3 o H4 e3 l4 rs4 ro => ?_) (fun er S3 φ3 H4 cl dd e3 l4 rs4 xq => he er S3 φ3 H4 cl dd (by rw [z2, e3]; rfl) (l12.trans l4) rs4 xq) (fun e3 => hb (by rw [z2, e3]; rfl))
      obtain ⟨fl, ρ3⟩ := y
      rw [e3, Res.bind_ok] at z2
      cases fl with
      | nx =>
        cases o with
        | nx σ3 => exact ⟨φ3, ρ3, S3, l12.trans l4, rs4, ro, z2.symm⟩
        | _ => exact False.elim ro
      | ct =>
        cases o with
        | ct σ3 => exact ⟨φ3, ρ3, S3, l12.trans l4, rs4, ro, z2.symm⟩
        | _ => exact False.elim ro
      | bk =>
        cases o with
        | bk σ3 => exact hq _ S3 φ3 (Out.nx σ3) H4 z2 (l12.trans l4) rs4 ro
        | _ => exact False.elim ro
      | rt d =>
        cases o with
        | rt v => exact hq _ S3 φ3 (Out.rt v) H4 z2 (l12.trans l4) rs4 ro
        | _ => exact False.elim ro
end
section
variable {T : List Addr} {X : Cx} {E : XK} {st : Stmt} {body : List Stmt} {c tg iter elt : Expr} {ifs : List Expr} {me : ME0} {mc : MT0} {m mb : MS0} {mi : MI0} {g : MG0} {pos p : Pos}
theorem ms_for (hp : PassesOwn (model X.prog X.w) X.A X.env X.xe) (hc : X.calm = true) (hi : MI T X E tg iter mi) (hg : MG T X E tg g) (hb : MSs T X E body mb) (hs : ∀ x, foldedSetIterable iter X.env x = pure x := by intro _; rfl) : MS T X E (.For tg iter body [] pos) (sFor mi g mb) := by
  obtain ⟨ti, pi, si⟩ := hi
  obtain ⟨t, pt, sg⟩ := hg
  obtain ⟨tb, pb, sb⟩ := hb
  exact ⟨_, ps_for hp hc pi pt pb hs, fun σ H ρ φ R S rs rn => Run.bnd (c' := fun (J : It) H1 (Q : Out → Hp → Prop) => ∃ W : Nat → Nat → L2.St → Hp → Prop, (∃ m, W 0 m σ H1) ∧ ∀ i m σ H, W i m σ H →
      (J.stop i H ∧ (endsOf Q).nx σ H) ∨ (J.go i H ∧ ∃ N : L2.St → Hp → Prop, (∀ σ' H', N σ' H' → ∃ m', m' < m ∧ W (i + 1) m' σ' H') ∧ ∀ x H', J.yld i H x H' → t x σ H' fun σ2 H2 => tb { (endsOf Q) with nx := N, ct := N, bk := (endsOf Q).nx } σ2 H2)) (si σ H ρ φ R S rs rn) (fun it S1 φ1 J H1 e0 l1 rs1 r1 => for_run r1 sg sb rs1 (rn.le l1)) fun Q q => q⟩
theorem ms_while (hp : PassesOwn (model X.prog X.w) X.A X.env X.xe) (hc : MT T X E c mc) (hb : MSs T X E body mb) : MS T X E (.While c body [] pos) (sWhile mc mb) := by
  obtain ⟨tc, pc, sc⟩ := hc
  obtain ⟨tb, pb, sb⟩ := hb
  exact ⟨_, ps_while hp pc pb, fun σ H ρ φ R S rs rn => wh_run sc sb rs rn⟩
/-! ### one reading for many places -/
theorem PE.weak {t t' : TE} {e : Expr} (h : PE X e t) (w : ∀ σ H Q, t' σ H Q → t σ H Q) : PE X e t' := ⟨fun pins s σ H Q I q => h.run pins s σ H Q I (w σ H Q q)⟩
theorem PTs.weak {t t' : TT} {es : List Expr} (h : PTs X es t) (w : ∀ σ H Q, t' σ H Q → t σ H Q) : PTs X es t' := ⟨fun pins s σ H Q I q => h.run pins s σ H Q I (w σ H Q q)⟩
theorem PG.weak {t t' : TG} {e : Expr} (h : PG X e t) (w : ∀ v σ H Q, t' v σ H Q → t v σ H Q) : PG X e t' := ⟨fun pins s σ H v u Q I r q => h.run pins s σ H v u Q I r (w v σ H Q q)⟩
end
section
variable {ι : Type} {XX : ι → Cx} {G : Gd} {E : XK} {e : Expr} {es : List Expr}
theorem Run.all {α β : Type} {R φ : List Addr} {H : Hp} {rel : List Addr → Hp → β → α → Prop} {r : Res β} {c : ι → (α → Hp → Prop) → Prop} (h : ∀ i, Run G E R φ H rel r (c i)) : Run G E R φ H rel r (fun Q => ∀ i, c i Q) :=
  fun Q hq he hb i => h i Q hq he hb
theorem all_E {m : ME0} (h : ∀ i, ∃ t, PE (XX i) e t ∧ SndE G E t m) : ∃ t, (∀ i, PE (XX i) e t) ∧ SndE G E t m := by
  refine ⟨fun σ H Q => ∀ i, Classical.choose (h i) σ H Q, fun i => PE.weak (Classical.choose_spec (h i)).1 fun σ H Q q => q i, fun σ H ρ φ R S rs rn => Run.all fun i => (Classical.choose_spec (h i)).2 σ H ρ φ R S rs rn⟩
theorem all_T {m : MT0} (h : ∀ i, ∃ t, PTs (XX i) es t ∧ SndT G E t m) : ∃ t, (∀ i, PTs (XX i) es t) ∧ SndT G E t m := by
  refine ⟨fun σ H Q => ∀ i, Classical.choose (h i) σ H Q, fun i => PTs.weak (Classical.choose_spec (h i)).1 fun σ H Q q => q i, fun σ H ρ φ R S rs rn => Run.all fun i => (Classical.choose_spec (h i)).2 σ H ρ φ R S rs rn⟩
end
/-! ### comprehensions -/
/-- targets of a comprehension: names, and tuples of names; the slots they store -/
def MTs (T : List Addr) (X : Cx) (E : XK) (ifs : List Expr) (m : MT0) : Prop := ∃ t, PTs X ifs t ∧ SndT (X.gd T) E t m
theorem mts_nil {T : List Addr} {X : Cx} {E : XK} : MTs T X E [] mYes := ⟨_, pts_nil, fun σ H ρ φ R S rs rn => Run.ret rs rfl fun Q q => q⟩
theorem mts_one {T : List Addr} {X : Cx} {E : XK} {c : Expr} {m : MT0} (h : MT T X E c m) : MTs T X E [c] m := by
  obtain ⟨t, pt, s⟩ := h
  exact ⟨_, pts_one pt, s⟩
/-- a target that stores the slots vs alone -/
def WipesG (g : TG) (vs : List Nat) : Prop := ∀ v σ H Q Q', (∀ σ2 H2, wipe σ2 vs = wipe σ vs → Q σ2 H2 → Q' σ2 H2) → g v σ H Q → g v σ H Q'
def WipesGs (g : TGs) (vs : List Nat) : Prop := ∀ us σ H Q Q', (∀ σ2 H2, wipe σ2 vs = wipe σ vs → Q σ2 H2 → Q' σ2 H2) → g us σ H Q → g us σ H Q'
theorem wipe_set {σ : L2.St} {i : Nat} {o : Option V} : ∀ {vs : List Nat}, i ∈ vs → wipe (σ.set i o) vs = wipe σ vs
  | [], h => nomatch h
  | v :: vs, h => by
    show (wipe (σ.set i o) vs).set v none = (wipe σ vs).set v none
    by_cases hm : i ∈ vs
    · rw [wipe_set hm]
    · have e : i = v := (List.mem_cons.mp h).resolve_right hm
      subst e
      clear h
      have key : ∀ (us : List Nat), i ∉ us → wipe (σ.set i o) us = (wipe σ us).set i o := by
        intro us
        induction us with
        | nil => intro _; rfl
        | cons u us ih =>
          intro hu
          have h1 : i ≠ u := fun z => hu (by rw [z]; exact List.mem_cons_self)
          show (wipe (σ.set i o) us).set u none = ((wipe σ us).set u none).set i o
          rw [ih fun z => hu (List.mem_cons_of_mem _ z), List.set_comm _ _ h1]
      rw [key vs hm, List.set_set]
theorem wipe_idem {σ : L2.St} {vs : List Nat} : wipe (wipe σ vs) vs = wipe σ vs := by
  have key : ∀ us : List Nat, (∀ u ∈ us, u ∈ vs) → wipe (wipe σ us) vs = wipe σ vs := by
    intro us
    induction us with
    | nil => intro _; rfl
    | cons u us ih =>
      intro h
      show wipe ((wipe σ us).set u none) vs = wipe σ vs
      rw [wipe_set (h u List.mem_cons_self)]
      exact ih fun w hw => h w (List.mem_cons_of_mem _ hw)
  exact key vs fun _ h => h
theorem Rn.wipe {G : Gd} {R φ : List Addr} {H : Hp} {ρ : Rho} {σ : L2.St} (r : Rn G R φ H ρ σ) : ∀ vs : List Nat, Rn G R φ H (wipeD ρ vs) (L2.wipe σ vs)
  | [] => r
  | v :: vs => (Rn.wipe r vs).set_none
theorem wipes_name {i : Nat} {vs : List Nat} (h : i ∈ vs) : WipesG (gName i) vs := fun v σ H Q Q' hq q => hq _ _ (wipe_set h) q
theorem wipes_nil {vs : List Nat} : WipesGs gNil vs := fun us σ H Q Q' hq q => ⟨q.1, hq _ _ rfl q.2⟩
theorem wipes_cons {t : TG} {u : TGs} {vs : List Nat} (h1 : WipesG t vs) (h2 : WipesGs u vs) : WipesGs (gCons t u) vs := fun us σ H Q Q' hq q => by
  obtain ⟨v, r, e, q⟩ := q
  exact ⟨v, r, e, h1 v σ H _ _ (fun σ2 H2 e2 q2 => h2 r σ2 H2 _ _ (fun σ3 H3 e3 q3 => hq σ3 H3 (e3.trans e2) q3) q2) q⟩
theorem wipes_tup {K : PySem.W.Frag} {n : Nat} {t : TGs} {vs : List Nat} (h : WipesGs t vs) : WipesG (gTup K n t) vs := fun v σ H Q Q' hq q => by
  obtain ⟨a, xs, e, h1, h2, q⟩ := q
  exact ⟨a, xs, e, h1, h2, h xs σ H _ _ hq q⟩
/-- a comprehension's target -/
structure MGc (T : List Addr) (X : Cx) (E : XK) (tg : Expr) (vs : List Nat) (t : TG) (g : MG0) : Prop where
  pg : PG X tg t
  snd : SndG (X.gd T) E t g
  wip : WipesG t vs
structure MGcs (T : List Addr) (X : Cx) (E : XK) (tgs : List Expr) (vs : List Nat) (t : TGs) (g : MGs0) : Prop where
  pg : PGs X tgs t
  snd : SndGs (X.gd T) E t g
  wip : WipesGs t vs
section
variable {T : List Addr} {X : Cx} {E : XK} {pos : Pos} {vs : List Nat}
theorem mgc_name {i : Nat} {x : Str} (hN : X.N.Nodup) (hi : X.N[i]? = some x) (hv : i ∈ vs) (hx : Loc X.env.scope x := by first | exact Or.inl rfl | exact Or.inr rfl) (hf : X.fn x = true ∨ X.env.scope.names.lookup x = some .local := by first | exact .inl rfl | exact .inr rfl | assumption) : MGc T X E (.Name x pos) vs (gName i) (gN i) :=
  ⟨pg_name hN hi hx hf, SndG.name, wipes_name hv⟩
theorem mgcs_nil : MGcs T X E [] vs gNil gsNil := ⟨pgs_nil, fun ds us σ H ρ φ R S rs rn r => by
  cases ds with
  | nil =>
    unfold RvL at r
    subst r
    exact Run.ret rs rn fun Q q => ⟨rfl, q⟩
  | cons d ds => exact Run.bad, wipes_nil⟩
theorem mgcs_cons {e : Expr} {es : List Expr} {t : TG} {u : TGs} {g : MG0} {gs : MGs0} (h1 : MGc T X E e vs t g) (h2 : MGcs T X E es vs u gs) (hs : (assignEach (e :: es) X.env).map (·.2) = assign e X.env :: (assignEach es X.env).map (·.2) := by rfl) : MGcs T X E (e :: es) vs (gCons t u) (gsCons g gs) := by
  refine ⟨pgs_cons h1.pg h2.pg hs, fun ds us σ H ρ φ R S rs rn r => ?_, wipes_cons h1.wip h2.wip⟩
  cases ds with
  | nil => exact Run.bad
  | cons d ds =>
    unfold RvL at r
    obtain ⟨v, vr, rfl, r1, r2⟩ := r
    refine Run.bnd (c' := fun σ1 H1 Q => u vr σ1 H1 Q) (h1.snd d v σ H ρ φ R S rs rn r1) (fun ρ1 S1 φ1 σ1 H1 _ l1 rs1 q1 => h2.snd ds vr σ1 H1 ρ1 φ1 R S1 rs1 q1 (RvL.le l1 r2)) fun Q q => ⟨v, vr, rfl, q⟩
theorem mgc_tup {es : List Expr} {k n : Nat} {t : TGs} {gs : MGs0} (hc : X.calm = true) (h : MGcs T X E es vs t gs) (hn : (assignEach es X.env).length = n := by rfl) (hst : (assignEach es X.env).findIdx? (·.1) = none := by rfl) : MGc T X E (.Tuple es k pos) vs (gTup X.K n t) (gTp n gs) := by
  refine ⟨pg_tup hc h.pg hn hst, fun d v σ H ρ φ R S rs rn r => ?_, wipes_tup h.wip⟩
  cases d with
  | tup ds =>
    obtain ⟨a, us, rfl, h1, h2⟩ := Rv.tup_of r
    show Run (X.gd T) E R φ H _ (if ds.length = n then gs ds ρ S else .bad) _
    by_cases hl : ds.length = n
    · rw [if_pos hl]
      exact Run.conv (h.snd ds us σ H ρ φ R S rs rn h2) fun Q q => ⟨a, us, rfl, h1, by rw [← RvL.length h2]; exact hl, q⟩
    · rw [if_neg hl]
      exact Run.bad
  | _ => exact Run.bad
end
section
variable {G : Gd} {E : XK} {R φ : List Addr} {S : Store} {H : Hp}
theorem Res.calm_ok {α : Type} {r : Res α} {a : α} {S : Store} (h : r.calm = .ok a S) : r = .ok a S := by
  cases r with
  | ok b S' => exact h
  | exc e S' => cases h
  | bad => cases h
/-- nothing raised -/
theorem Run.calm {α β : Type} {rel : List Addr → Hp → β → α → Prop} {r : Res β} {c : (α → Hp → Prop) → Prop} (h : Run G E0 R φ H rel r c) : Run G E R φ H rel r.calm c := by
  intro Q hq he hb
  cases r with
  | ok b S' => exact h Q hq (fun e S' φ' H' cl d z => nomatch z) hb
  | exc e S' => exact (hb rfl).elim
  | bad => exact (hb rfl).elim
theorem lc_run {t : TG} {tt : TT} {te : TE} {g : MG0} {mt : MT0} {me : ME0} {it : ItD} {J : It} {ρ : Rho} {σ : L2.St} {vs : List Nat} (rel : RelI G R φ H it J) (sg : SndG G E0 t g) (wg : WipesG t vs) (st : SndT G E0 tt mt) (se : SndE G E0 te me) (rs : Rs G R φ S H) (rn : Rn G R φ H ρ σ) (Q : VK)
    (hq : ∀ ds S' φ' D us H', lcL g mt me BIG 0 it (wipeD ρ vs) [] S = .ok ds S' → H D = none → Le φ H φ' H' → Rs G (D :: R) φ' S' H' → H' D = some (.lst us) → RvL G (D :: R) φ' H' ds us → Q (.ref D) H') (hb : lcL g mt me BIG 0 it (wipeD ρ vs) [] S ≠ .bad) :
    ∀ D, H D = none → ∃ W : Nat → Nat → Hp → Prop, (∃ m, W 0 m (upd H D (.lst []))) ∧ ∀ i m H, W i m H →
      (J.stop i H ∧ Q (.ref D) H) ∨ (J.go i H ∧ ∃ Nx : Hp → Prop, (∀ H', Nx H' → ∃ m', m' < m ∧ W (i + 1) m' H') ∧ ∀ x H', J.yld i H x H' → t x (wipe σ vs) H' fun σ2 H2 => wipe σ2 vs = wipe σ vs ∧ tt σ2 H2 fun b H3 =>
        if b = true then te σ2 H3 fun y H4 => ∃ acc, H4 D = some (.lst acc) ∧ acc.length < sizeLine ∧ Nx (upd H4 D (.lst (acc ++ [y]))) else Nx H3) := by
  intro D hD
  have hR : ∀ a ∈ D :: R, a ∈ R ∨ H a = none := fun a ha => (List.mem_cons.mp ha).elim (fun z => .inr (by rw [z]; exact hD)) .inl
  have frD := rs.fresh hD
  have rn0 : Rn G (D :: R) φ H (wipeD ρ vs) (wipe σ vs) := (rn.reR hR).wipe vs
  -- the state at a turn
  refine ⟨fun i m H' => ∃ φ' S' ds us, Le φ H φ' H' ∧ Rs G (D :: R) φ' S' H' ∧ H' D = some (.lst us) ∧ RvL G (D :: R) φ' H' ds us ∧ lcL g mt me m i it (wipeD ρ vs) ds S' = lcL g mt me BIG 0 it (wipeD ρ vs) [] S, ⟨BIG, φ, S, [], [], Le.new rs hD, rs.reserve hD, upd_same, RvL.nil, rfl⟩, fun i m H1 hW => ?_⟩
  obtain ⟨φ1, S1, ds, us, l1, rs1, hd1, rv1, e⟩ := hW
  cases m with
  | zero => exact (hb e.symm).elim
  | succ f =>
    obtain ⟨r0, r1⟩ := rel (D :: R) hR i φ1 S1 H1 l1 rs1
    cases hg : it.get i S1 with
    | none =>
      have : lcL g mt me (f + 1) i it (wipeD ρ vs) ds S1 = .bad := by unfold lcL; rw [hg]
      exact (hb (e.symm.trans this)).elim
    | some o =>
      cases o with
      | none =>
        have z : lcL g mt me (f + 1) i it (wipeD ρ vs) ds S1 = .ok ds S1 := by unfold lcL; rw [hg]
        exact .inl ⟨r0 hg, hq ds S1 φ1 D us H1 (e.symm.trans z) hD l1 rs1 hd1 rv1⟩
      | some d =>
        have z : lcL g mt me (f + 1) i it (wipeD ρ vs) ds S1 = ((g d (wipeD ρ vs) S1).calm.bind fun ρ1 S2 => (mt ρ1 S2).calm.bind fun b S3 =>
            if b = true then (me ρ1 S3).calm.bind fun y S4 => if ds.length < sizeLine then lcL g mt me f (i + 1) it (wipeD ρ vs) (ds ++ [y]) S4 else .bad
            else lcL g mt me f (i + 1) it (wipeD ρ vs) ds S3) := by
          conv => lhs; unfold lcL
          rw [hg]
        rw [e] at z
        obtain ⟨r2, r3⟩ := r1 d hg
        refine .inr ⟨r2, fun H' => ∃ φ' S' ds us, Le φ H φ' H' ∧ Rs G (D :: R) φ' S' H' ∧ H' D = some (.lst us) ∧ RvL G (D :: R) φ' H' ds us ∧ lcL g mt me f (i + 1) it (wipeD ρ vs) ds S' = lcL g mt me BIG 0 it (wipeD ρ vs) [] S, fun H' hN => ⟨f, Nat.lt_succ_self f, hN⟩, fun x H2 hy => ?_⟩
        obtain ⟨l2, rs2, rv⟩ := r3 x H2 hy
        have l12 := l1.trans l2
        have k12 : ∀ {φ' H'}, Le φ1 H1 φ' H' → H' D = some (.lst us) := fun {φ' H'} l => (l.keep D _ hd1 (fun z => rs1.apart D z List.mem_cons_self) (fun _ z => nomatch z)).1
        have g1 := Run.calm (E := fun _ _ _ => True) (sg d x (wipe σ vs) H2 (wipeD ρ vs) φ1 (D :: R) S1 rs2 (rn0.le l12) rv)
        refine wg x (wipe σ vs) H2 (fun σ2 H3 => ∃ ρ2 S2 φ2, (g d (wipeD ρ vs) S1).calm = .ok ρ2 S2 ∧ Le φ1 H2 φ2 H3 ∧ Rs G (D :: R) φ2 S2 H3 ∧ Rn G (D :: R) φ2 H3 ρ2 σ2) _ (fun σ2 H3 ew hw => ⟨ew.trans wipe_idem, ?_⟩)
          (g1 _ (fun ρ2 S2 φ2 σ2 H3 e2 l3 rs3 rn3 => ⟨ρ2, S2, φ2, e2, l3, rs3, rn3⟩) (fun _ _ _ _ _ _ _ _ _ _ => trivial) (fun e2 => hb (by rw [z, e2]; rfl)))
        obtain ⟨ρ2, S2, φ2, e2, l3, rs3, rn3⟩ := hw
        have z2 := z
        rw [e2, Res.bind_ok] at z2
        refine Run.calm (E := fun _ _ _ => True) (st σ2 H3 ρ2 φ2 (D :: R) S2 rs3 rn3) _ (fun b S3 φ3 b' H4 e3 l4 rs4 eb => ?_) (fun _ _ _ _ _ _ _ _ _ _ => trivial) (fun e3 => hb (by rw [z2, e3]; rfl))
        have eb' : b = b' := eb
        subst eb'
        have z3 := z2
        rw [e3, Res.bind_ok] at z3
        have l14 : Le φ1 H1 φ3 H4 := l2.trans (l3.trans l4)
        cases b with
        | false =>
          rw [if_neg Bool.false_ne_true] at z3 ⊢
          exact ⟨φ3, S3, ds, us, l1.trans l14, rs4, k12 l14, RvL.le l14 rv1, z3.symm⟩
        | true =>
          rw [if_pos rfl] at z3 ⊢
          refine Run.calm (E := fun _ _ _ => True) (se σ2 H4 ρ2 φ3 (D :: R) S3 rs4 (rn3.le l4)) _ (fun y S4 φ4 w H5 e4 l5 rs5 ry => ?_) (fun _ _ _ _ _ _ _ _ _ _ => trivial) (fun e4 => hb (by rw [z3, e4]; rfl))
          rw [e4, Res.bind_ok] at z3
          have l15 : Le φ1 H1 φ4 H5 := l14.trans l5
          have hd5 := k12 l15
          have np : D ∉ φ4 := fun q => rs5.apart D q List.mem_cons_self
          by_cases hl : ds.length < sizeLine
          · rw [if_pos hl] at z3
            -- the list grows
            have lw : ∀ {o : HO} (b : Addr) (u : HO), H5 b = some u → b ≠ D → (upd H5 D o) b = some u := fun b u e5 nb => by rw [upd_ne nb]; exact e5
            have reLe : Le φ H φ4 (upd H5 D (.lst (us ++ [w]))) := by
              have l05 := l1.trans l15
              refine ⟨l05.pre, fun b u eb nb q => ?_, fun b ws eb => ?_, fun b eb => ?_, fun b tb => ?_, fun b ob u eb => lw b _ (l05.frz b ob u eb) (ne_of_none eb hD)⟩
              · have nb' : b ≠ D := ne_of_none eb hD
                exact ⟨lw b u (l05.keep b u eb nb q).1 nb', (l05.keep b u eb nb q).2⟩
              · have q := l05.tups b ws eb
                have nb' : b ≠ D := by
                  rintro rfl
                  rw [hD] at eb
                  cases eb
                exact lw b _ q nb'
              · by_cases nb' : b = D
                · subst nb'
                  exact (eb hD).elim
                · rw [upd_ne nb']
                  exact l05.ne b eb
              · obtain ⟨ps, e9, t9⟩ := l05.tab b tb
                exact ⟨ps, lw b _ e9 (ne_of e9 hd5 (fun z => nomatch z)), t9⟩
            have le5 : ∀ {d : MM.D} {v : V}, Rv G (D :: R) φ4 H5 d v → Rv G (D :: R) φ4 (upd H5 D (.lst (us ++ [w]))) d v := fun {d v} r => Rv.upR (fun b u eb nb => lw b u eb nb) hd5 List.mem_cons_self r
            have le5L : ∀ {d : List MM.D} {v : List V}, RvL G (D :: R) φ4 H5 d v → RvL G (D :: R) φ4 (upd H5 D (.lst (us ++ [w]))) d v := fun {d v} r => RvL.upR (fun b u eb nb => lw b u eb nb) hd5 List.mem_cons_self r
            refine ⟨us, hd5, by rw [← RvL.length rv1]; exact hl, φ4, S4, ds ++ [y], us ++ [w], reLe, ⟨rs5.nd, rs5.len, rs5.apart, fun j u b e6 e7 => ?_, fun b hb' => ?_, fun b hb' => ?_⟩, upd_same, RvL.append (le5L (RvL.le l15 rv1)) (RvL.cons (le5 ry) RvL.nil), z3.symm⟩
            · have ro := rs5.obj j u b e6 e7
              have nb : b ≠ D := by
                rintro rfl
                exact np (List.mem_iff_getElem?.mpr ⟨j, e7⟩)
              obtain ⟨ws, o8, e8, sh8, e9⟩ := ro
              exact ⟨ws, o8, lw b _ e8 nb, sh8, le5L e9⟩
            · by_cases nb : b = D
              · rw [nb, upd_same]
                exact fun q => nomatch q
              · rw [upd_ne nb]
                exact rs5.res b hb'
            · obtain ⟨ps, e9, t9⟩ := rs5.tabs b hb'
              exact ⟨ps, lw b _ e9 (ne_of e9 hd5 (fun z => nomatch z)), t9⟩
          · rw [if_neg hl] at z3
            exact (hb z3).elim
end
end MM

/-! The mirror layer's rules: comprehensions by their syntax, built-ins, defs. -/
namespace MM
open PySem L2 PyProof.Rows
section
variable {G : Gd} {E : XK} {wi : TI} {t : TG} {tt : TT} {te : TE} {mi : MI0} {g : MG0} {mt : MT0} {me : ME0} {vs : List Nat}
theorem lc_snd (si : SndI G E wi mi) (sg : SndG G E0 t g) (wg : WipesG t vs) (st : SndT G E0 tt mt) (se : SndE G E0 te me) : SndE G E (tLc wi t tt te vs) (mLc mi g mt me vs) := by
  intro σ H ρ φ R S rs rn Q hq hx hb
  have e0 : mLc mi g mt me vs ρ S = (mi ρ S).bind fun it S1 => (lcL g mt me BIG 0 it (wipeD ρ vs) [] S1).bind fun ds S2 => .ok (.lst ds) S2 := by
    unfold mLc mLcL
    cases mi ρ S <;> rfl
  rw [e0] at hq hx hb
  refine si σ H ρ φ R S rs rn _ (fun it S1 φ1 J H1 e1 l1 rs1 r1 => ?_) (fun er S' φ' H' cl d er' => hx er S' φ' H' cl d (by rw [er']; rfl)) (fun e1 => hb (by rw [e1]; rfl))
  rw [e1, Res.bind_ok] at hq hx hb
  refine lc_run r1 sg wg st se rs1 (rn.le l1) Q (fun ds S2 φ2 D us H2 e2 hD l2 rs2 h2 rv => ?_) (fun e2 => hb (by rw [e2]; rfl))
  rw [e2, Res.bind_ok] at hq
  have hR : ∀ a ∈ R, a ∈ D :: R ∨ H2 a = none := fun a ha => .inl (List.mem_cons_of_mem _ ha)
  exact hq _ S2 φ2 _ H2 rfl (l1.trans l2) rs2.release (Rv.lst (fun z => rs2.apart D z List.mem_cons_self) (rs1.fresh hD).2 h2 (RvL.reR hR rv))
theorem lcS_snd (si : SndI G E wi mi) (sg : SndG G E0 t g) (wg : WipesG t vs) (st : SndT G E0 tt mt) (se : SndE G E0 te me) : SndE G E (tLc wi t tt te vs) (mLcS mi g mt me vs) := by
  intro σ H ρ φ R S rs rn Q hq hx hb
  have e0 : mLcS mi g mt me vs ρ S = (mi ρ S).bind fun it S1 => (lcL g mt me BIG 0 it (wipeD ρ vs) [] S1).bind fun ds S2 => .ok (.ref S2.length) (S2 ++ [.lst ds]) := by
    unfold mLcS mLcL
    cases mi ρ S <;> rfl
  rw [e0] at hq hx hb
  refine si σ H ρ φ R S rs rn _ (fun it S1 φ1 J H1 e1 l1 rs1 r1 => ?_) (fun er S' φ' H' cl d er' => hx er S' φ' H' cl d (by rw [er']; rfl)) (fun e1 => hb (by rw [e1]; rfl))
  rw [e1, Res.bind_ok] at hq hx hb
  refine lc_run r1 sg wg st se rs1 (rn.le l1) Q (fun ds S2 φ2 D us H2 e2 hD l2 rs2 h2 rv => ?_) (fun e2 => hb (by rw [e2]; rfl))
  rw [e2, Res.bind_ok] at hq
  have l12 := l1.trans l2
  have nH : H D = none := by
    cases h : H D with
    | none => rfl
    | some u => exact ((l1.ne D (by rw [h]; exact fun z => nomatch z)) hD).elim
  refine hq _ _ (φ2 ++ [D]) _ H2 rfl ⟨?_, fun a u ha na q => ⟨(l12.keep a u ha na q).1, fun z => ?_⟩, l12.tups, l12.ne, l12.tab, l12.frz⟩ (rs2.own (rs1.fresh hD).2 (Ro.mkL h2 (RvL.own rv))) ?_
  · obtain ⟨r, er⟩ := l12.pre
    exact ⟨r ++ [D], by rw [er, List.append_assoc]⟩
  · rcases List.mem_append.mp z with z | z
    · exact (l12.keep a u ha na q).2 z
    · rw [List.mem_singleton.mp z, nH] at ha
      cases ha
  · show Rv G R (φ2 ++ [D]) H2 (.ref S2.length) (.ref D)
    unfold Rv
    refine ⟨D, rfl, ?_⟩
    rw [List.getElem?_append_right (by rw [rs2.len]; exact Nat.le_refl _), rs2.len, Nat.sub_self]
    rfl
end
section
variable {T : List Addr} {X : Cx} {E : XK} {elt tg iter : Expr} {ifs : List Expr} {scope : Scope} {own : List (Str × Nat)} {pos : Pos} {mi : MI0} {g : MG0} {mt : MT0} {me : ME0} {t : TG}
/-- what a comprehension's parts are, wherever they stand -/
structure LcOk (T : List Addr) (X : Cx) (elt tg : Expr) (ifs : List Expr) (scope : Scope) (own : List (Str × Nat)) (t : TG) (g : MG0) (mt : MT0) (me : ME0) : Prop where
  tg : ∀ (s : Shared) (H : Hp) (C : Addr) (cl : List (Str × Addr)) (fp : List Addr), MGc T (X.blk s H scope (compEnvC scope cl C X.env) fp) E0 tg (own.map (·.2)) t g
  ifs : ∀ (s : Shared) (H : Hp) (C : Addr) (cl : List (Str × Addr)) (fp : List Addr), MTs T (X.blk s H scope (compEnvC scope cl C X.env) fp) E0 ifs mt
  elt : ∀ (s : Shared) (H : Hp) (C : Addr) (cl : List (Str × Addr)) (fp : List Addr), ME T (X.blk s H scope (compEnvC scope cl C X.env) fp) E0 elt me
theorem LcOk.parts (h : LcOk T X elt tg ifs scope own t g mt me) : ∃ (tt : TT) (te : TE), (∀ (s : Shared) (H : Hp) (C : Addr) (cl : List (Str × Addr)) (fp : List Addr), PTs (X.blk s H scope (compEnvC scope cl C X.env) fp) ifs tt) ∧ (∀ (s : Shared) (H : Hp) (C : Addr) (cl : List (Str × Addr)) (fp : List Addr), PE (X.blk s H scope (compEnvC scope cl C X.env) fp) elt te) ∧
    SndG (X.gd T) E0 t g ∧ WipesG t (own.map (·.2)) ∧ SndT (X.gd T) E0 tt mt ∧ SndE (X.gd T) E0 te me := by
  obtain ⟨tt, pt, st⟩ := all_T (ι := Shared × Hp × Addr × List (Str × Addr) × List Addr) (XX := fun i => X.blk i.1 i.2.1 scope (compEnvC scope i.2.2.2.1 i.2.2.1 X.env) i.2.2.2.2) (G := (X.gd T)) (E := E0) (es := ifs) (m := mt) fun i => h.ifs i.1 i.2.1 i.2.2.1 i.2.2.2.1 i.2.2.2.2
  obtain ⟨te, pe, se⟩ := all_E (ι := Shared × Hp × Addr × List (Str × Addr) × List Addr) (XX := fun i => X.blk i.1 i.2.1 scope (compEnvC scope i.2.2.2.1 i.2.2.1 X.env) i.2.2.2.2) (G := (X.gd T)) (E := E0) (e := elt) (m := me) fun i => h.elt i.1 i.2.1 i.2.2.1 i.2.2.2.1 i.2.2.2.2
  exact ⟨tt, te, fun s H C cl fp => pt (s, H, C, cl, fp), fun s H C cl fp => pe (s, H, C, cl, fp), (h.tg {} (fun _ => none) 0 [] []).snd, (h.tg {} (fun _ => none) 0 [] []).wip, st, se⟩
theorem me_lc (hc : X.calm = true) (hN : X.N.Nodup) (hi : MI T X E tg iter mi) (ok : blkC X.N X.env.scope scope own = true) (h : LcOk T X elt tg ifs scope own t g mt me) (hs : ∀ x, foldedSetIterable iter X.env x = pure x := by intro _; rfl) :
    ME T X E (.ListComp elt [⟨tg, iter, ifs, 0⟩] scope pos) (mLc mi g mt me (own.map (·.2))) := by
  obtain ⟨wi, pi, si⟩ := hi
  obtain ⟨tt, te, pt, pe, sg, wg, st, se⟩ := h.parts
  exact ⟨_, pe_lc hc hN pi (blkOk_by ok) (fun s H C cl fp => (h.tg s H C cl fp).pg) pt pe hs, lc_snd si sg wg st se⟩
theorem me_lcS (hc : X.calm = true) (hN : X.N.Nodup) (hi : MI T X E tg iter mi) (ok : blkC X.N X.env.scope scope own = true) (h : LcOk T X elt tg ifs scope own t g mt me) (hs : ∀ x, foldedSetIterable iter X.env x = pure x := by intro _; rfl) :
    ME T X E (.ListComp elt [⟨tg, iter, ifs, 0⟩] scope pos) (mLcS mi g mt me (own.map (·.2))) := by
  obtain ⟨wi, pi, si⟩ := hi
  obtain ⟨tt, te, pt, pe, sg, wg, st, se⟩ := h.parts
  exact ⟨_, pe_lc hc hN pi (blkOk_by ok) (fun s H C cl fp => (h.tg s H C cl fp).pg) pt pe hs, lcS_snd si sg wg st se⟩
theorem ms_setLc {i : Nat} {y : Str} {py spos : Pos} (hc : X.calm = true) (hN : X.N.Nodup) (hy : X.N[i]? = some y) (hyl : X.env.scope.names.lookup y = some .local) (hsw : swapsWith (.ListComp elt [⟨tg, iter, ifs, 0⟩] scope pos) (some (.Name y py)) spos.line X.env = pure true)
    (hi : MI T X E tg iter mi) (ok : blkC X.N X.env.scope scope own = true) (h : LcOk T X elt tg ifs scope own t g mt me) (hs : ∀ x, foldedSetIterable iter X.env x = pure x := by intro _; rfl) :
    MS T X E (.Assign [.Name y py] (.ListComp elt [⟨tg, iter, ifs, 0⟩] scope pos) spos) (sAsg (mLc mi g mt me (own.map (·.2))) (gN i)) := by
  obtain ⟨wi, pi, si⟩ := hi
  obtain ⟨tt, te, pt, pe, sg, wg, st, se⟩ := h.parts
  exact ⟨_, ps_setLc hc hN hy hyl hsw pi (blkOk_by ok) (fun s H C cl fp => (h.tg s H C cl fp).pg) pt pe hs, SndS.asg (lc_snd si sg wg st se) SndG.name⟩
theorem ms_setLcS {i : Nat} {y : Str} {py spos : Pos} (hc : X.calm = true) (hN : X.N.Nodup) (hy : X.N[i]? = some y) (hyl : X.env.scope.names.lookup y = some .local) (hsw : swapsWith (.ListComp elt [⟨tg, iter, ifs, 0⟩] scope pos) (some (.Name y py)) spos.line X.env = pure true)
    (hi : MI T X E tg iter mi) (ok : blkC X.N X.env.scope scope own = true) (h : LcOk T X elt tg ifs scope own t g mt me) (hs : ∀ x, foldedSetIterable iter X.env x = pure x := by intro _; rfl) :
    MS T X E (.Assign [.Name y py] (.ListComp elt [⟨tg, iter, ifs, 0⟩] scope pos) spos) (sAsg (mLcS mi g mt me (own.map (·.2))) (gN i)) := by
  obtain ⟨wi, pi, si⟩ := hi
  obtain ⟨tt, te, pt, pe, sg, wg, st, se⟩ := h.parts
  exact ⟨_, ps_setLc hc hN hy hyl hsw pi (blkOk_by ok) (fun s H C cl fp => (h.tg s H C cl fp).pg) pt pe hs, SndS.asg (lcS_snd si sg wg st se) SndG.name⟩
end
/-! ### built-ins -/
section
variable {T : List Addr} {X : Cx} {E : XK} {e : Expr} {es : List Expr} {me : ME0} {mr : MA0} {pos p : Pos} {G : Gd}
/-- len -/
def fLen : List D → Store → Res D := fun ds S => match ds with
  | [d] => match seqOf S d with
    | some xs => .ok (.int xs.length) S
    | none => match d with
      | .str z => if z.length ≤ sizeLine then .ok (.int z.length) S else .bad
      | _ => .bad
  | _ => .bad
theorem CallR.orr {f : Value} {r r' : List V → Hp → VK → Prop} (h : CallR X f r) (h' : CallR X f r') : CallR X f (fun xs H Q => r xs H Q ∨ r' xs H Q) := by
  intro pins s σ H xs us Q I rv q
  rcases q with q | q
  · exact h pins s σ H xs us Q I rv q
  · exact h' pins s σ H xs us Q I rv q
theorem o_len : OpL G E (fun xs H Q => (∃ p ys, xs = [V.ref p] ∧ (SqL G.K H p ys ∨ SqT G.K H p ys) ∧ Q (.int ys.length) H) ∨ (∃ z, xs = [V.str z] ∧ z.length ≤ sizeLine ∧ Q (.int z.length) H)) fLen := by
  intro R φ S H ds xs rs rv
  unfold fLen
  split
  · rename_i d
    obtain ⟨v, rfl, h1⟩ := RvL.one_of rv
    split
    · rename_i ys hy
      obtain ⟨a, vs, rfl, h2, h3⟩ := seq_of rs h1 hy
      exact Run.ret rs Rv.int fun Q q => .inl ⟨a, vs, rfl, h2, by rw [← RvL.length h3]; exact q⟩
    · split
      · rename_i z _
        have e := Rv.str_of h1
        subst e
        by_cases hz : z.length ≤ sizeLine
        · rw [if_pos hz]
          exact Run.ret rs Rv.int fun Q q => .inr ⟨z, rfl, hz, q⟩
        · rw [if_neg hz]
          exact Run.bad
      · exact Run.bad
  · exact Run.bad
theorem me_len (hg : Gl X "len") (hm : X.mg "len" = none) (ha : MAn T X E [e] mr) (he : starEach [e] X.env = (false, eval e X.env) :: starEach [] X.env := by rfl) (hpl : (backTo pos (starEach [] X.env)).any (·.1) = false := by rfl) :
    ME T X E (.Call (.Name "len" p) [e] [] pos) (mCall fLen mr) := me_cb (CallR.orr call_len_seq call_len_str) o_len hg hm PySem.boot_len ha (by decide) (by decide) he hpl
/-- all of a list of truth values -/
def blsOf : List D → Option (List Bool)
  | [] => some []
  | .bl b :: r => (blsOf r).map (b :: ·)
  | _ :: _ => none
theorem blsOf_vals {R φ : List Addr} {H : Hp} : ∀ {ds : List D} {vs : List V} {bs : List Bool}, RvL G R φ H ds vs → blsOf ds = some bs → vs = bs.map V.bl
  | [], vs, bs, h, e => by
    unfold RvL at h
    cases e
    exact h
  | .bl b :: r, vs, bs, h, e => by
    unfold RvL at h
    obtain ⟨v, t, rfl, h1, h2⟩ := h
    obtain ⟨cs, e1, rfl⟩ := Option.map_eq_some_iff.mp (show (blsOf r).map (b :: ·) = some bs from e)
    rw [Rv.bl_of h1, blsOf_vals h2 e1]
    rfl
  | .non :: r, vs, bs, h, e => by cases e
  | .int _ :: r, vs, bs, h, e => by cases e
  | .str _ :: r, vs, bs, h, e => by cases e
  | .tup _ :: r, vs, bs, h, e => by cases e
  | .lst _ :: r, vs, bs, h, e => by cases e
  | .frz _ :: r, vs, bs, h, e => by cases e
  | .ref _ :: r, vs, bs, h, e => by cases e
  | .err _ _ _ :: r, vs, bs, h, e => by cases e
def fAll : List D → Store → Res D := fun ds S => match ds with
  | [d] => match lstOf S d with
    | some xs => match blsOf xs with
      | some bs => .ok (.bl (bs.all id)) S
      | none => .bad
    | none => .bad
  | _ => .bad
theorem o_all : OpL G E (rAll G.K) fAll := by
  intro R φ S H ds xs rs rv
  unfold fAll
  split
  · rename_i d
    obtain ⟨v, rfl, h1⟩ := RvL.one_of rv
    split
    · rename_i ys hy
      obtain ⟨a, vs, rfl, h2, h3⟩ := lst_of rs h1 hy
      split
      · rename_i bs hb
        have e := blsOf_vals h3 hb
        subst e
        exact Run.ret rs Rv.bl fun Q q => ⟨a, bs, rfl, h2, q⟩
      · exact Run.bad
    · exact Run.bad
  · exact Run.bad
theorem me_all (hc : X.calm = true) (hg : Gl X "all") (hm : X.mg "all" = none) (ha : MAn T X E [e] mr) (he : starEach [e] X.env = (false, eval e X.env) :: starEach [] X.env := by rfl) (hpl : (backTo pos (starEach [] X.env)).any (·.1) = false := by rfl) :
    ME T X E (.Call (.Name "all" p) [e] [] pos) (mCall fAll mr) := me_cb (cr_all hc) o_all hg hm (by decide +kernel) ha (by decide) (by decide) he hpl
/-- tuple(xs) -/
def fTuple : List D → Store → Res D := fun ds S => match ds with
  | [.tup xs] => .ok (.tup xs) S
  | [d] => match lstOf S d with
    | some xs => .ok (.tup xs) S
    | none => .bad
  | _ => .bad
theorem o_tuple : OpL G E (fun xs H Q => ∃ p ys, xs = [V.ref p] ∧ ((SqL G.K H p ys ∧ ∀ l, H l = none → Q (.ref l) (upd H l (.tup ys))) ∨ (SqT G.K H p ys ∧ Q (.ref p) H))) fTuple := by
  intro R φ S H ds xs rs rv
  unfold fTuple
  split
  · rename_i ys
    obtain ⟨v, rfl, h1⟩ := RvL.one_of rv
    obtain ⟨a, vs, rfl, h2, h3⟩ := Rv.tup_of h1
    exact Run.ret rs h1 fun Q q => ⟨a, vs, rfl, .inr ⟨h2, q⟩⟩
  · rename_i d _
    obtain ⟨v, rfl, h1⟩ := RvL.one_of rv
    split
    · rename_i ys hy
      obtain ⟨a, vs, rfl, h2, h3⟩ := lst_of rs h1 hy
      exact Run.new (o := .tup vs) rs (fun p hp => Rv.tup upd_same (RvL.le (Le.new rs hp) h3)) fun Q q => ⟨a, vs, rfl, .inl ⟨h2, q⟩⟩
    · exact Run.bad
  · exact Run.bad
theorem me_tuple (hg : Gl X "tuple") (hm : X.mg "tuple" = none) (ha : MAn T X E [e] mr) (he : starEach [e] X.env = (false, eval e X.env) :: starEach [] X.env := by rfl) (hpl : (backTo pos (starEach [] X.env)).any (·.1) = false := by rfl) :
    ME T X E (.Call (.Name "tuple" p) [e] [] pos) (mCall fTuple mr) := me_cty call_tuple_of o_tuple hg hm (by decide +kernel) ha (by decide) (by decide) he hpl
/-- int(x) of an int, of a truth value -/
def fInt : List D → Store → Res D := fun ds S => match ds with
  | [.int i] => .ok (.int i) S
  | [.bl k] => .ok (.int (if k then 1 else 0)) S
  | _ => .bad
theorem o_int : OpL G E (fun xs H Q => (∃ i, xs = [V.int i] ∧ Q (.int i) H) ∨ ∃ k, xs = [V.bl k] ∧ Q (.int (if k then 1 else 0)) H) fInt := by
  intro R φ S H ds xs rs rv
  unfold fInt
  split
  · rename_i i
    obtain ⟨v, rfl, h1⟩ := RvL.one_of rv
    have e := Rv.int_of h1
    subst e
    exact Run.ret rs h1 fun Q q => .inl ⟨i, rfl, q⟩
  · rename_i k
    obtain ⟨v, rfl, h1⟩ := RvL.one_of rv
    have e := Rv.bl_of h1
    subst e
    exact Run.ret rs Rv.int fun Q q => .inr ⟨k, rfl, q⟩
  · exact Run.bad
theorem me_int1 (hg : Gl X "int") (hm : X.mg "int" = none) (ha : MAn T X E [e] mr) (he : starEach [e] X.env = (false, eval e X.env) :: starEach [] X.env := by rfl) (hpl : (backTo pos (starEach [] X.env)).any (·.1) = false := by rfl) :
    ME T X E (.Call (.Name "int" p) [e] [] pos) (mCall fInt mr) := me_cty call_int1 o_int hg hm (by decide +kernel) ha (by decide) (by decide) he hpl
/-- max(i, j), min(i, j) -/
def f2L (g : Int → Int → Int) : List D → Store → Res D := fun ds S => match ds with
  | [.int i, .int j] => .ok (.int (g i j)) S
  | _ => .bad
theorem o_2L {g : Int → Int → Int} : OpL G E (fun xs H Q => ∃ i j, xs = [V.int i, V.int j] ∧ Q (.int (g i j)) H) (f2L g) := by
  intro R φ S H ds xs rs rv
  unfold f2L
  split
  · rename_i i j
    obtain ⟨v, w, rfl, h1, h2⟩ := RvL.two_of rv
    have e := Rv.int_of h1
    have e' := Rv.int_of h2
    subst e
    subst e'
    exact Run.ret rs Rv.int fun Q q => ⟨i, j, rfl, q⟩
  · exact Run.bad
abbrev fMax2 := f2L fun i j => if j > i then j else i
abbrev fMin2 := f2L fun i j => if j < i then j else i
theorem me_max2 {e1 e2 : Expr} (hc : X.calm = true) (hg : Gl X "max") (hm : X.mg "max" = none) (ha : MAn T X E [e1, e2] mr) (he : starEach [e1, e2] X.env = (false, eval e1 X.env) :: starEach [e2] X.env := by rfl) (hpl : (backTo pos (starEach [e2] X.env)).any (·.1) = false := by rfl) :
    ME T X E (.Call (.Name "max" p) [e1, e2] [] pos) (mCall fMax2 mr) := me_cb (call_max2 hc) o_2L hg hm (by decide +kernel) ha (by decide) (by decide) he hpl
theorem me_min2 {e1 e2 : Expr} (hc : X.calm = true) (hg : Gl X "min") (hm : X.mg "min" = none) (ha : MAn T X E [e1, e2] mr) (he : starEach [e1, e2] X.env = (false, eval e1 X.env) :: starEach [e2] X.env := by rfl) (hpl : (backTo pos (starEach [e2] X.env)).any (·.1) = false := by rfl) :
    ME T X E (.Call (.Name "min" p) [e1, e2] [] pos) (mCall fMin2 mr) := me_cb (call_min2 hc) o_2L hg hm (by decide +kernel) ha (by decide) (by decide) he hpl
/-- isinstance(x, T), T a built-in class -/
def tyO : Option O → Option String
  | some (.lst _) => some "list"
  | some (.dct _) => some "dict"
  | _ => none
def tyD (S : Store) : D → Option String
  | .non => some "NoneType"
  | .bl _ => some "bool"
  | .int _ => some "int"
  | .str _ => some "str"
  | .tup _ => some "tuple"
  | .lst _ => some "list"
  | .frz _ => none
  | .err _ _ _ => none
  | .ref n => tyO S[n]?
def fIsi (T : String) : D → Store → Res D := fun d S => match tyD S d with
  | some t => match kitB t T with
    | some b => .ok (.bl b) S
    | none => .bad
  | none => .bad
theorem tyD_x {R φ : List Addr} {S : Store} {H : Hp} {d : D} {v : V} {t : String} (rs : Rs G R φ S H) (h : Rv G R φ H d v) (e : tyD S d = some t) : TyX G.K H v (.type t) := by
  cases d with
  | non => cases e; rw [Rv.non_of h]; exact .base .non
  | bl b => cases e; rw [Rv.bl_of h]; exact .base (.bl b)
  | int i => cases e; rw [Rv.int_of h]; exact .base (.int i)
  | str z => cases e; rw [Rv.str_of h]; exact .base (.str z)
  | tup ds =>
    cases e
    obtain ⟨a, vs, rfl, h1, _⟩ := Rv.tup_of h
    rcases h1 with (h1 | ⟨o, h1⟩) | ⟨o, its, n, h1, h2, _⟩
    · exact .base (.tup h1)
    · exact .fTuple h1
    · exact .kTuple h1 h2
  | lst ds =>
    cases e
    obtain ⟨a, vs, rfl, _, _, h1, _⟩ := Rv.lst_of h
    exact .base (.lst h1)
  | frz ds => cases e
  | err c f ds => cases e
  | ref n =>
    change tyO S[n]? = some t at e
    cases ho : S[n]? with
    | none => rw [ho] at e; cases e
    | some o =>
      rw [ho] at e
      cases o with
      | lst ds =>
        cases e
        obtain ⟨a, vs, rfl, _, h1, _⟩ := rs.lst h ho
        exact .base (.lst h1)
      | dct kvs =>
        cases e
        obtain ⟨a, rfl, ha⟩ := Rv.ref_of h
        obtain ⟨vs, u, h1, sh, _⟩ := rs.obj n _ a ho ha
        have sh' : u = .dK _ := sh
        subst sh'
        exact .base (.dK h1)
      | dcT kvs => cases e
      | ins c fs => cases e
      | lk o => cases e
theorem me_isi {TT : String} {x : Str} {q : Pos} (hg : Gl X "isinstance") (hm : X.mg "isinstance" = none) (hgT : Gl X x) (hmT : X.mg x = none) (hvT : bootBuiltins x = some (.type TT)) (h : ME T X E e me) (hnT : x ≠ "__name__" := by decide) (hdT : (x == ("__debug__" : Str)) = false := by decide)
    (he : starEach [e, .Name x q] X.env = (false, eval e X.env) :: starEach [.Name x q] X.env := by rfl) (he2 : starEach [.Name x q] X.env = (false, eval (.Name x q) X.env) :: starEach [] X.env := by rfl) (hpl : (backTo pos (starEach [.Name x q] X.env)).any (·.1) = false := by rfl) :
    ME T X E (.Call (.Name "isinstance" p) [e, .Name x q] [] pos) (mUn (fIsi TT) me) := by
  obtain ⟨t, pt, st⟩ := h
  refine ⟨_, pe_callB call_isi hg hm (by decide +kernel) (pa_cons pt (pa_cons (pe_bltn (v := .ty TT) hgT hmT hvT rfl hnT hdT) pa_nil he2) he) (by decide) (by decide) he hpl, fun σ H ρ φ R S rs rn => ?_⟩
  refine Run.bnd (c' := fun (v : V) H1 (Q : VK) => rIsi X.K [v, .ty TT] H1 Q) (st σ H ρ φ R S rs rn) (fun d S1 φ1 v H1 e0 l1 rs1 r1 => ?_) fun Q q => q
  unfold fIsi
  split
  · rename_i ty ht
    split
    · rename_i b hb
      exact Run.ret rs1 Rv.bl fun Q q => ⟨v, .ty TT, .type ty, .type TT, b, rfl, .ty TT, tyD_x rs1 r1 ht, kit_ty hb, q⟩
    · exact Run.bad
  · exact Run.bad
end
/-! ### a def -/
theorem start_rn {G : Gd} {R φ : List Addr} {H : Hp} {N : List Str} {ds : List D} {vs : List V} (r : RvL G R φ H ds vs) : Rn G R φ H (ds.map some ++ List.replicate (N.length - ds.length) none) (L2.start N vs) := by
  unfold L2.start
  have hl := RvL.length r
  refine ⟨by simp [hl], fun i d e => ?_⟩
  by_cases hi : i < ds.length
  · rw [List.getElem?_append_left (by rw [List.length_map]; exact hi), List.getElem?_map] at e
    obtain ⟨d', e1, e2⟩ := Option.map_eq_some_iff.mp e
    cases e2
    obtain ⟨v, e3, e4⟩ := RvL.get r e1
    refine ⟨v, ?_, e4⟩
    rw [List.getElem?_append_left (by rw [List.length_map, ← hl]; exact hi), List.getElem?_map, e3]
    rfl
  · rw [List.getElem?_append_right (by rw [List.length_map]; omega)] at e
    obtain ⟨h1, h2⟩ := List.getElem?_eq_some_iff.mp e
    rw [List.getElem_replicate] at h2
    cases h2
section
variable {T : List Addr} {P : Program} {w : World} {K : PySem.W.Frag} {mg : Str → Option Value} {base : Heap}
theorem fn_ok {x qual : Str} {st : Stmt} {f : Addr} {fd : FuncData} {N ps : List Str} {k n : Nat} {m : MS0} (F : Fun K x qual st f fd) (S : FnScope N ps (defScope st)) (hn : ps.length = n)
    (hbody : ∀ (cdv : Value) (A : Around) (outer : List Env) (s : Shared) (H : Hp) (E : XK), Room k (A.deeper (envOfC qual (defScope st) s.heap.objs.size f cdv)) →
      MSs T (cxOf (L2.CX P w) P w K mg base N qual (defScope st) f cdv A outer s H E) E (defBody st) m) : FnOk P w K mg base (L2.CX P w) (k + 1) f fd ps (spM ⟨K, mg, T⟩ n (mDef N.length m)) := by
  refine F.okX S (fun vs H Q E h => ?_) (fun cdv A outer s H vs Q E hr h => ?_)
  · obtain ⟨φ, R, S, ds, _, h1, h2, _⟩ := h
    rw [← RvL.length h1, h2, hn]
  · obtain ⟨φ, R, S, ds, rs, rv, hl, hb, hq, hx⟩ := h
    obtain ⟨t, pt, st⟩ := hbody cdv A outer s H E hr
    refine ⟨t, pt, ?_⟩
    have e0 : mDef N.length m ds S = (m (ds.map some ++ List.replicate (N.length - ds.length) none) S).bind fun x S1 => match x.1 with
      | .nx => .ok .non S1
      | .rt d => .ok d S1
      | _ => .bad := rfl
    rw [e0] at hb hq hx
    refine st (L2.start N vs) H _ φ R S rs (start_rn rv) (fun o H' => match o with
      | .nx _ => Q .non H'
      | .rt v => Q v H'
      | _ => False) (fun y S' φ' o H' e1 l1 rs1 ro => ?_) (fun er S' φ' H' cl d e1 l1 rs1 xq => hx er S' φ' H' cl d (by rw [e1]; rfl) l1 rs1 xq) (fun e1 => hb (by rw [e1]; rfl))
    obtain ⟨fl, ρ'⟩ := y
    rw [e1, Res.bind_ok] at hb hq
    cases fl with
    | nx =>
      cases o with
      | nx σ => exact hq .non S' φ' .non H' rfl l1 rs1 Rv.non
      | _ => exact False.elim ro
    | rt d =>
      cases o with
      | rt v => exact hq d S' φ' v H' rfl l1 rs1 ro
      | _ => exact False.elim ro
    | bk => exact (hb rfl).elim
    | ct => exact (hb rfl).elim
end
end MM

/-! Walks over what is a list or a tuple; enumerate over both; calls by keywords. -/
namespace MM
open PySem L2 PyProof.Rows
section
variable {T : List Addr} {X : Cx} {tg : Expr}
/-- what iter(x) gives, by the value x -/
def IterR (X : Cx) (tg : Expr) (r : V → Hp → (It → Hp → Prop) → Prop) : Prop := ∀ (pins : List (Addr × Obj)) (s : Shared) (σ : L2.St) (H : Hp) (x : V) (u : Value) (R : It → Hp → Prop), Inv X pins σ H s → RelV x u → r x H R → wpAny (model X.prog X.w) X.A (pyIter u) (PIE X pins σ tg R) X.xe s
theorem IterR.or {r r' : V → Hp → (It → Hp → Prop) → Prop} (h : IterR X tg r) (h' : IterR X tg r') : IterR X tg (fun x H R => r x H R ∨ r' x H R) := fun pins s σ H x u R I rv q => by
  rcases q with q | q
  · exact h pins s σ H x u R I rv q
  · exact h' pins s σ H x u R I rv q
theorem pi_by {e : Expr} {te : TE} {r : V → Hp → (It → Hp → Prop) → Prop} (he : PE X e te) (h : IterR X tg r) : PI X tg e (fun σ H R => te σ H fun x H1 => r x H1 R) :=
  ⟨fun pins s σ H R I q => thn (he.run pins s σ H _ I q) fun v s1 ⟨x, H1, I1, r1, q1⟩ => h pins s1 σ H1 x v R I1 r1 q1⟩
theorem ir_list : IterR X tg (fun x H R => ∃ a xs, x = .ref a ∧ SqL X.K H a xs ∧ R (Itl X.K a) H) := fun pins s1 σ H1 x v R I1 r1 q1 => by
  obtain ⟨a, xs, e, hq, q⟩ := q1
  subst e
  cases r1
  obtain ⟨its, rv, p, hz⟩ := I1.list hq
  refine wpAny_pyIter_list p.isList ?_
  refine ⟨s1.heap.objs.size, [s1.heap.objs.size], _, _, H1, rfl, I1.kept (t' := s1.toks) fun b o e => Heap.get?_push_of_some _ e, turn_list a _, ⟨_, Heap.get?_push_size _ rfl, rfl, rfl⟩, fun b hb => ?_, q⟩
  have e : b = s1.heap.objs.size := by simpa using hb
  subst e
  exact I1.fpOk (Nat.le_refl _) (I1.hok.fresh (Nat.le_refl _))
theorem ir_tup : IterR X tg (fun x H R => ∃ a xs, x = .ref a ∧ SqT X.K H a xs ∧ R (Itt X.K a) H) := fun pins s1 σ H1 x v R I1 r1 q1 => by
  obtain ⟨a, xs, e, hq, q⟩ := q1
  subst e
  cases r1
  obtain ⟨its, rv, p, hz⟩ := I1.tuple hq
  refine wpAny_pyIter_tuple (show s1.heap.IsTuple a its.toArray from p) ?_
  refine ⟨s1.heap.objs.size, [s1.heap.objs.size], _, _, H1, rfl, I1.kept (t' := s1.toks) fun b o e => Heap.get?_push_of_some _ e, turn_tuple a _, ⟨_, Heap.get?_push_size _ rfl, rfl, rfl⟩, fun b hb => ?_, q⟩
  have e : b = s1.heap.objs.size := by simpa using hb
  subst e
  exact I1.fpOk (Nat.le_refl _) (I1.hok.fresh (Nat.le_refl _))
end
section
variable {T : List Addr} {X : Cx} {E : XK} {e tg : Expr} {me : ME0}
def itOf (S : Store) : D → Option ItD
  | .tup ds => some (itL ds)
  | .lst ds => some (itL ds)
  | .frz ds => some (itL ds)
  | .ref n => (lstAt S n).map fun _ => itS n
  | _ => none
/-- what is a list or a tuple, walked -/
def miA (me : ME0) : MI0 := fun ρ S => (me ρ S).bind fun d S1 => match itOf S1 d with
  | some it => .ok it S1
  | none => .bad
theorem itOf_rel {G : Gd} {R φ : List Addr} {S : Store} {H : Hp} {d : D} {v : V} {it : ItD} (rs : Rs G R φ S H) (r : Rv G R φ H d v) (h : itOf S d = some it) : ∃ a, v = .ref a ∧ ((∃ vs, SqL G.K H a vs ∧ RelI G R φ H it (Itl G.K a)) ∨ (∃ vs, SqT G.K H a vs ∧ RelI G R φ H it (Itt G.K a))) := by
  cases d with
  | tup ds =>
    cases h
    obtain ⟨a, vs, rfl, h1, h2⟩ := Rv.tup_at r
    exact ⟨a, rfl, .inr ⟨vs, .inl (.inl h1), relI_tup h1 h2⟩⟩
  | lst ds =>
    cases h
    obtain ⟨a, vs, rfl, n1, n2, h1, h2⟩ := Rv.lst_of r
    exact ⟨a, rfl, .inl ⟨vs, .inl (.inl h1), relI_list (fun φ' H' l => .inl (.inl (l.keep a _ h1 n1 (fun _ z => nomatch z)).1)) h2⟩⟩
  | frz ds =>
    cases h
    obtain ⟨a, vs, rfl, h1, h2⟩ := Rv.frz_of r
    exact ⟨a, rfl, .inl ⟨vs, h1.sq, relI_list (fun φ' H' l => (Fz.le l h1).sq) h2⟩⟩
  | ref n =>
    obtain ⟨ds, e1, e2⟩ := Option.map_eq_some_iff.mp (show (lstAt S n).map (fun _ => itS n) = some it from h)
    subst e2
    obtain ⟨a, vs, rfl, ha, h1, h2⟩ := rs.lst r (lstAt_of e1)
    exact ⟨a, rfl, .inl ⟨vs, .inl (.inl h1), relI_store ha⟩⟩
  | _ => cases h
theorem mi_any (h : ME T X E e me) : MI T X E tg e (miA me) := by
  obtain ⟨t, pt, s⟩ := h
  refine ⟨_, pi_by pt (IterR.or ir_list ir_tup), fun σ H ρ φ R S rs rn => Run.bnd (c' := fun (x : V) H1 Q => (∃ a xs, x = V.ref a ∧ SqL X.K H1 a xs ∧ Q (Itl X.K a) H1) ∨ (∃ a xs, x = V.ref a ∧ SqT X.K H1 a xs ∧ Q (Itt X.K a) H1)) (s σ H ρ φ R S rs rn) (fun d S1 φ1 v H1 e0 l1 rs1 r1 => ?_) fun Q q => q⟩
  split
  · rename_i it hit
    obtain ⟨a, rfl, h1 | h1⟩ := itOf_rel rs1 r1 hit
    · obtain ⟨vs, h2, h3⟩ := h1
      exact Run.ret (v := Itl X.K a) rs1 h3 fun Q q => .inl ⟨a, vs, rfl, h2, q⟩
    · obtain ⟨vs, h2, h3⟩ := h1
      exact Run.ret (v := Itt X.K a) rs1 h3 fun Q q => .inr ⟨a, vs, rfl, h2, q⟩
  · exact Run.bad
end
/-! ### enumerate over a tuple -/
set_option maxHeartbeats 8000000 in
theorem meets_enumerate_newB1 {v : Value} {o : Obj} {H : Heap → Prop} (B : Begins v o H) :
    Meets (Builtin.«enumerate.__new__» ⟨[.type "enumerate", v], []⟩) (fun _ R s => H s.heap ∧
      R (.ok (.ret (.ref (s.heap.push o).objs.size))) { s with heap := (s.heap.push o).push { cls := .type "enumerate", data := .fields #[.none, .bool false, .ref s.heap.objs.size, rawInt 0, .none, .none] } }) :=
  .of_wp fun prog w A R s h => by
    obtain ⟨hp, g, d, tk, os⟩ := s; obtain ⟨h1, h⟩ := h
    have hsub := sub_enumerate
    have q1 : ∀ {A' : Around} {E : Value → Shared → Prop} {Q : Value → Shared → Prop}, Q (.ref hp.objs.size) ⟨hp.push o, g, d, tk, os⟩ → wpAny (model prog w) A' (pyIter v) Q E ⟨hp, g, d, tk, os⟩ :=
      fun q => B.iter prog w _ _ ⟨hp, g, d, tk, os⟩ _ h1 q
    wp_walk using q1
    refine wpAny_stack_any fun st => wpAny_pure ?_
    split
    · rename_i c _ _ _ _ _
      cases (c == Value.type "enumerate")
      · wp_walk using q1
        exact ⟨_, rfl, h⟩
      · wp_walk using q1
        exact ⟨_, rfl, h⟩
    · wp_walk using q1
      exact ⟨_, rfl, h⟩
theorem call_enumerate_B {prog : Program} {w : World} {A : Around} {E : Value → Shared → Prop} {s : Shared} {v : Value} {o : Obj} {H : Heap → Prop} {Q : Value → Shared → Prop} (B : Begins v o H) (h1 : H s.heap)
    (h : ∀ h', IsEnum h' (s.heap.objs.size + 1) s.heap.objs.size 0 .none → h'.get? s.heap.objs.size = some o → h'.objs.size = s.heap.objs.size + 2 →
      (∀ b o, s.heap.get? b = some o → h'.get? b = some o) → Q (.ref (s.heap.objs.size + 1)) { s with heap := h' }) :
    wpAny (model prog w) A (call (.type "enumerate") [v]) Q E s := by
  refine callType_new F.called_enumerate (by decide) (F.typeCall_enumerate_1 _) (F.newCall_enumerate_1 _) (fun obj => F.args_object_init_2 obj _) F.entry_enumerate_new
    (meets_enumerate_newB1 B) ⟨h1, ?_⟩
  have hz : (s.heap.push o).objs.size = s.heap.objs.size + 1 := Heap.size_push ..
  show _ ∧ _
  rw [hz]
  have he : IsEnum ((s.heap.push o).push { cls := .type "enumerate", data := .fields #[.none, .bool false, .ref s.heap.objs.size, rawInt 0, .none, .none] }) (s.heap.objs.size + 1) s.heap.objs.size 0 .none := by
    have := Heap.get?_push_size (s.heap.push o) (o := { cls := .type "enumerate", data := .fields #[.none, .bool false, .ref s.heap.objs.size, rawInt 0, .none, .none] }) rfl
    rw [hz] at this; exact this
  exact ⟨⟨_, he, rfl⟩, h _ he (Heap.get?_push_of_some _ (Heap.get?_push_size _ B.free)) (by rw [Heap.size_push, hz]) fun b o x => Heap.get?_push_of_some _ (Heap.get?_push_of_some _ x)⟩
theorem pyNext_enumT_end {prog : Program} {w : World} {A : Around} {E : Value → Shared → Prop} {s : Shared} {e it l : Addr} {i : Nat} {items : Array Value} {old : Value} {Q : Option Value → Shared → Prop} (hh : A.in1.handled = none)
    (he : IsEnum s.heap e it i old) (hit : s.heap.IsTupleIter it l i) (hl : s.heap.IsTuple l items) (hx : items[i]? = none)
    (hQ : ∀ h', Heap.ExtBut it s.heap h' → Q none { s with heap := h' }) : wpAny (model prog w) A (pyNext (.ref e)) Q E s := by
  have hT : s.TypeIs (.ref e) "enumerate" := ⟨_, he, rfl⟩
  unfold pyNext
  refine wpAny_bind (wpAny_attempt (wpAny_callSpecial?_slot (name := Str.ofString "__next__") hT F.slot_enumerate_next
    (wpAny_call_entry F.slot_enumerate_next hT F.entry_enumerate_next ?_ (F.args_enumerate_next_1 _))))
  show wpAny _ _ (field (.ref e) 2 >>= _) _ _ _
  refine wpAny_bind (wpAny_field he rfl (x := .ref it) rfl ?_)
  refine wpAny_bind (wpAny_nextOf_tuple_end hh hit hl hx fun h' x he' hx' => ?_)
  obtain ⟨o, ho, hc⟩ := hx'
  refine wpAny_bind (wpAny_isInstance (T := "StopIteration") (b := true) ⟨o, ho, hc⟩ isSubtype_stop ?_)
  exact wpAny_pure (hQ _ he')
/-- the tuple at a, each item in a new pair -/
def IteT (K : PySem.W.Frag) (a : Addr) : It :=
  ⟨fun i H => ∃ (xs : List V) (x : V), SqT K H a xs ∧ xs[i]? = some x, fun i H v H' => ∃ T x, v = .ref T ∧ H T = none ∧ H' = upd H T (.tup [.int (i : Nat), x]) ∧ ∀ xs, SqT K H a xs → xs[i]? = some x, fun i H => ∃ xs : List V, SqT K H a xs ∧ xs.length ≤ i⟩
theorem turn_enumT {P : Program} {w : World} {K : PySem.W.Frag} {elts : List Expr} {kk : Nat} {tpos : Pos} (a e it : Addr) :
    Turn P w K (.Tuple elts kk tpos) (IteT K a) [e, it] e (fun i h => (∃ old, IsEnum h e it ((i : Nat) : Int) old) ∧ h.IsTupleIter it a i ∧ e ≠ it) where
  mem := by simp
  obj := fun i h st b hb => by
    obtain ⟨⟨old, he⟩, ⟨o, ho, hc, hd⟩, _⟩ := st
    have e' : b = e ∨ b = it := by simpa using hb
    rcases e' with z | z
    · rw [z]; exact ⟨_, he, fun v q => nomatch q⟩
    · rw [z]; exact ⟨o, ho, fun v q => by rw [hd] at q; cases q⟩
  keep := fun i h h' st k => let ⟨⟨old, he⟩, hi, hne⟩ := st; ⟨⟨old, k e (by simp) _ he⟩, hi.at fun o q => k it (by simp) o q, hne⟩
  item := by
    intro X hP hw hK hc i pins s σ H E I hf st hg
    subst hP hw hK
    obtain ⟨⟨old, he⟩, hit, hne⟩ := st
    obtain ⟨xs, x, hq, hx⟩ := hg
    obtain ⟨its, rv, p, hz⟩ := I.tuple hq
    obtain ⟨u, hu, ru⟩ := rv.get hx
    have hel : e < s.heap.objs.size := Heap.lt_size he
    have hil : it < s.heap.objs.size := by obtain ⟨_, q, _⟩ := hit; exact Heap.lt_size q
    have hta : a ≠ it := by
      rintro rfl
      obtain ⟨o1, e1, c1, _⟩ := hit
      obtain ⟨o2, e2, c2, _⟩ := show s.heap.IsTuple a its.toArray from p
      rw [e1] at e2
      cases e2
      rw [c1] at c2
      exact absurd c2 (by decide)
    have hea : e ≠ a := by
      rintro rfl
      obtain ⟨o2, e2, c2, _⟩ := show s.heap.IsTuple e its.toArray from p
      rw [show s.heap.get? e = some _ from he] at e2
      cases e2
      exact absurd (show (Value.type "enumerate" : Value) = .type "tuple" from c2) (by decide)
    have hil2 : i < its.toArray.size := by
      have := (List.getElem?_eq_some_iff.mp hu).1
      simpa using this
    refine wpAny_pyNext_enum_itemC (Draws.tuple (by simpa using I.ok.hd hc) it a hta its.toArray) he ⟨hit, p⟩ hil2 hne (by simp [hne, hea]) fun x0 h' tk hx0 ho hst' hT hsz hk => ?_
    have ex0 : x0 = u := by
      have h2 : its.toArray[i]? = some u := by simpa using hu
      have h3 : its.toArray[i]? = some x0 := hx0
      rw [h2] at h3
      exact (Option.some.inj h3).symm
    subst ex0
    refine ⟨_, rfl, wpAny_letOwnedTupleGo_enum (s := { s with heap := h', toks := tk + 1 }) ho fun h'' he' sb => ?_⟩
    have hT2 : h''.get? s.heap.objs.size = some { cls := .type "tuple", data := .seq #[.int i tk, x0] } := (sb.2 _ (Nat.ne_of_gt hel)).trans hT
    have new : ObjOk X.prog X.w (upd H s.heap.objs.size (.tup [.int (i : Nat), x])) h'' s.heap.objs.size (.tup [.int (i : Nat), x]) :=
      ⟨by show 2 ≤ sizeLine; decide, [.int i tk, x0], .cons ⟨_, rfl⟩ (.cons ru .nil), ⟨_, hT2, rfl, _, rfl⟩⟩
    have I1 : Inv X pins σ (upd H s.heap.objs.size (.tup [.int (i : Nat), x])) { s with heap := h'', toks := tk + 1 } :=
      I.turnedNew (ch := [e, it]) (fun b ob hb q => (sb.2 b (fun z => hb (by simp [z]))).trans (hk b ob (fun z => hb (by simp [z])) (fun z => hb (by simp [z])) q)) hf (Nat.le_refl _) new
    refine ⟨.ref s.heap.objs.size, _, I1, rfl, ⟨_, x, rfl, I.hok.fresh (Nat.le_refl _), rfl, fun ys hy => by rw [I.tuple_inj hy hq]; exact hx⟩, ⟨⟨x0, ?_⟩, hst'.1.at fun o q => (sb.2 it (Ne.symm hne)).trans q, hne⟩, fun b hb => ?_⟩
    · have e1 : ((i + 1 : Nat) : Int) = (i : Int) + 1 := by omega
      rw [e1]; exact he'
    · have hb' : b < s.heap.objs.size := by
        have e' : b = e ∨ b = it := by simpa using hb
        rcases e' with z | z
        · rw [z]; exact hel
        · rw [z]; exact hil
      rw [upd_ne (Nat.ne_of_lt hb')]
      exact (hf b hb).1
  done := by
    intro X hP hw hK hc i pins s σ H E I hf st hg
    subst hP hw hK
    obtain ⟨⟨old, he⟩, hit, hne⟩ := st
    obtain ⟨xs, hq, hx⟩ := hg
    obtain ⟨its, rv, p, hz⟩ := I.tuple hq
    obtain ⟨f0, f1, f2, f3, f4, f5⟩ := hf it (by simp)
    have hl := rv.length
    exact pyNext_enumT_end (by simpa using I.ok.hd hc) he hit p (by simp; omega) fun h' eb => ⟨rfl, I.turned (t' := s.toks) (fun b o hb q => eb b o hb q) f0 f1 f3 f4 f5⟩
  self := fun A i s Q E st h => let ⟨⟨_, he⟩, _⟩ := st; wpAny_pyIter_enum he h
section
variable {T : List Addr} {X : Cx} {E : XK} {e : Expr} {mr : MA0} {p pos tpos : Pos} {elts : List Expr} {kk : Nat}
def iEnumA (K : PySem.W.Frag) (ta : TA) : TI := fun σ H R => ta σ H fun vs H1 => ∃ a, vs = [.ref a] ∧ ((∃ xs, SqL K H1 a xs ∧ R (Ite K a) H1) ∨ (∃ xs, SqT K H1 a xs ∧ R (IteT K a) H1))
theorem pi_enumA {ta : TA} (hg : Gl X "enumerate") (hm : X.mg "enumerate" = none) (ha : PA X [e] ta) (hs : starEach [e] X.env = [(false, eval e X.env)] := by rfl) :
    PI X (.Tuple elts kk tpos) (.Call (.Name "enumerate" p) [e] [] pos) (iEnumA X.K ta) := by
  refine ⟨fun pins s σ H R I h => ?_⟩
  refine Call_ (ld_blt I hg hm boot_enumerate (PyProof.Rows.callWith_type1 (thn (ha.run pos pins s σ H _ I h) fun us s1 ⟨vs, H1, I1, r1, q1⟩ => ?_) hs rfl))
  obtain ⟨a, ex, hq⟩ := q1
  subst ex
  cases r1 with
  | cons r rr =>
    cases rr
    cases r
    have fin : ∀ b, b ∈ [s1.heap.objs.size + 1, s1.heap.objs.size] → s1.heap.objs.size ≤ b := fun b hb => by
      have e' : b = s1.heap.objs.size + 1 ∨ b = s1.heap.objs.size := by simpa using hb
      rcases e' with z | z
      · rw [z]; exact Nat.le_add_right _ _
      · rw [z]; exact Nat.le_refl _
    rcases hq with ⟨xs, hq, q⟩ | ⟨xs, hq, q⟩
    · obtain ⟨its, rv, p', hz⟩ := I1.list hq
      refine call_enumerate_list p'.isList fun h' he hit hsz hk => wpAny_pyIter_enum he ?_
      have I2 : Inv X pins σ H1 { s1 with heap := h' } := I1.kept (t' := s1.toks) hk
      exact ⟨s1.heap.objs.size + 1, [s1.heap.objs.size + 1, s1.heap.objs.size], _, _, H1, rfl, I2, turn_enum a (s1.heap.objs.size + 1) s1.heap.objs.size, ⟨⟨.none, he⟩, hit, Nat.succ_ne_self _⟩, fun b hb => I1.fpOk (fin b hb) (I1.hok.fresh (fin b hb)), q⟩
    · obtain ⟨its, rv, p', hz⟩ := I1.tuple hq
      refine call_enumerate_B (begins_tuple a its.toArray) p' fun h' he hit hsz hk => wpAny_pyIter_enum he ?_
      have I2 : Inv X pins σ H1 { s1 with heap := h' } := I1.kept (t' := s1.toks) hk
      exact ⟨s1.heap.objs.size + 1, [s1.heap.objs.size + 1, s1.heap.objs.size], _, _, H1, rfl, I2, turn_enumT a (s1.heap.objs.size + 1) s1.heap.objs.size, ⟨⟨.none, he⟩, ⟨_, hit, rfl, rfl⟩, Nat.succ_ne_self _⟩, fun b hb => I1.fpOk (fin b hb) (I1.hok.fresh (fin b hb)), q⟩
/-- enumerate of a list or tuple by value -/
def miE (mr : MA0) : MI0 := fun ρ S => (mr ρ S).bind fun ds S1 => match ds with
  | [.tup xs] => .ok (itE xs) S1
  | [.lst xs] => .ok (itE xs) S1
  | _ => .bad
theorem relI_pair {G : Gd} {R φ : List Addr} {H : Hp} {ds : List D} {vs : List V} (r : RvL G R φ H ds vs) {J : It} (hs : ∀ i φ' H', Le φ H φ' H' → vs.length ≤ i → J.stop i H') (hg : ∀ i φ' H' x, Le φ H φ' H' → vs[i]? = some x → J.go i H' ∧ ∀ v H2, J.yld i H' v H2 → ∃ T, v = .ref T ∧ H' T = none ∧ H2 = upd H' T (.tup [.int (i : Nat), x])) : RelI G R φ H (itE ds) J := by
  intro R' hR i φ1 S1 H1 l rs
  refine ⟨fun e => hs i φ1 H1 l ?_, fun d e => ?_⟩
  · have e' : ds[i]?.map (fun d => D.tup [.int i, d]) = none := Option.some.inj e
    rw [← RvL.length r]
    exact List.getElem?_eq_none_iff.mp (Option.map_eq_none_iff.mp e')
  · have e' : ds[i]?.map (fun d => D.tup [.int i, d]) = some d := Option.some.inj e
    obtain ⟨d0, e1, rfl⟩ := Option.map_eq_some_iff.mp e'
    obtain ⟨v, e2, e3⟩ := RvL.get r e1
    obtain ⟨g1, g2⟩ := hg i φ1 H1 v l e2
    refine ⟨g1, fun x H' hy => ?_⟩
    obtain ⟨T, rfl, hT, rfl⟩ := g2 x H' hy
    have ln := Le.new rs (o := .tup [.int (i : Nat), v]) hT
    exact ⟨ln, rs.new hT, Rv.tup upd_same (RvL.cons Rv.int (RvL.cons (Rv.le ln (Rv.le l (Rv.reR hR e3))) RvL.nil))⟩
theorem mi_enum (hg : Gl X "enumerate") (hm : X.mg "enumerate" = none) (ha : MAn T X E [e] mr) (hs : starEach [e] X.env = [(false, eval e X.env)] := by rfl) :
    MI T X E (.Tuple elts kk tpos) (.Call (.Name "enumerate" p) [e] [] pos) (miE mr) := by
  obtain ⟨⟨t, pt, s⟩, _⟩ := ha
  refine ⟨_, pi_enumA hg hm pt hs, fun σ H ρ φ R S rs rn => Run.bnd (c' := fun (vs : List V) H1 Q => ∃ a, vs = [V.ref a] ∧ ((∃ xs, SqL X.K H1 a xs ∧ Q (Ite X.K a) H1) ∨ (∃ xs, SqT X.K H1 a xs ∧ Q (IteT X.K a) H1))) (s σ H ρ φ R S rs rn) (fun ds S1 φ1 vs H1 e0 l1 rs1 r1 => ?_) fun Q q => q⟩
  split
  · rename_i xs
    obtain ⟨v, rfl, h1⟩ := RvL.one_of r1
    obtain ⟨a, vs, rfl, h2, h3⟩ := Rv.tup_at h1
    have rel : RelI (X.gd T) R φ1 H1 (itE xs) (IteT X.K a) := relI_pair h3 (fun i φ' H' l hl => ⟨vs, SqT.le (G := X.gd T) l h2, hl⟩) fun i φ' H' x l hx => ⟨⟨vs, x, SqT.le (G := X.gd T) l h2, hx⟩, fun v H2 hy => by
      obtain ⟨Ta, y, e1, e2, e3, e4⟩ := hy
      have e5 := e4 vs (SqT.le (G := X.gd T) l h2)
      rw [hx] at e5
      cases e5
      exact ⟨Ta, e1, e2, e3⟩⟩
    exact Run.ret (v := IteT X.K a) rs1 rel fun Q q => ⟨a, rfl, .inr ⟨vs, .inl (.inl h2), q⟩⟩
  · rename_i xs
    obtain ⟨v, rfl, h1⟩ := RvL.one_of r1
    obtain ⟨a, vs, rfl, n1, n2, h2, h3⟩ := Rv.lst_of h1
    have hq : ∀ φ' H', Le φ1 H1 φ' H' → SqL X.K H' a vs := fun φ' H' l => .inl (.inl (l.keep a _ h2 n1 (fun _ z => nomatch z)).1)
    have rel : RelI (X.gd T) R φ1 H1 (itE xs) (Ite X.K a) := relI_pair h3 (fun i φ' H' l hl => ⟨vs, hq φ' H' l, hl⟩) fun i φ' H' x l hx => ⟨⟨vs, x, hq φ' H' l, hx⟩, fun v H2 hy => by
      obtain ⟨Ta, y, e1, e2, e3, e4⟩ := hy
      have e5 := e4 vs (hq φ' H' l)
      rw [hx] at e5
      cases e5
      exact ⟨Ta, e1, e2, e3⟩⟩
    exact Run.ret (v := Ite X.K a) rs1 rel fun Q q => ⟨a, rfl, .inl ⟨vs, .inl (.inl h2), q⟩⟩
  · exact Run.bad
end
/-! ### calls by keywords -/
section
variable {T : List Addr} {X : Cx} {E : XK} {k n : Nat} {f : Addr} {fd : FuncData} {ps ks : List Str} {x : Str} {m : List D → Store → Res D} {p pos kpos : Pos} {e : Expr} {es : List Expr} {kws : List Keyword} {me : ME0} {mr mk : MA0} {nm : Option Str}
/-- n1 by place, then n2 by name, in the order ix -/
def perm {α : Type} (n1 n2 : Nat) (ix : List Nat) (us ws : List α) : List α := if us.length = n1 ∧ ws.length = n2 then ix.filterMap fun i => (us ++ ws)[i]? else []
def MKn (T : List Addr) (X : Cx) (E : XK) (kws : List Keyword) (m : MA0) : Prop := (∃ t, PK X kws t ∧ SndA (X.gd T) E t m) ∧ ∀ ρ S ds S', m ρ S = .ok ds S' → ds.length = kws.length
theorem mk_nil : MKn T X E [] mNil := ⟨⟨_, pk_nil, fun σ H ρ φ R S rs rn => Run.ret rs RvL.nil fun Q q => q⟩, fun ρ S ds S' h => by cases h; rfl⟩
theorem mk_cons (ha : ME T X E e me) (hr : MKn T X E kws mr) : MKn T X E (⟨nm, e, kpos⟩ :: kws) (mCons me mr) := by
  obtain ⟨ta, pa, sa⟩ := ha
  obtain ⟨⟨tr, pr, sr⟩, hl⟩ := hr
  refine ⟨⟨_, pk_cons pa pr, fun σ H ρ φ R S rs rn => Run.bnd (sa σ H ρ φ R S rs rn) fun d S1 φ1 x H1 _ l1 rs1 r1 => Run.bnd (sr σ H1 ρ φ1 R S1 rs1 (rn.le l1)) fun ds S2 φ2 xs H2 _ l2 rs2 r2 => Run.ret rs2 (RvL.cons (Rv.le l2 r1) r2) fun Q q => q⟩, fun ρ S ds S' h => ?_⟩
  unfold mCons at h
  cases h1 : me ρ S with
  | ok x S1 =>
    rw [h1] at h
    cases h2 : mr ρ S1 with
    | ok xs S2 =>
      rw [Res.bind_ok, h2] at h
      cases h
      rw [List.length_cons, List.length_cons, hl _ _ _ _ h2]
    | exc e S2 => rw [Res.bind_ok, h2] at h; cases h
    | bad => rw [Res.bind_ok, h2] at h; cases h
  | exc e S2 => rw [h1] at h; cases h
  | bad => rw [h1] at h; cases h
def mCallK (f : List D → Store → Res D) (n1 n2 : Nat) (ix : List Nat) (ma mk : MA0) : ME0 := fun ρ S => (ma ρ S).bind fun us S1 => (mk ρ S1).bind fun ws S2 => f (perm n1 n2 ix us ws) S2
theorem Vals.pick {vs : List V} {us : List Value} (r : Vals vs us) : ∀ ix : List Nat, Vals (ix.filterMap fun i => vs[i]?) (ix.filterMap fun i => us[i]?)
  | [] => .nil
  | i :: ix => by
    rw [List.filterMap_cons, List.filterMap_cons]
    cases h : vs[i]? with
    | none =>
      rw [Vals.none_of r h]
      exact Vals.pick r ix
    | some v =>
      obtain ⟨u, e1, e2⟩ := Vals.get r h
      rw [e1]
      exact .cons e2 (Vals.pick r ix)
theorem RvL.pick {G : Gd} {R φ : List Addr} {H : Hp} {ds : List D} {vs : List V} (r : RvL G R φ H ds vs) : ∀ ix : List Nat, RvL G R φ H (ix.filterMap fun i => ds[i]?) (ix.filterMap fun i => vs[i]?)
  | [] => RvL.nil
  | i :: ix => by
    rw [List.filterMap_cons, List.filterMap_cons]
    cases h : ds[i]? with
    | none =>
      have h2 : vs[i]? = none := by
        rw [List.getElem?_eq_none_iff] at h ⊢
        rw [← RvL.length r]
        exact h
      rw [h2]
      exact RvL.pick r ix
    | some d =>
      obtain ⟨v, e1, e2⟩ := RvL.get r h
      rw [e1]
      exact RvL.cons e2 (RvL.pick r ix)
/-- how a call with keywords binds -/
def KTo (K : PySem.W.Frag) (fd : FuncData) (ps ks : List Str) (n1 n2 : Nat) (ix : List Nat) : Prop := ∀ (s : Shared) (us ws : List Value), K.In s.heap → us.length = n1 → ws.length = n2 → BindsTo s fd ⟨us, ks.zip ws⟩ (ps.zip (perm n1 n2 ix us ws))
theorem KTo.kb {K : PySem.W.Frag} {n1 n2 : Nat} {ix : List Nat} (h : KTo K fd ps ks n1 n2 ix) (hp : 0 < ps.length) : KBinds K fd ps ks (perm n1 n2 ix) (perm n1 n2 ix) where
  to := fun s us ws hk hl => by
    by_cases hc : us.length = n1 ∧ ws.length = n2
    · exact h s us ws hk hc.1 hc.2
    · unfold perm at hl
      rw [if_neg hc] at hl
      rw [List.length_nil] at hl
      omega
  rel := fun {vs us zs ws} r rz => by
    unfold perm
    rw [Vals.length r, Vals.length rz]
    split
    · exact Vals.pick (Vals.append r rz) ix
    · exact .nil
theorem SndE.callK {G : Gd} {n1 n2 : Nat} {ix : List Nat} {ta tk : TA} (ha : SndA G E ta mr) (hk : SndA G E tk mk) (hn : ∀ ρ S ds S', mr ρ S = .ok ds S' → ds.length = n1) (hn2 : ∀ ρ S ds S', mk ρ S = .ok ds S' → ds.length = n2) (hix : ∀ us ws : List D, us.length = n1 → ws.length = n2 → (perm n1 n2 ix us ws).length = n) :
    SndE G E (tCallK (spM G n m) (perm n1 n2 ix) E ta tk) (mCallK m n1 n2 ix mr mk) := fun σ H ρ φ R S rs rn =>
  Run.bnd (c' := fun us H1 Q => tk σ H1 fun ws H2 => spM G n m (perm n1 n2 ix us ws) H2 Q E) (ha σ H ρ φ R S rs rn) fun ds S1 φ1 xs H1 e l1 rs1 r1 =>
    Run.bnd (c' := fun ws H2 Q => spM G n m (perm n1 n2 ix xs ws) H2 Q E) (hk σ H1 ρ φ1 R S1 rs1 (rn.le l1)) fun es S2 φ2 ys H2 e2 l2 rs2 r2 => fun Q hq he hb => by
      refine ⟨φ2, R, S2, perm n1 n2 ix ds es, rs2, ?_, hix _ _ (hn _ _ _ _ e) (hn2 _ _ _ _ e2), hb, hq, he⟩
      unfold perm
      rw [RvL.length r1, RvL.length r2]
      split
      · exact RvL.pick (RvL.append (RvL.le l2 r1) r2) ix
      · exact RvL.nil
theorem me_callK {n1 n2 : Nat} {ix : List Nat} (F : FnOk X.prog X.w X.K X.mg X.base (L2.CX X.prog X.w) k f fd ps (spM (X.gd T) n m)) (hr : Room k X.A) (hg : Gl X x) (hm : X.mg x = some (.ref f)) (hk : PySem.W.keepIn X.K (.ref f) = true) (hb : KTo X.K fd ps ks n1 n2 ix) (hp : 0 < ps.length)
    (hx : Passes (L2.CX X.prog X.w) X E) (ha : MAn T X E (e :: es) mr) (hkw : MKn T X E kws mk) (hix : ∀ us ws : List D, us.length = n1 → ws.length = n2 → (perm n1 n2 ix us ws).length = n) (hn : (e :: es).length = n1 := by rfl) (hn2 : kws.length = n2 := by rfl)
    (hall : (backToKw pos (keywordEach kws X.env)).all (·.1.isSome) = true := by rfl) (hks : (backToKw pos (keywordEach kws X.env)).filterMap (·.1) = ks := by rfl)
    (hdb : (x == ("__debug__" : Str)) = false := by decide) (he : starEach (e :: es) X.env = (false, eval e X.env) :: starEach es X.env := by rfl)
    (hpl : ((backTo pos (starEach (e :: es) X.env)).any (·.1) || (backToKw pos (keywordEach kws X.env)).any (·.1.isNone)) = false := by rfl) : ME T X E (.Call (.Name x p) (e :: es) kws pos) (mCallK m n1 n2 ix mr mk) := by
  obtain ⟨⟨tr, pr, sr⟩, hl⟩ := ha
  obtain ⟨⟨tk, pk, sk⟩, hl2⟩ := hkw
  exact ⟨_, pe_callK F hr hg hm hk (hb.kb hp) hx pr pk hall hks hdb he hpl, SndE.callK sr sk (fun ρ S ds S' h => (hl ρ S ds S' h).trans hn) (fun ρ S ds S' h => (hl2 ρ S ds S' h).trans hn2) hix⟩
/-- by keywords alone -/
theorem pe_callK0 {CX : CXT} {sp : Sp} {tk : TA} {g : List Value → List Value → List Value} {gV : List V → List V → List V} (F : FnOk X.prog X.w X.K X.mg X.base CX k f fd ps sp) (hr : Room k X.A) (hg : Gl X x) (hm : X.mg x = some (.ref f)) (hk : PySem.W.keepIn X.K (.ref f) = true) (hb : KBinds X.K fd ps ks g gV) (hx : Passes CX X E)
    (hkw : PK X kws tk) (hall : (backToKw pos (keywordEach kws X.env)).all (·.1.isSome) = true := by rfl) (hks : (backToKw pos (keywordEach kws X.env)).filterMap (·.1) = ks := by rfl)
    (hdb : (x == ("__debug__" : Str)) = false := by decide)
    (hpl : ((backTo pos (starEach [] X.env)).any (·.1) || (backToKw pos (keywordEach kws X.env)).any (·.1.isNone)) = false := by rfl) :
    PE X (.Call (.Name x p) [] kws pos) (tCallK sp gV E tNil tk) := by
  refine ⟨fun pins s σ H Q I h => ?_⟩
  refine wpAny_Call_Name_kw (ld_glob I hg hm ?_ hdb)
  refine PySem.W.callWith_KW0 (h₀ := X.base) I.ok.mod.kin hk hall ?_ hpl
  refine thn (hkw.run pos pins s σ H _ I h) fun ws s2 ⟨zs, H2, I2, rz, q2⟩ => ⟨I2.kIn, ?_⟩
  rw [hks]
  exact run_fnk F hr hb hx I2 .nil rz q2
theorem me_callK0 {n2 : Nat} {ix : List Nat} (F : FnOk X.prog X.w X.K X.mg X.base (L2.CX X.prog X.w) k f fd ps (spM (X.gd T) n m)) (hr : Room k X.A) (hg : Gl X x) (hm : X.mg x = some (.ref f)) (hk : PySem.W.keepIn X.K (.ref f) = true) (hb : KTo X.K fd ps ks 0 n2 ix) (hp : 0 < ps.length)
    (hx : Passes (L2.CX X.prog X.w) X E) (hkw : MKn T X E kws mk) (hix : ∀ us ws : List D, us.length = 0 → ws.length = n2 → (perm 0 n2 ix us ws).length = n) (hn2 : kws.length = n2 := by rfl)
    (hall : (backToKw pos (keywordEach kws X.env)).all (·.1.isSome) = true := by rfl) (hks : (backToKw pos (keywordEach kws X.env)).filterMap (·.1) = ks := by rfl)
    (hdb : (x == ("__debug__" : Str)) = false := by decide)
    (hpl : ((backTo pos (starEach [] X.env)).any (·.1) || (backToKw pos (keywordEach kws X.env)).any (·.1.isNone)) = false := by rfl) : ME T X E (.Call (.Name x p) [] kws pos) (mCallK m 0 n2 ix mNil mk) := by
  obtain ⟨⟨tk, pk, sk⟩, hl2⟩ := hkw
  exact ⟨_, pe_callK0 F hr hg hm hk (hb.kb hp) hx pk hall hks hdb hpl, SndE.callK (ta := tNil) (fun σ H ρ φ R S rs rn => Run.ret rs RvL.nil fun Q q => q) sk (fun ρ S ds S' h => by cases h; rfl) (fun ρ S ds S' h => (hl2 ρ S ds S' h).trans hn2) hix⟩
end
end MM

/-! next(elt for target in iter if test, None): a generator expression that is drawn once. -/
namespace MM
open PySem L2 PyProof.Rows
/-- the block of a generator expression, run from s -/
abbrev Cx.gn (X : Cx) (s : Shared) (H : Hp) (cenv : Env) (fp : List Addr) : Cx :=
  { X with A := X.A.in1.in1.deeper cenv, s_0 := s, H_0 := H, env := cenv, outer := X.stack, stack := cenv :: X.stack, ex := fp, fn := fun _ => false, pn := [], xe := fun _ _ => False }
structure GnOk (N : List Str) (sc scope : Scope) (own : List (Str × Nat)) : Prop where
  kind : scope.kind = .function
  co : scope.isCoroutine = false
  cell : ∀ y ∈ scope.names, y.2 ≠ .cell
  dot : scope.names.lookup (".0" : Str) = some NameKind.local
  uniq : ∀ y ∈ scope.names, scope.names.lookup y.1 = some y.2
  ix : ∀ p ∈ own, N[p.2]? = some p.1
  free : ∀ y ∈ scope.names, y.2 = .free → sc.names.lookup y.1 = some .cell ∨ sc.names.lookup y.1 = some .free
  own : ∀ y ∈ scope.names, y.2 = .local → y.1 ∈ own.map (·.1) ∨ y.1 ∉ N
def gnC (N : List Str) (sc scope : Scope) (own : List (Str × Nat)) : Bool :=
  (match scope.kind with | .function => true | _ => false) && !scope.isCoroutine && (scope.names.all fun y => match y.2 with | .cell => false | _ => true) && decide (scope.names.lookup (".0" : Str) = some NameKind.local) &&
    (scope.names.all fun y => decide (scope.names.lookup y.1 = some y.2)) && (own.all fun p => decide (N[p.2]? = some p.1)) &&
    (scope.names.all fun y => match y.2 with
      | .free => (match sc.names.lookup y.1 with | some .cell => true | some .free => true | _ => false)
      | .local => decide (y.1 ∈ own.map (·.1)) || decide (y.1 ∉ N)
      | _ => true)
theorem gnOk_by {N : List Str} {sc scope : Scope} {own : List (Str × Nat)} (h : gnC N sc scope own = true) : GnOk N sc scope own := by
  unfold gnC at h
  simp only [Bool.and_eq_true, List.all_eq_true, decide_eq_true_eq, Bool.not_eq_true'] at h
  obtain ⟨⟨⟨⟨⟨⟨h1, h2⟩, h3⟩, h4⟩, h5⟩, h6⟩, h7⟩ := h
  refine ⟨?_, h2, fun y hy e => ?_, h4, h5, h6, fun y hy e => ?_, fun y hy e => ?_⟩
  · cases hk : scope.kind with
    | function => rfl
    | _ => rw [hk] at h1; cases h1
  · have := h3 y hy
    rw [e] at this
    cases this
  · have := h7 y hy
    rw [e] at this
    cases hl : sc.names.lookup y.1 with
    | none => rw [hl] at this; cases this
    | some k =>
      rw [hl] at this
      cases k with
      | cell => exact .inl rfl
      | free => exact .inr rfl
      | _ => cases this
  · have := h7 y hy
    rw [e] at this
    simpa using this
section
variable {X : Cx} {pins : List (Addr × Obj)} {σ : L2.St} {H : Hp} {s : Shared}
theorem gen_start {scope : Scope} {own : List (Str × Nat)} {fp : List Addr} {code : Value} {h' : Heap} {m0 : Str → Option Value} {g' : Array GenState} {tk : Nat} (I : Inv X pins σ H s) (ok : GnOk X.N X.env.scope scope own) (hN : X.N.Nodup) (hA : X.A.handled = none) (hfp : ∀ b ∈ fp, FpOk X pins H b ∧ b < s.heap.objs.size)
    (kp : ∀ b o, s.heap.get? b = some o → h'.get? b = some o) (hn : h'.Ns s.heap.objs.size m0) (hg : AllBare g') :
    Inv (Cx.gn X s H (genEnv scope (cloFrom X.env.cells scope.names []) s.heap.objs.size code builtinsNs X.env) fp) [] (wipe σ (own.map (·.2))) H { s with heap := h', gens := g', toks := tk } := by
  have hfree : ∀ y ∈ scope.names, y.2 = .free → ∃ c, X.env.cells.lookup y.1 = some c := fun y hy e => by
    rcases ok.free y hy e with k | k
    · exact I.ok.has _ (.inl k)
    · exact I.ok.has _ (.inr k)
  generalize hcenv : genEnv scope (cloFrom X.env.cells scope.names []) s.heap.objs.size code builtinsNs X.env = cenv
  have hL : cenv.locals = s.heap.objs.size := by rw [← hcenv]; rfl
  have hcl : cenv.cells = cloFrom X.env.cells scope.names [] := by rw [← hcenv]; rfl
  have hsc : cenv.scope = scope := by rw [← hcenv]; rfl
  have cm : ∀ {y c}, cenv.cells.lookup y = some c → X.env.cells.lookup y = some c ∧ c < s.heap.objs.size := fun {y c} e => by
    rw [hcl] at e
    rcases cloFrom_mem (PySem.mem_of_lookup e) with hm | ⟨h1, rfl⟩
    · cases hm
    · obtain ⟨c, hc⟩ := hfree _ h1 rfl
      rw [hc]
      obtain ⟨w, z⟩ := I.cell _ _ hc
      exact ⟨rfl, z.lt⟩
  have look : ∀ {y}, scope.names.lookup y = some .free → ∃ c, cenv.cells.lookup y = some c ∧ X.env.cells.lookup y = some c := fun {y} hl => by
    have hy : (y, NameKind.free) ∈ scope.names := PySem.mem_of_lookup hl
    obtain ⟨c', e'⟩ := mem_lookup (cloFrom_has (cells := X.env.cells) (acc := []) hy)
    rw [← hcl] at e'
    exact ⟨c', e', (cm e').1⟩
  have kinds : ∀ {y k}, cenv.kindOf y = some k → scope.names.lookup y = some k := fun {y k} e => by
    unfold Env.kindOf at e
    rw [hsc] at e
    exact e
  have okB : (Cx.gn X s H cenv fp).Ok := by
    refine ⟨I.ok.mod, by show cenv.scope.kind = _; rw [hsc]; exact ok.kind, by show cenv.globals = _; rw [← hcenv]; exact I.ok.glob, by show cenv.builtins = _; rw [← hcenv]; rfl, by show s.heap.objs.size ≤ cenv.locals; rw [hL]; exact Nat.le_refl _,
      fun y z c e1 e2 => I.ok.inj y z c (cm e1).1 (cm e2).1, fun y hy => ?_, fun y c z e => (nomatch z), fun _ => hA, ?_, .inr ⟨rfl, by show cenv.frame = some cenv.locals; rw [← hcenv]; rfl⟩, fun b hb => ⟨?_, fun y c e z => ?_⟩, I.bs, Nat.le_trans I.ok.bsz I.sz, fun b o e hb => ?_, fun b hb z => ?_, I.stack, I.stkFree⟩
    · show ∃ c, cenv.cells.lookup y = some c
      rcases hy with hy | hy
      · exact absurd rfl (ok.cell _ (PySem.mem_of_lookup (kinds hy)))
      · obtain ⟨c, h1, _⟩ := look (kinds hy)
        exact ⟨c, h1⟩
    · show (X.A.in1.in1.deeper cenv).frames = some (cenv :: X.stack)
      show X.A.frames.map (cenv :: ·) = some (cenv :: X.stack)
      rw [I.ok.frames]
      rfl
    · show b ≠ cenv.locals
      rw [hL]; exact Nat.ne_of_lt (hfp b hb).2
    · exact (hfp b hb).1.2.2.2.2.1 y c (cm e).1 z
    · rcases (hfp b hb).1.2.2.2.1 with z | z
      · exact I.ok.noex b o e z
      · exact absurd (Nat.lt_of_lt_of_le (Heap.lt_size e) (Nat.le_trans I.ok.bsz z)) (Nat.lt_irrefl _)
    · rcases List.mem_cons.mp (I.stkSub b z) with z | z
      · exact (hfp b hb).1.2.1 z
      · exact (hfp b hb).1.2.2.1 z
  refine ⟨okB, rfl, hg, Un.kept kp, ⟨m0, ?_, fun i y av e1 e2 e3 => ?_⟩, fun y c e => ?_, ?_, fun y c e => ?_, fun p hp => ?_, I.hok.kept kp, by rw [wipe_length]; exact I.len⟩
  · show Heap.Ns _ cenv.locals _
    rw [hL]
    exact hn
  · obtain ⟨e2, hne⟩ := wipe_some e2
    have hfr : scope.names.lookup y = some .free := by
      have no : ¬ scope.names.lookup y = some .local := fun e => by
        rcases ok.own _ (PySem.mem_of_lookup e) rfl with e' | e'
        · obtain ⟨p, hp, hpy⟩ := List.mem_map.mp e'
          have e3 := ok.ix p hp
          have : p.1 = y := hpy
          rw [this] at e3
          exact hne (List.mem_map.mpr ⟨p, hp, nodup_ix hN e3 e1⟩)
        · exact e' (List.mem_of_getElem? e1)
      have e3 : Vis cenv.scope y := e3
      unfold Vis at e3
      rw [hsc] at e3
      rcases e3 with e3 | e3 | e3
      · exact absurd e3 no
      · exact absurd rfl (ok.cell _ (PySem.mem_of_lookup e3))
      · exact e3
    obtain ⟨m, hn, hl⟩ := I.loc
    have hvis : Vis X.env.scope y := (ok.free _ (PySem.mem_of_lookup hfr) rfl).elim (fun k => .inr (.inl k)) (fun k => .inr (.inr k))
    obtain ⟨w, r, q⟩ := hl i y av e1 e2 hvis
    refine ⟨w, r, .inr ⟨.inr (by show cenv.kindOf y = _; unfold Env.kindOf; rw [hsc]; exact hfr), ?_⟩⟩
    obtain ⟨c, h1, h2⟩ := look hfr
    rcases q with ⟨k, _⟩ | ⟨_, c', e', z⟩
    · have k : X.env.scope.names.lookup y = some .local := k
      rcases ok.free _ (PySem.mem_of_lookup hfr) rfl with k' | k' <;> rw [show X.env.scope.names.lookup y = _ from k'] at k <;> cases k
    · rw [h2] at e'; cases e'
      exact ⟨c, h1, z.keeps kp⟩
  · obtain ⟨w, z⟩ := I.cell y c (cm e).1
    exact ⟨w, z.keeps kp⟩
  · show H cenv.locals = none
    rw [hL]; exact I.hok.fresh (Nat.le_refl _)
  · exact I.freeC y c (cm e).1
  · exact absurd (show p ∈ ([] : List (Addr × Obj)) ++ [] from hp) (by simp)
theorem over_compLoop {A : Around} {elt : Expr} {gens : List Comprehension} {scope : Scope} {pos : Pos} {it acc : Value} {env : Env} : A.over (.compLoop (.GeneratorExp elt gens scope pos) 0 it acc env) [] = A.deeper env := by
  cases A
  rfl
theorem over_compStart {A : Around} {elt : Expr} {gens : List Comprehension} {scope : Scope} {pos : Pos} {it acc : Value} {env : Env} : A.over (.compStart (.GeneratorExp elt gens scope pos) 0 it acc env) [] = A.deeper env := by
  cases A
  rfl
end
section
variable {X : Cx} {σ : L2.St} {H0 : Hp} {sg : Shared} {cenv : Env} {fp : List Addr} {Q : VK} {elt tg iter : Expr} {ifs : List Expr} {scope : Scope} {pos : Pos} {J : It} {it : Addr} {tn : Nat → Heap → Prop} {vs : List Nat} {g : TG} {tt : TT} {te : TE} {W : Nat → Nat → Hp → Prop}
/-- drawn: a value; at the end -/
def YOk (X : Cx) (Q : VK) (v : Value) (s : Shared) : Prop := ∃ pins σ' H' y, Inv X pins σ' H' s ∧ RelV y v ∧ Q y H'
def NOk (X : Cx) (Q : VK) (s : Shared) : Prop := ∃ pins σ' H', Inv X pins σ' H' s ∧ Q .non H'
theorem seg_draw (hc : X.calm = true) (hco : cenv.scope.isCoroutine = false) (pg : PG (Cx.gn X sg H0 cenv fp) tg g) (pt : PTs (Cx.gn X sg H0 cenv fp) ifs tt) (pe : PE (Cx.gn X sg H0 cenv fp) elt te) (Tn : Turn X.prog X.w X.K tg J fp it tn)
    (turn : ∀ i m H, W i m H → (J.stop i H ∧ Q .non H) ∨ (J.go i H ∧ ∃ Nx : Hp → Prop, (∀ H', Nx H' → ∃ m', m' < m ∧ W (i + 1) m' H') ∧ ∀ x H', J.yld i H x H' → g x (wipe σ vs) H' fun σ2 H2 => wipe σ2 vs = wipe σ vs ∧ tt σ2 H2 fun b H3 =>
      if b = true then te σ2 H3 Q else Nx H3)) :
    ∀ (m i : Nat) (H5 : Hp) (s5 s₀ : Shared), Inv (Cx.gn X sg H0 cenv fp) [] (wipe σ vs) H5 s5 → tn i s5.heap → (∀ b ∈ fp, H5 b = none) → W i m H5 →
      Seg (model X.prog X.w) X.A.in1.in1 (fun n s₀ r s₁ => r = .ok .next ∧ NOk (Cx.gn X sg H0 cenv fp) Q s₁) (fun n s₀ v s kap => YOk (Cx.gn X sg H0 cenv fp) Q v s) 1 s₀
        (.compLoop (.GeneratorExp elt [⟨tg, iter, ifs, 0⟩] scope pos) 0 (.ref it) .none cenv)
        ((model X.prog X.w).den (.compLoop (.GeneratorExp elt [⟨tg, iter, ifs, 0⟩] scope pos) 0 (.ref it) .none cenv)) [] s5 := by
  intro m
  induction m using Nat.strongRecOn with
  | ind m ih =>
  intro i H5 s5 s₀ I5 st5 n5 w5
  have stat : ∀ {σ' : L2.St} {H' : Hp} {s' : Shared}, Inv (Cx.gn X sg H0 cenv fp) [] σ' H' s' → (∀ b ∈ fp, H' b = none) → ∀ b ∈ fp, FpOk (Cx.gn X sg H0 cenv fp) [] H' b := fun {σ' H' s'} I' hn b hb =>
    ⟨hn b hb, (I'.ok.exf b hb).1, I'.ok.exfs b hb, .inl hb, fun x c e => (I'.ok.exf b hb).2 x c e, fun p hp => absurd (show p ∈ ([] : List (Addr × Obj)) ++ [] from hp) (by simp)⟩
  show Seg _ _ _ _ _ s₀ _ ((compTurn (.GeneratorExp elt [⟨tg, iter, ifs, 0⟩] scope pos) 0 (.ref it) .none cenv).onRaise (leaving cenv)) [] s5
  rw [compTurn_gen, Sem.onRaise_eq_wrap]
  refine seg_bind_wrap (wpAny_standAt ?_)
  rcases turn i m H5 w5 with ⟨stop, qq⟩ | ⟨go, Nx, hNx, step⟩
  · have td := Tn.done (Cx.gn X sg H0 cenv fp) rfl rfl rfl hc i [] s5 _ H5 (fun _ _ => False) I5 (stat I5 n5) st5 stop
    refine seg_bind_wrap ?_
    rw [over_compLoop]
    refine thnF td fun r s6 ⟨hr, I6⟩ => ?_
    subst hr
    exact seg_end (.ok .next) ⟨rfl, _, _, _, I6, qq⟩
  · have ti := Tn.item (Cx.gn X sg H0 cenv fp) rfl rfl rfl hc i [] s5 _ H5 (fun _ _ => False) I5 (stat I5 n5) st5 go
    refine seg_bind_wrap ?_
    rw [over_compLoop]
    refine thnF ti fun r s6 ⟨u, hr, h6⟩ => ?_
    subst hr
    refine seg_bind_wrap ?_
    rw [over_compLoop]
    refine thnF h6 fun _ s7 ⟨x, H7, I7, r7, y7, st7, n7⟩ => ?_
    have I7' := I7.pinned (stat I7 n7) (Tn.obj _ _ st7)
    refine seg_bind_wrap ?_
    rw [over_compLoop]
    refine thnF (pg.run _ s7 _ H7 x u _ I7' r7 (step x H7 y7)) fun _ s8 ⟨σ8, H8, I8, hw8, q8⟩ => ?_
    refine seg_bind_wrap ?_
    rw [over_compLoop]
    refine thnF (pt.run _ s8 σ8 H8 _ I8 q8) fun b s9 ⟨H9, I9, q9⟩ => ?_
    cases b with
    | false =>
      simp only [Bool.false_eq_true, if_false] at q9 ⊢
      obtain ⟨m', hm, w'⟩ := hNx H9 q9
      have pin' : ∀ b ∈ fp, ∀ o, s7.heap.get? b = some o → s9.heap.get? b = some o ∧ H9 b = none := fun b hb o e =>
        let z := I9.pin (b, o) (List.mem_append_right _ (List.mem_append_right _ (mem_pinsAt hb e)))
        ⟨z.1, z.2.1⟩
      have hl : (wipe σ vs).length = σ8.length := by rw [← hw8, wipe_length]
      refine seg_again rfl (ih m' hm (i + 1) H9 s9 s₀ ((I9.unpinned (pins := [])).weak hl (fun j v e => ?_)) (Tn.keep _ _ _ st7 fun b hb o e => (pin' b hb o e).1) (fun b hb => ?_) w')
      · rw [← hw8] at e
        exact (wipe_some e).1
      · obtain ⟨o, e, _⟩ := Tn.obj _ _ st7 b hb
        exact (pin' b hb o e).2
    | true =>
      simp only [if_true] at q9 ⊢
      have hy : ∀ v, yieldOut cenv v = yieldValue v := fun v => by simp only [yieldOut, hco, Bool.false_eq_true, if_false]
      simp only [hy]
      rw [Sem.bind_eq_wrap', Sem.bind_eq_wrap', Sem.wrap_wrap, Sem.wrap_wrap]
      refine seg_wrap ?_
      rw [over_compLoop]
      refine thnF (pe.run _ s9 σ8 H9 _ I9 q9) fun z s10 ⟨yv, H10, I10, r10, q10⟩ => ?_
      exact seg_at (seg_yield rfl rfl rfl ⟨_, _, _, _, I10, r10, q10⟩)
theorem seg_begin (hc : X.calm = true) (hco : cenv.scope.isCoroutine = false) (pg : PG (Cx.gn X sg H0 cenv fp) tg g) (pt : PTs (Cx.gn X sg H0 cenv fp) ifs tt) (pe : PE (Cx.gn X sg H0 cenv fp) elt te) (Tn : Turn X.prog X.w X.K tg J fp it tn)
    (turn : ∀ i m H, W i m H → (J.stop i H ∧ Q .non H) ∨ (J.go i H ∧ ∃ Nx : Hp → Prop, (∀ H', Nx H' → ∃ m', m' < m ∧ W (i + 1) m' H') ∧ ∀ x H', J.yld i H x H' → g x (wipe σ vs) H' fun σ2 H2 => wipe σ2 vs = wipe σ vs ∧ tt σ2 H2 fun b H3 =>
      if b = true then te σ2 H3 Q else Nx H3))
    (m : Nat) (H5 : Hp) (s5 s₀ : Shared) (I5 : Inv (Cx.gn X sg H0 cenv fp) [] (wipe σ vs) H5 s5) (st5 : tn 0 s5.heap) (n5 : ∀ b ∈ fp, H5 b = none) (w5 : W 0 m H5) :
      Seg (model X.prog X.w) X.A.in1.in1 (fun n s₀ r s₁ => r = .ok .next ∧ NOk (Cx.gn X sg H0 cenv fp) Q s₁) (fun n s₀ v s kap => YOk (Cx.gn X sg H0 cenv fp) Q v s) 1 s₀
        (.compStart (.GeneratorExp elt [⟨tg, iter, ifs, 0⟩] scope pos) 0 (.ref it) .none cenv)
        ((model X.prog X.w).den (.compStart (.GeneratorExp elt [⟨tg, iter, ifs, 0⟩] scope pos) 0 (.ref it) .none cenv)) [] s5 := by
  have loop := seg_draw (iter := iter) (scope := scope) (pos := pos) hc hco pg pt pe Tn turn m 0 H5 s5 s₀ I5 st5 n5 w5
  show Seg _ _ _ _ _ s₀ _ ((compStart (.GeneratorExp elt [⟨tg, iter, ifs, 0⟩] scope pos) 0 (.ref it) .none cenv).onRaise (leaving cenv)) [] s5
  unfold compStart
  rw [Sem.onRaise_eq_wrap]
  show Seg _ _ _ _ _ s₀ _ ((ask >>= _).wrap _ _ _ _) [] s5
  refine seg_bind_wrap (wpAny_askSetting ?_)
  split
  · exact seg_again rfl loop
  · first
      | exact seg_bind_wrap (wpAny_rule (seg_bind_wrap (wpAny_standAt (seg_bind_wrap (Tn.self _ 0 s5 _ _ st5 (seg_again rfl loop))))))
      | (refine seg_bind_wrap (wpAny_rule ?_); show Seg _ _ _ _ _ s₀ _ ((standAt iter.pos >>= _).wrap _ _ _ _) [] s5; exact seg_bind_wrap (wpAny_standAt (seg_bind_wrap (Tn.self _ 0 s5 _ _ st5 (seg_again rfl loop)))))
end
section
variable {X : Cx} {elt tg iter : Expr} {ifs : List Expr} {scope : Scope} {own : List (Str × Nat)} {pos gpos p cp : Pos} {cj k : Nat} {wi : TI} {g : TG} {tt : TT} {te : TE} {c P : Addr}
/-- next(elt for target in iter if .., None): the table of the def's code may have grown -/
def tNext (P : Addr) (wi : TI) (g : TG) (tt : TT) (te : TE) (vs : List Nat) : TE := fun σ H Q => wi σ H fun J H1 => GxR.TabG H1 P ∧ ∀ H2, GxR.Tabbed P H1 H2 → ∃ W : Nat → Nat → Hp → Prop, (∃ m, W 0 m H2) ∧ ∀ i m H, W i m H →
  (J.stop i H ∧ Q .non H) ∨ (J.go i H ∧ ∃ Nx : Hp → Prop, (∀ H', Nx H' → ∃ m', m' < m ∧ W (i + 1) m' H') ∧ ∀ x H', J.yld i H x H' → g x (wipe σ vs) H' fun σ2 H2 => wipe σ2 vs = wipe σ vs ∧ tt σ2 H2 fun b H3 => if b = true then te σ2 H3 Q else Nx H3)
theorem boot_next' : bootBuiltins ("next" : Str) = some (.builtin "next") := by decide +kernel
theorem pe_nextgen (hc : X.calm = true) (hN : X.N.Nodup) (hr : Room (k + 3) X.A) (hg : Gl X "next") (hm : X.mg "next" = none) (TB : GxR.TabB X.base X.mg c P) (hcode : X.env.code = .ref c) (hi : PI X tg iter wi) (ok : GnOk X.N X.env.scope scope own)
    (pgG : ∀ (s : Shared) (H : Hp) (C : Addr) (cl : List (Str × Addr)) (code : Value) (fp : List Addr), PG (Cx.gn X s H (genEnv scope cl C code builtinsNs X.env) fp) tg g) (ptG : ∀ (s : Shared) (H : Hp) (C : Addr) (cl : List (Str × Addr)) (code : Value) (fp : List Addr), PTs (Cx.gn X s H (genEnv scope cl C code builtinsNs X.env) fp) ifs tt)
    (peG : ∀ (s : Shared) (H : Hp) (C : Addr) (cl : List (Str × Addr)) (code : Value) (fp : List Addr), PE (Cx.gn X s H (genEnv scope cl C code builtinsNs X.env) fp) elt te) (hs : ∀ x, genFold iter X.env x = pure x := by intro _; rfl)
    (he : starEach [.GeneratorExp elt [⟨tg, iter, ifs, 0⟩] scope gpos, .Constant .none cj cp] X.env = (false, eval (.GeneratorExp elt [⟨tg, iter, ifs, 0⟩] scope gpos) X.env) :: starEach [.Constant .none cj cp] X.env := by rfl)
    (he2 : starEach [.Constant .none cj cp] X.env = (false, eval (.Constant .none cj cp) X.env) :: starEach [] X.env := by rfl) (hpl : (backTo pos (starEach [.Constant .none cj cp] X.env)).any (·.1) = false := by rfl) :
    PE X (.Call (.Name "next" p) [.GeneratorExp elt [⟨tg, iter, ifs, 0⟩] scope gpos, .Constant .none cj cp] [] pos) (tNext P wi g tt te (own.map (·.2))) := by
  refine ⟨fun pins s σ H Q I h => ?_⟩
  have hfree : ∀ y ∈ scope.names, y.2 = .free → ∃ c, X.env.cells.lookup y.1 = some c := fun y hy e => by
    rcases ok.free y hy e with k | k
    · exact I.ok.has _ (.inl k)
    · exact I.ok.has _ (.inr k)
  refine wpAny_Call_Name_kw (ld_blt I hg hm boot_next' ?_)
  refine PyProof.Rows.callWith_builtin1 ?_ he hpl
  rw [he]
  show wpAny _ _ (spliced ((false, eval (.GeneratorExp elt [⟨tg, iter, ifs, 0⟩] scope gpos) X.env) :: backTo pos (starEach [.Constant .none cj cp] X.env))) _ _ s
  refine Calls.spliced_cons (wpAny_GeneratorExp_make ok.co (closure_ok hfree) ok.cell ok.dot ok.kind hr.depth ?_ hs)
  refine thn (hi.run pins s σ H _ I h) fun xv s1 hx => thn hx fun itv s2 h2 => ?_
  obtain ⟨it, fp, tn, J, H2, e, I2, Tn, st2, f2, ⟨ps, hP, ht⟩, q⟩ := h2
  subst e
  refine ⟨I2.nolimit, ?_⟩
  have hPs : s2.heap.get? P = some { cls := .none, data := .fields ps } := I2.hok P _ hP
  have cd : PySem.W.CodeHd s2.heap c P := TB.code.keeps fun b u e => I2.bk b u e
  have fpP : ∀ b ∈ fp, b ≠ P := fun b hb z => by
    have := (f2 b hb).1
    rw [z, hP] at this
    cases this
  -- behind the code's making
  have cont : ∀ (code : Value) (h3 : Heap) (tk : Nat) (more : Array Value), (∀ b o, b ≠ P → s2.heap.get? b = some o → h3.get? b = some o) → h3.get? P = some { cls := .none, data := .fields (ps ++ more) } → TriplesOk (ps ++ more).toList →
      wpAny (model X.prog X.w) X.A (builtinsFor X.env.globals X.env.builtins) (fun bi s₄ =>
        ∀ h', h'.Ns s₄.heap.objs.size (fun y => if y = ".0" then some (.ref it) else none) → Heap.SameBut s₄.heap.objs.size (s₄.heap.push { cls := .type "frame", data := .dict #[] }) h' →
          wpAny (model X.prog X.w) X.A (spliced (backTo pos (starEach [.Constant .none cj cp] X.env))) (fun vs s₂ => wpAny (model X.prog X.w) X.A (call (.builtin "next") (.ref h'.objs.size :: vs)) (EP X pins σ Q) X.xe s₂) X.xe { s₄ with
            gens := s₄.gens.push (.fresh (.compStart (.GeneratorExp elt [⟨tg, iter, ifs, 0⟩] scope gpos) 0 (.ref it) .none (genEnv scope (cloFrom X.env.cells scope.names []) s₄.heap.objs.size code bi X.env))),
            toks := s₄.toks + 1 + 1 + 1,
            heap := h'.push { cls := .type "generator", data := .fields #[.int s₄.gens.size 0, .str "<genexpr>" (s₄.toks + 1), .str (X.env.qual ++ "<genexpr>") (s₄.toks + 1 + 1)] } }) X.xe { s2 with heap := h3, toks := tk } := by
    intro code h3 tk more hx hP3 ht3
    obtain ⟨bm, ob, e1, e2, e3, e4, e5, e6, e7, e8⟩ := TB.bm
    have I3 : Inv X pins σ (upd H2 P (.tbl (ps ++ more))) { s2 with heap := h3, toks := tk } := GxR.inv_tab (g' := s2.gens) (d' := s2.drawn) I2 hP hx hP3 I2.bare
    have hgP : mainGlobals ≠ P := TB.gP
    refine wpAny_builtinsFor (m := X.mg) (by rw [I3.ok.glob]; exact I3.mod.glob.keeps I3.bk) e1 e2 (I3.bk _ _ e5) e6 e7 e8 ?_
    intro h' hns hsb
    have H3T : GxR.Tabbed P H2 (upd H2 P (.tbl (ps ++ more))) := ⟨⟨_, upd_same, ht3⟩, fun b hb => upd_ne hb⟩
    obtain ⟨W, ⟨m0, w0⟩, turn⟩ := q _ H3T
    generalize hH3 : upd H2 P (.tbl (ps ++ more)) = H3 at I3 w0 H3T
    have n3 : ∀ b ∈ fp, H3 b = none := fun b hb => by
      rw [H3T.2 b (fpP b hb)]
      exact (f2 b hb).1
    have sz2 : ∀ b ∈ fp, b < s2.heap.objs.size := fun b hb => by
      obtain ⟨o, e, _⟩ := Tn.obj _ _ st2 b hb
      exact Heap.lt_size e
    have sz3 : ∀ b ∈ fp, b < h3.objs.size := fun b hb => by
      obtain ⟨o, e, _⟩ := Tn.obj _ _ st2 b hb
      exact Heap.lt_size (hx b o (fpP b hb) e)
    have st3 : tn 0 h3 := Tn.keep _ _ _ st2 fun b hb o e => hx b o (fpP b hb) e
    have f3 : ∀ b ∈ fp, FpOk X pins H3 b ∧ b < ({ s2 with heap := h3, toks := tk } : Shared).heap.objs.size := fun b hb => ⟨⟨n3 b hb, (f2 b hb).2⟩, sz3 b hb⟩
    -- all that stood stands
    have kp' : ∀ b o, h3.get? b = some o → h'.get? b = some o := fun b o e => (hsb.2 b (Nat.ne_of_lt (Heap.lt_size e))).trans (Heap.get?_push_of_some _ e)
    generalize ha : h'.objs.size = a
    generalize hgo : ({ cls := .type "generator", data := .fields #[.int s2.gens.size 0, .str "<genexpr>" (tk + 1), .str (X.env.qual ++ "<genexpr>") (tk + 1 + 1)] } : Obj) = go
    have kp5 : ∀ b o, h3.get? b = some o → (h'.push go).get? b = some o := fun b o e => Heap.get?_push_of_some _ (kp' b o e)
    have hns5 : (h'.push go).Ns h3.objs.size (fun y => if y = ".0" then some (.ref it) else none) := hns.keeps fun b o e => Heap.get?_push_of_some _ e
    have hgen : (h'.push go).IsGen a s2.gens.size := by
      refine ⟨_, _, _, by rw [← ha]; exact Heap.get?_push_size _ (by rw [← hgo]; rfl), by rw [← hgo], by rw [← hgo], by rw [← hgo]⟩
    -- the second argument
    rw [he2]
    show wpAny _ _ (spliced ((false, eval (.Constant .none cj cp) X.env) :: backTo pos (starEach [] X.env))) _ _ _
    refine Calls.spliced_cons (Constant_none ?_)
    refine Calls.spliced_nil ?_
    -- the call
    refine PySem.Calls.call_function_entry (by decide +kernel) (by decide +kernel) PySem.W.kdk_entry_next (PySem.W.kdk_args_next2 _ _) ?_
    unfold Builtin.«next»
    refine wpAny_bind (m := someArgs "next" 1 2 _) (wpAny_of_eq (a := [Value.ref a, Value.none]) (by first | rfl | kernel_rfl!) ?_)
    dsimp only
    refine wpAny_bind (wpAny_specialOf (name := Str.ofString "__next__") hgen.typeIs slot_gen_next.lookup ?_)
    refine wpAny_ite_split (fun hab => absurd hab (by decide)) (fun _ => ?_)
    have hh : X.A.handled = none := I3.ok.hd hc
    have lim : (h'.push go).NoLimit := I3.nolimit.keeps kp5
    have gs0 : (s2.gens.push (.fresh (.compStart (.GeneratorExp elt [⟨tg, iter, ifs, 0⟩] scope gpos) 0 (.ref it) .none (genEnv scope (cloFrom X.env.cells scope.names []) h3.objs.size code builtinsNs X.env))))[s2.gens.size]? = some (.fresh (.compStart (.GeneratorExp elt [⟨tg, iter, ifs, 0⟩] scope gpos) 0 (.ref it) .none (genEnv scope (cloFrom X.env.cells scope.names []) h3.objs.size code builtinsNs X.env))) := by simp
    -- back in the def's context
    have back : ∀ {pins' : List (Addr × Obj)} {σ' : L2.St} {H' : Hp} {s' s'' : Shared}, Inv (Cx.gn X { s2 with heap := h3, toks := tk } H3 (genEnv scope (cloFrom X.env.cells scope.names []) h3.objs.size code builtinsNs X.env) fp) pins' σ' H' s' → s''.os = s'.os → (∀ b o, s'.heap.get? b = some o → s''.heap.get? b = some o) → AllBare s''.gens → Inv X pins σ H' s'' := fun {pins' σ' H' s' s''} I6 ho hk hb =>
      I3.call' (ch := fp) (ho.trans I6.os) (I6.base.trans (Un.kept hk)) (I6.hok.kept hk) hb fun b hb' => ⟨(f2 b hb').2.2.2.1, (f2 b hb').2.1, (f2 b hb').2.2.2.2.1, (f2 b hb').2.2.2.2.2⟩
    refine wpAny_bind (wpAny_pyNext_genexpQ (n := 1) (P := fun _ _ s₁ => NOk (Cx.gn X { s2 with heap := h3, toks := tk } H3 (genEnv scope (cloFrom X.env.cells scope.names []) h3.objs.size code builtinsNs X.env) fp) Q s₁)
      (Y := fun n s₀ v s kap => YOk (Cx.gn X { s2 with heap := h3, toks := tk } H3 (genEnv scope (cloFrom X.env.cells scope.names []) h3.objs.size code builtinsNs X.env) fp) Q v s) hh lim hr.depth hgen gs0 ⟨rfl, ?_⟩ (fun v s₁ gs' hgb hy => ?_) fun s₁ hn h6 hk6 => ?_)
    · refine seg_begin hc ok.co (pgG _ _ _ _ _ _) (ptG _ _ _ _ _ _) (peG _ _ _ _ _ _) Tn turn m0 H3 _ _ ?_ (Tn.keep _ _ _ st3 fun b _ o e => kp5 b o e) n3 w0
      exact gen_start (s := { s2 with heap := h3, toks := tk }) I3 ok hN hh f3 kp5 hns5 (allBare_setGen (s := { s2 with gens := s2.gens.push _ }) (I2.bare.push rfl) rfl)
    · obtain ⟨pins', σ', H', y, I6, ry, qy⟩ := hy
      exact wpAny_pure ⟨_, rfl, y, H', back I6 rfl (fun _ _ e => e) (allBare_setGen I6.bare hgb), ry, qy⟩
    · obtain ⟨pins', σ', H', I6, qy⟩ := hn
      exact wpAny_pure ⟨_, rfl, .non, H', back I6 rfl hk6 (allBare_setGen I6.bare rfl), rfl, qy⟩
  cases hf : codeAmong gpos ps.toList with
  | none =>
    refine wpAny_genexprCodeX hcode (cd.code hPs ht) (cd.tab hPs) hf fun c' h' tk hx hge hlt hco' _ htab' _ => ?_
    obtain ⟨o1, vs, f1, tf, fl, tg, inF, tx, tt', op, _, _, _, _, _, _, _, _, _, htr, _⟩ := hco'
    exact cont _ h' tk _ (fun b o hb e => hx b o hb e) htab'.2 htr
  | some cv =>
    refine wpAny_genexprCode_hit hcode (cd.code hPs ht) hf ?_
    exact cont cv s2.heap s2.toks #[] (fun b o _ e => e) (by simpa using hPs) (by simpa using ht)
end
end MM

/-! The mirror of next(.., None). -/
namespace MM
open PySem L2 PyProof.Rows
def nxL (g : MG0) (tt : MT0) (te : ME0) : Nat → Nat → ItD → Rho → Store → Res D
  | 0, _, _, _, _ => .bad
  | f + 1, i, it, ρ, S => match it.get i S with
    | none => .bad
    | some none => .ok .non S
    | some (some d) => (g d ρ S).calm.bind fun ρ1 S1 => (tt ρ1 S1).calm.bind fun b S2 => if b = true then (te ρ1 S2).calm else nxL g tt te f (i + 1) it ρ S2
def mNext (mi : MI0) (g : MG0) (tt : MT0) (te : ME0) (vs : List Nat) : ME0 := fun ρ S => (mi ρ S).bind fun it S1 => nxL g tt te BIG 0 it (wipeD ρ vs) S1
section
variable {G : Gd} {E : XK} {R φ : List Addr} {S : Store} {H : Hp}
theorem Le.tabbed {P : Addr} {H' : Hp} (rs : Rs G R φ S H) (hP : GxR.TabG H P) (h : GxR.Tabbed P H H') : Le φ H φ H' ∧ Rs G R φ S H' := by
  obtain ⟨ps, eP, tP⟩ := hP
  obtain ⟨qs, eQ, tQ⟩ := h.1
  have l : Le φ H φ H' := by
    refine ⟨⟨[], (List.append_nil _).symm⟩, fun a o e n q => ⟨?_, n⟩, fun a vs e => ?_, fun a e => ?_, fun a ⟨rs, e, t⟩ => ?_, fun a ob u e => by rw [h.2 a (fun z => by rw [z, eP] at e; cases e)]; exact e⟩
    · rw [h.2 a (fun z => by rw [z, eP] at e; exact q ps (Option.some.inj e).symm)]
      exact e
    · rw [h.2 a (fun z => by rw [z, eP] at e; cases e)]
      exact e
    · by_cases z : a = P
      · rw [z, eQ]
        exact fun q => nomatch q
      · rw [h.2 a z]
        exact e
    · by_cases z : a = P
      · rw [z]
        exact ⟨qs, eQ, tQ⟩
      · exact ⟨rs, by rw [h.2 a z]; exact e, t⟩
  refine ⟨l, rs.nd, rs.len, rs.apart, fun i o a e1 e2 => ?_, fun a ha => l.ne a (rs.res a ha), fun a ha => l.tab a (rs.tabs a ha)⟩
  refine Ro.le l (rs.obj i o a e1 e2) (h.2 a ?_)
  rintro rfl
  obtain ⟨u, hu⟩ := Ro.there (rs.obj i o a e1 e2)
  have ro := rs.obj i o a e1 e2
  obtain ⟨vs, u2, e, sh, _⟩ := ro
  have fr := sh.free
  rw [eP] at e
  cases e
  cases fr
theorem nx_run {t : TG} {tt : TT} {te : TE} {g : MG0} {mt : MT0} {me : ME0} {it : ItD} {J : It} {ρ : Rho} {σ : L2.St} {vs : List Nat} (rel : RelI G R φ H it J) (sg : SndG G E0 t g) (wg : WipesG t vs) (st : SndT G E0 tt mt) (se : SndE G E0 te me) (rs : Rs G R φ S H) (rn : Rn G R φ H ρ σ) (Q : VK)
    (hq : ∀ d S' φ' v H', nxL g mt me BIG 0 it (wipeD ρ vs) S = .ok d S' → Le φ H φ' H' → Rs G R φ' S' H' → Rv G R φ' H' d v → Q v H') (hb : nxL g mt me BIG 0 it (wipeD ρ vs) S ≠ .bad) :
    ∃ W : Nat → Nat → Hp → Prop, (∃ m, W 0 m H) ∧ ∀ i m H, W i m H →
      (J.stop i H ∧ Q .non H) ∨ (J.go i H ∧ ∃ Nx : Hp → Prop, (∀ H', Nx H' → ∃ m', m' < m ∧ W (i + 1) m' H') ∧ ∀ x H', J.yld i H x H' → t x (wipe σ vs) H' fun σ2 H2 => wipe σ2 vs = wipe σ vs ∧ tt σ2 H2 fun b H3 => if b = true then te σ2 H3 Q else Nx H3) := by
  have rn0 : Rn G R φ H (wipeD ρ vs) (wipe σ vs) := rn.wipe vs
  refine ⟨fun i m H' => ∃ φ' S', Le φ H φ' H' ∧ Rs G R φ' S' H' ∧ nxL g mt me m i it (wipeD ρ vs) S' = nxL g mt me BIG 0 it (wipeD ρ vs) S, ⟨BIG, φ, S, Le.refl, rs, rfl⟩, fun i m H1 hW => ?_⟩
  obtain ⟨φ1, S1, l1, rs1, e⟩ := hW
  cases m with
  | zero => exact (hb e.symm).elim
  | succ f =>
    obtain ⟨r0, r1⟩ := rel R (fun _ h => .inl h) i φ1 S1 H1 l1 rs1
    cases hg : it.get i S1 with
    | none =>
      have : nxL g mt me (f + 1) i it (wipeD ρ vs) S1 = .bad := by unfold nxL; rw [hg]
      exact (hb (e.symm.trans this)).elim
    | some o =>
      cases o with
      | none =>
        have z : nxL g mt me (f + 1) i it (wipeD ρ vs) S1 = .ok .non S1 := by unfold nxL; rw [hg]
        exact .inl ⟨r0 hg, hq .non S1 φ1 .non H1 (e.symm.trans z) l1 rs1 Rv.non⟩
      | some d =>
        have z : nxL g mt me (f + 1) i it (wipeD ρ vs) S1 = ((g d (wipeD ρ vs) S1).calm.bind fun ρ1 S2 => (mt ρ1 S2).calm.bind fun b S3 => if b = true then (me ρ1 S3).calm else nxL g mt me f (i + 1) it (wipeD ρ vs) S3) := by
          conv => lhs; unfold nxL
          rw [hg]
        rw [e] at z
        obtain ⟨r2, r3⟩ := r1 d hg
        refine .inr ⟨r2, fun H' => ∃ φ' S', Le φ H φ' H' ∧ Rs G R φ' S' H' ∧ nxL g mt me f (i + 1) it (wipeD ρ vs) S' = nxL g mt me BIG 0 it (wipeD ρ vs) S, fun H' hN => ⟨f, Nat.lt_succ_self f, hN⟩, fun x H2 hy => ?_⟩
        obtain ⟨l2, rs2, rv⟩ := r3 x H2 hy
        have l12 := l1.trans l2
        have g1 := Run.calm (E := fun _ _ _ => True) (sg d x (wipe σ vs) H2 (wipeD ρ vs) φ1 R S1 rs2 (rn0.le l12) rv)
        refine wg x (wipe σ vs) H2 (fun σ2 H3 => ∃ ρ2 S2 φ2, (g d (wipeD ρ vs) S1).calm = .ok ρ2 S2 ∧ Le φ1 H2 φ2 H3 ∧ Rs G R φ2 S2 H3 ∧ Rn G R φ2 H3 ρ2 σ2) _ (fun σ2 H3 ew hw => ⟨ew.trans wipe_idem, ?_⟩)
          (g1 _ (fun ρ2 S2 φ2 σ2 H3 e2 l3 rs3 rn3 => ⟨ρ2, S2, φ2, e2, l3, rs3, rn3⟩) (fun _ _ _ _ _ _ _ _ _ _ => trivial) (fun e2 => hb (by rw [z, e2]; rfl)))
        obtain ⟨ρ2, S2, φ2, e2, l3, rs3, rn3⟩ := hw
        have z2 := z
        rw [e2, Res.bind_ok] at z2
        refine Run.calm (E := fun _ _ _ => True) (st σ2 H3 ρ2 φ2 R S2 rs3 rn3) _ (fun b S3 φ3 b' H4 e3 l4 rs4 eb => ?_) (fun _ _ _ _ _ _ _ _ _ _ => trivial) (fun e3 => hb (by rw [z2, e3]; rfl))
        have eb' : b = b' := eb
        subst eb'
        have z3 := z2
        rw [e3, Res.bind_ok] at z3
        have l14 : Le φ1 H1 φ3 H4 := l2.trans (l3.trans l4)
        cases b with
        | false =>
          rw [if_neg Bool.false_ne_true] at z3 ⊢
          exact ⟨φ3, S3, l1.trans l14, rs4, z3.symm⟩
        | true =>
          rw [if_pos rfl] at z3 ⊢
          refine Run.calm (E := fun _ _ _ => True) (se σ2 H4 ρ2 φ3 R S3 rs4 (rn3.le l4)) _ (fun y S4 φ4 w H5 e4 l5 rs5 ry => ?_) (fun _ _ _ _ _ _ _ _ _ _ => trivial) (fun e4 => hb (by rw [z3, e4]))
          exact hq y S4 φ4 w H5 (z3.trans e4) (l1.trans (l14.trans l5)) rs5 ry
theorem nx_snd {wi : TI} {t : TG} {tt : TT} {te : TE} {mi : MI0} {g : MG0} {mt : MT0} {me : ME0} {vs : List Nat} {P : Addr} (hP : P ∈ G.tabs) (si : SndI G E wi mi) (sg : SndG G E0 t g) (wg : WipesG t vs) (st : SndT G E0 tt mt) (se : SndE G E0 te me) : SndE G E (tNext P wi t tt te vs) (mNext mi g mt me vs) := by
  intro σ H ρ φ R S rs rn Q hq hx hb
  have e0 : mNext mi g mt me vs ρ S = (mi ρ S).bind fun it S1 => nxL g mt me BIG 0 it (wipeD ρ vs) S1 := rfl
  rw [e0] at hq hx hb
  refine si σ H ρ φ R S rs rn _ (fun it S1 φ1 J H1 e1 l1 rs1 r1 => ?_) (fun er S' φ' H' cl d er' => hx er S' φ' H' cl d (by rw [er']; rfl)) (fun e1 => hb (by rw [e1]; rfl))
  rw [e1, Res.bind_ok] at hq hx hb
  have tb := rs1.tabs P hP
  refine ⟨tb, fun H2 hT => ?_⟩
  obtain ⟨l2, rs2⟩ := Le.tabbed rs1 tb hT
  have rel2 : RelI G R φ1 H2 it J := fun R' hR i φ' S' H' l rs' => r1 R' (fun a ha => (hR a ha).imp id fun z => by
    cases h : H1 a with
    | none => rfl
    | some u => exact (l2.ne a (by rw [h]; exact fun q => nomatch q) z).elim) i φ' S' H' (l2.trans l) rs'
  exact nx_run rel2 sg wg st se rs2 (rn.le (l1.trans l2)) Q (fun d S' φ' v H' e l rs' rv => hq d S' φ' v H' e (l1.trans (l2.trans l)) rs' rv) hb
end
section
variable {T : List Addr} {X : Cx} {E : XK} {elt tg iter : Expr} {ifs : List Expr} {scope : Scope} {own : List (Str × Nat)} {pos gpos p cp : Pos} {cj k : Nat} {mi : MI0} {g : MG0} {mt : MT0} {me : ME0} {t : TG} {c P : Addr}
structure GxOk (T : List Addr) (X : Cx) (elt tg : Expr) (ifs : List Expr) (scope : Scope) (own : List (Str × Nat)) (t : TG) (g : MG0) (mt : MT0) (me : ME0) : Prop where
  tg : ∀ (s : Shared) (H : Hp) (C : Addr) (cl : List (Str × Addr)) (code : Value) (fp : List Addr), MGc T (Cx.gn X s H (genEnv scope cl C code builtinsNs X.env) fp) E0 tg (own.map (·.2)) t g
  ifs : ∀ (s : Shared) (H : Hp) (C : Addr) (cl : List (Str × Addr)) (code : Value) (fp : List Addr), MTs T (Cx.gn X s H (genEnv scope cl C code builtinsNs X.env) fp) E0 ifs mt
  elt : ∀ (s : Shared) (H : Hp) (C : Addr) (cl : List (Str × Addr)) (code : Value) (fp : List Addr), ME T (Cx.gn X s H (genEnv scope cl C code builtinsNs X.env) fp) E0 elt me
theorem me_next (hc : X.calm = true) (hN : X.N.Nodup) (hr : Room (k + 3) X.A) (hg : Gl X "next") (hm : X.mg "next" = none) (TB : GxR.TabB X.base X.mg c P) (hcode : X.env.code = .ref c) (hP : P ∈ T) (hi : MI T X E tg iter mi) (ok : gnC X.N X.env.scope scope own = true)
    (h : GxOk T X elt tg ifs scope own t g mt me) (hs : ∀ x, genFold iter X.env x = pure x := by intro _; rfl)
    (he : starEach [.GeneratorExp elt [⟨tg, iter, ifs, 0⟩] scope gpos, .Constant .none cj cp] X.env = (false, eval (.GeneratorExp elt [⟨tg, iter, ifs, 0⟩] scope gpos) X.env) :: starEach [.Constant .none cj cp] X.env := by rfl)
    (he2 : starEach [.Constant .none cj cp] X.env = (false, eval (.Constant .none cj cp) X.env) :: starEach [] X.env := by rfl) (hpl : (backTo pos (starEach [.Constant .none cj cp] X.env)).any (·.1) = false := by rfl) :
    ME T X E (.Call (.Name "next" p) [.GeneratorExp elt [⟨tg, iter, ifs, 0⟩] scope gpos, .Constant .none cj cp] [] pos) (mNext mi g mt me (own.map (·.2))) := by
  obtain ⟨wi, pi, si⟩ := hi
  obtain ⟨tt, pt, st⟩ := all_T (ι := Shared × Hp × Addr × List (Str × Addr) × Value × List Addr) (XX := fun i => Cx.gn X i.1 i.2.1 (genEnv scope i.2.2.2.1 i.2.2.1 i.2.2.2.2.1 builtinsNs X.env) i.2.2.2.2.2) (G := X.gd T) (E := E0) (es := ifs) (m := mt) fun i => h.ifs i.1 i.2.1 i.2.2.1 i.2.2.2.1 i.2.2.2.2.1 i.2.2.2.2.2
  obtain ⟨te, pe, se⟩ := all_E (ι := Shared × Hp × Addr × List (Str × Addr) × Value × List Addr) (XX := fun i => Cx.gn X i.1 i.2.1 (genEnv scope i.2.2.2.1 i.2.2.1 i.2.2.2.2.1 builtinsNs X.env) i.2.2.2.2.2) (G := X.gd T) (E := E0) (e := elt) (m := me) fun i => h.elt i.1 i.2.1 i.2.2.1 i.2.2.2.1 i.2.2.2.2.1 i.2.2.2.2.2
  exact ⟨_, pe_nextgen hc hN hr hg hm TB hcode pi (gnOk_by ok) (fun s H C cl code fp => (h.tg s H C cl code fp).pg) (fun s H C cl code fp => pt (s, H, C, cl, code, fp)) (fun s H C cl code fp => pe (s, H, C, cl, code, fp)) hs he he2 hpl,
    nx_snd hP si (h.tg {} (fun _ => none) 0 [] .none []).snd (h.tg {} (fun _ => none) 0 [] .none []).wip st se⟩
end
end MM

/-! The mirror layer: + and * of all kinds, powers; what is known of the top's defs. -/
namespace MM
open PySem L2 PyProof.Rows
section
variable {T : List Addr} {X : Cx} {E : XK} {G : Gd} {a b : Expr} {ma mb : ME0} {pos : Pos}
theorem Op2.or {r r' : R2} {f : D → D → Store → Res D} (h : ∀ R φ S H d e x y, Rs G R φ S H → Rv G R φ H d x → Rv G R φ H e y → Run G E R φ H (RelV' G R) (f d e S) (r x y H) ∨ Run G E R φ H (RelV' G R) (f d e S) (r' x y H)) : Op2 G E (fun x y H Q => r x y H Q ∨ r' x y H Q) f := by
  intro R φ S H d e x y rs rd re
  rcases h R φ S H d e x y rs rd re with h | h
  · exact Run.conv h fun Q q => .inl q
  · exact Run.conv h fun Q q => .inr q
/-- a + b: ints, an int and a truth value, texts, tuples, lists -/
def fAdd : D → D → Store → Res D := fun x y S => match x, y with
  | .int i, .int j => .ok (.int (i + j)) S
  | .str u, .str v => if u.length + v.length ≤ sizeLine then .ok (.str (u ++ v)) S else .bad
  | .tup us, .tup vs => if us.length + vs.length ≤ sizeLine then .ok (.tup (us ++ vs)) S else .bad
  | .lst us, .lst vs => if us.length + vs.length ≤ sizeLine then .ok (.lst (us ++ vs)) S else .bad
  | _, _ => .bad
theorem o_addA : Op2 G E (fun x y H Q => (rI0 fun i j => .int (i + j)) x y H Q ∨ (∃ i j, x = V.str i ∧ y = V.str j ∧ i.length + j.length ≤ sizeLine ∧ Q (.str (i ++ j)) H) ∨ rCatA G.K x y H Q ∨ rCat x y H Q) fAdd := by
  intro R φ S H d e x y rs rd re
  unfold fAdd
  split
  · have e1 := Rv.int_of rd
    have e2 := Rv.int_of re
    subst e1
    subst e2
    exact Run.ret rs Rv.int fun Q q => .inl ⟨_, _, rfl, rfl, q⟩
  · have e1 := Rv.str_of rd
    have e2 := Rv.str_of re
    subst e1
    subst e2
    split
    · rename_i hl
      exact Run.ret rs Rv.str fun Q q => .inr (.inl ⟨_, _, rfl, rfl, hl, q⟩)
    · exact Run.bad
  · rename_i us vs
    obtain ⟨p, xs, rfl, h1, h2⟩ := Rv.tup_of rd
    obtain ⟨q, ys, rfl, h3, h4⟩ := Rv.tup_of re
    split
    · rename_i hl
      rw [RvL.length h2, RvL.length h4] at hl
      by_cases hx : xs = []
      · subst hx
        have : us = [] := List.length_eq_zero_iff.mp (RvL.length h2)
        subst this
        exact Run.ret rs re fun Q q => .inr (.inr (.inl ⟨_, _, _, ys, rfl, rfl, h1, h3, hl, fun _ => q, fun z => (z rfl).elim, fun z => (z rfl).elim⟩))
      · by_cases hy : ys = []
        · subst hy
          have : vs = [] := List.length_eq_zero_iff.mp (RvL.length h4)
          subst this
          rw [List.append_nil]
          exact Run.ret rs rd fun Q q => .inr (.inr (.inl ⟨_, _, xs, _, rfl, rfl, h1, h3, hl, fun z => (hx z).elim, fun _ _ => q, fun _ z => (z rfl).elim⟩))
        · exact Run.new (o := .tup (xs ++ ys)) rs (fun p hp => Rv.tup upd_same (RvL.append (RvL.le (Le.new rs hp) h2) (RvL.le (Le.new rs hp) h4))) fun Q q => .inr (.inr (.inl ⟨_, _, xs, ys, rfl, rfl, h1, h3, hl, fun z => (hx z).elim, fun _ z => (hy z).elim, fun _ _ => q⟩))
    · exact Run.bad
  · rename_i us vs
    obtain ⟨p, xs, rfl, _, _, h1, h2⟩ := Rv.lst_of rd
    obtain ⟨q, ys, rfl, _, _, h3, h4⟩ := Rv.lst_of re
    split
    · rename_i hl
      rw [RvL.length h2, RvL.length h4] at hl
      exact Run.new (o := .lst (xs ++ ys)) rs (fun p hp => Rv.lst (rs.fresh hp).1 (rs.fresh hp).2 upd_same (RvL.append (RvL.le (Le.new rs hp) h2) (RvL.le (Le.new rs hp) h4))) fun Q q => .inr (.inr (.inr ⟨_, _, xs, ys, rfl, rfl, h1, h3, hl, q⟩))
    · exact Run.bad
  · exact Run.bad
theorem me_add (ha : ME T X E a ma) (hb : ME T X E b mb) : ME T X E (.BinOp a .Add b pos) (mOp fAdd ma mb) := me_bin (OpR.or op_add (OpR.or op_add_str (OpR.or op_catA op_cat))) o_addA ha hb
/-- a * b: ints, a tuple or a list so many times -/
def fMul : D → D → Store → Res D := fun x y S => match x, y with
  | .int i, .int j => if i.natAbs.log2 + j.natAbs.log2 < 1000000 then .ok (.int (i * j)) S else .bad
  | .tup us, .int k => if us ≠ [] ∧ 2 ≤ k ∧ k ≤ 1000 ∧ us.length ≤ 1000 then .ok (.tup (List.replicate k.toNat us).flatten) S else .bad
  | .lst us, .int k => if -(2 ^ 63) ≤ k ∧ k < 2 ^ 63 ∧ us.length * k.toNat ≤ sizeLine then .ok (.lst (List.replicate k.toNat us).flatten) S else .bad
  | _, _ => .bad
theorem RvL.rep {R φ : List Addr} {H : Hp} {ds : List D} {vs : List V} (h : RvL G R φ H ds vs) : ∀ n : Nat, RvL G R φ H (List.replicate n ds).flatten (List.replicate n vs).flatten
  | 0 => RvL.nil
  | n + 1 => by
    rw [List.replicate_succ, List.replicate_succ, List.flatten_cons, List.flatten_cons]
    exact RvL.append h (RvL.rep h n)
theorem o_mulA : Op2 G E (fun x y H Q => (rI CMulW fun i j => .int (i * j)) x y H Q ∨ rRepT G.K x y H Q ∨ rRep x y H Q) fMul := by
  intro R φ S H d e x y rs rd re
  unfold fMul
  split
  · have e1 := Rv.int_of rd
    have e2 := Rv.int_of re
    subst e1
    subst e2
    split
    · rename_i hc
      exact Run.ret rs Rv.int fun Q q => .inl ⟨_, _, rfl, rfl, hc, q⟩
    · exact Run.bad
  · rename_i us k
    obtain ⟨p, xs, rfl, h1, h2⟩ := Rv.tup_of rd
    have e2 := Rv.int_of re
    subst e2
    split
    · rename_i hl
      exact Run.new (o := .tup (List.replicate k.toNat xs).flatten) rs (fun p hp => Rv.tup upd_same (RvL.rep (RvL.le (Le.new rs hp) h2) _)) fun Q q => .inr (.inl ⟨_, k, xs, rfl, rfl, h1, fun z => hl.1 (List.length_eq_zero_iff.mp (by rw [RvL.length h2, z]; rfl)), hl.2.1, hl.2.2.1, by rw [← RvL.length h2]; exact hl.2.2.2, q⟩)
    · exact Run.bad
  · rename_i us k
    obtain ⟨p, xs, rfl, _, _, h1, h2⟩ := Rv.lst_of rd
    have e2 := Rv.int_of re
    subst e2
    split
    · rename_i hl
      exact Run.new (o := .lst (List.replicate k.toNat xs).flatten) rs (fun p hp => Rv.lst (rs.fresh hp).1 (rs.fresh hp).2 upd_same (RvL.rep (RvL.le (Le.new rs hp) h2) _)) fun Q q => .inr (.inr ⟨_, k, xs, rfl, rfl, h1, hl.1, hl.2.1, by rw [← RvL.length h2]; exact hl.2.2, q⟩)
    · exact Run.bad
  · exact Run.bad
theorem me_mulA (ha : ME T X E a ma) (hb : ME T X E b mb) : ME T X E (.BinOp a .Mult b pos) (mOp fMul ma mb) := me_bin (OpR.or op_mulW (OpR.or op_repT op_rep)) o_mulA ha hb
def CPowW (i j : Int) : Prop := 0 ≤ j ∧ (Builtin.Int.intBits i : Int) * j ≤ 2 ^ 27
theorem op_powW : OpR X (binaryOp .Pow) (rI CPowW fun i j => .int (i ^ j.toNat)) := opI fun _ _ _ _ _ _ _ hc q => pow_int hc.1 hc.2 q
abbrev fPowW := f2Ic (fun i j => decide (0 ≤ j ∧ (Builtin.Int.intBits i : Int) * j ≤ 2 ^ 27)) fun i j => .int (i ^ j.toNat)
theorem o_powW : Op2 G E (rI CPowW fun i j => .int (i ^ j.toNat)) fPowW := op2Ic (fun i j h => show 0 ≤ j ∧ (Builtin.Int.intBits i : Int) * j ≤ 2 ^ 27 from of_decide_eq_true h) fun _ _ _ _ _ => Rv.int
theorem me_powW (ha : ME T X E a ma) (hb : ME T X E b mb) : ME T X E (.BinOp a .Pow b pos) (mOp fPowW ma mb) := me_bin op_powW o_powW ha hb
end
/-! ### the top's defs -/
section
variable (T : List Addr) (P : Program) (w : World) (K : PySem.W.Frag) (mg : Str → Option Value) (base : Heap)
/-- the def st stands at f under its name -/
structure DefAt (x : Str) (st : Stmt) (f : Addr) (fd : FuncData) : Prop where
  F : Fun K x x st f fd
  m : mg x = some (.ref f)
/-- a def that keeps the promise of its mirror -/
structure Cl (k : Nat) (x : Str) (ps : List Str) (f : Addr) (fd : FuncData) (n : Nat) (m : List D → Store → Res D) : Prop where
  ok : FnOk P w K mg base (L2.CX P w) k f fd ps (spM ⟨K, mg, T⟩ n m)
  m : mg x = some (.ref f)
  kp : PySem.W.keepIn K (.ref f) = true
  b : Binds K fd ps []
end
end MM

/-! a tuple, once. -/
namespace MM
open PySem PySem.Spec PyProof.Rows L2
theorem tuple_once (l : Addr) (its : Array Value) (n : Nat) (dd : Option Addr) (sl : Array (Option Value)) (u : Tok) :
    Meets (Builtin.«tuple.__mul__» ⟨[.ref l, .int 1 u], []⟩) (fun _ R s => s.heap.get? l = some { cls := .type "tuple", dict := dd, data := .seq its n, slots := sl } ∧ R (.ok (.ret (Value.ref l))) s) :=
  .of_wp fun prog w A R s h => by
    obtain ⟨hp, g, d, tk, os⟩ := s
    obtain ⟨hl, h⟩ := h
    have f1 := AutoSeq1.idx_int
    have c1 : (its.isEmpty || (1 : Int) == 1) = true := by rw [show ((1 : Int) == 1) = true from rfl, Bool.or_true]
    wp_walk using wpAny_loadPart' hl
    repeat (first
      | (refine wpAny_ite_false (decide_eq_false (by decide)) ?_; wp_walk using wpAny_loadPart' hl)
      | (refine wpAny_ite_true (decide_eq_true (by first | exact c1 | decide)) ?_; wp_walk using wpAny_loadPart' hl))
    exact ⟨_, rfl, h⟩
/-- a tuple, once: the same -/
def rOnce (K : PySem.W.Frag) : R2 := fun x y H Q => ∃ l xs, x = .ref l ∧ y = .int 1 ∧ SqT K H l xs ∧ Q (.ref l) H
theorem op_once {X : Cx} : OpR X (binaryOp .Mult) (rOnce X.K) := by
  intro pins s σ H x y v u Q I rx ry h
  obtain ⟨l, xs, rfl, rfl, hT, q⟩ := h
  cases rx
  obtain ⟨t, rfl⟩ := ry
  obtain ⟨its, r, ⟨⟨cls, dd, data, sl⟩, ho, hc, n, hd⟩, hs⟩ := I.tuple hT
  simp only at hc hd
  subst hc hd
  refine wpAny_binaryOp_repeat_ref (T := "tuple") (U := "int") (by decide) ⟨_, ho, rfl⟩ (fun s' => typeIs_int s' 1 t) noFill_tuple_mul F.fills_int_mul F.slot_int_rmul repeat_tuple F.slot_int_index.lookup
    (call_meets F.slot_int_rmul (typeIs_int s 1 t) F.entry_int_rmul (F.args_int_rmul_2 _ _) (int_rmul_tuple 1 t l its.toArray n dd sl)
      ⟨ho, rfl, ⟨_, ho, rfl⟩, call_meets F.slot_tuple_mul ⟨_, ho, rfl⟩ F.entry_tuple_mul (F.args_tuple_mul_2 _ _) (tuple_once l its.toArray n dd sl t) ⟨ho, ?_⟩⟩)
  exact ⟨.ref l, H, I, rfl, q⟩
def fMul1 : D → D → Store → Res D := fun x y S => match x, y with
  | .tup us, .int 1 => .ok (.tup us) S
  | x, y => fMul x y S
section
variable {T : List Addr} {X : Cx} {E : XK} {G : Gd} {a b : Expr} {ma mb : ME0} {pos : Pos}
theorem o_mul1 : Op2 G E (fun x y H Q => rOnce G.K x y H Q ∨ ((rI CMulW fun i j => .int (i * j)) x y H Q ∨ rRepT G.K x y H Q ∨ rRep x y H Q)) fMul1 := by
  intro R φ S H d e x y rs rd re
  unfold fMul1
  split
  · rename_i us
    obtain ⟨p, xs, rfl, h1, h2⟩ := Rv.tup_of rd
    have e2 := Rv.int_of re
    subst e2
    exact Run.ret rs rd fun Q q => .inl ⟨p, xs, rfl, rfl, h1, q⟩
  · exact Run.conv (o_mulA R φ S H d e x y rs rd re) fun Q q => .inr q
theorem me_mul1 (ha : ME T X E a ma) (hb : ME T X E b mb) : ME T X E (.BinOp a .Mult b pos) (mOp fMul1 ma mb) := me_bin (OpR.or op_once (OpR.or op_mulW (OpR.or op_repT op_rep))) o_mul1 ha hb
end
end MM

/-! an empty tuple, so many times. -/
namespace MM
open PySem PySem.Spec PyProof.Rows L2
theorem tuple_none (l : Addr) (its : Array Value) (n : Nat) (dd : Option Addr) (sl : Array (Option Value)) (u : Tok) (he : its.isEmpty = true) :
    Meets (Builtin.«tuple.__mul__» ⟨[.ref l, .int 2 u], []⟩) (fun _ R s => s.heap.get? l = some { cls := .type "tuple", dict := dd, data := .seq its n, slots := sl } ∧ R (.ok (.ret (Value.ref l))) s) :=
  .of_wp fun prog w A R s h => by
    obtain ⟨hp, g, d, tk, os⟩ := s
    obtain ⟨hl, h⟩ := h
    have f1 := AutoSeq1.idx_int
    have c1 : (its.isEmpty || (2 : Int) == 1) = true := by rw [he, Bool.true_or]
    wp_walk using wpAny_loadPart' hl
    repeat (first
      | (refine wpAny_ite_false (decide_eq_false (by decide)) ?_; wp_walk using wpAny_loadPart' hl)
      | (refine wpAny_ite_true (decide_eq_true (by first | exact c1 | decide)) ?_; wp_walk using wpAny_loadPart' hl))
    exact ⟨_, rfl, h⟩
/-- an empty tuple stays what it is -/
def rNone (K : PySem.W.Frag) : R2 := fun x y H Q => ∃ l, x = .ref l ∧ y = .int 2 ∧ SqT K H l [] ∧ Q (.ref l) H
theorem op_none {X : Cx} : OpR X (binaryOp .Mult) (rNone X.K) := by
  intro pins s σ H x y v u Q I rx ry h
  obtain ⟨l, rfl, rfl, hT, q⟩ := h
  cases rx
  obtain ⟨t, rfl⟩ := ry
  obtain ⟨its, r, ⟨⟨cls, dd, data, sl⟩, ho, hc, n, hd⟩, hs⟩ := I.tuple hT
  simp only at hc hd
  subst hc hd
  have he : its.toArray.isEmpty = true := by cases r; rfl
  refine wpAny_binaryOp_repeat_ref (T := "tuple") (U := "int") (by decide) ⟨_, ho, rfl⟩ (fun s' => typeIs_int s' 2 t) noFill_tuple_mul F.fills_int_mul F.slot_int_rmul repeat_tuple F.slot_int_index.lookup
    (call_meets F.slot_int_rmul (typeIs_int s 2 t) F.entry_int_rmul (F.args_int_rmul_2 _ _) (int_rmul_tuple 2 t l its.toArray n dd sl)
      ⟨ho, rfl, ⟨_, ho, rfl⟩, call_meets F.slot_tuple_mul ⟨_, ho, rfl⟩ F.entry_tuple_mul (F.args_tuple_mul_2 _ _) (tuple_none l its.toArray n dd sl t he) ⟨ho, ?_⟩⟩)
  exact ⟨.ref l, H, I, rfl, q⟩
def fMul0 : D → D → Store → Res D := fun x y S => match x, y with
  | .tup [], .int 2 => .ok (.tup []) S
  | x, y => fMul1 x y S
section
variable {T : List Addr} {X : Cx} {E : XK} {G : Gd} {a b : Expr} {ma mb : ME0} {pos : Pos}
theorem o_mul0 : Op2 G E (fun x y H Q => rNone G.K x y H Q ∨ (rOnce G.K x y H Q ∨ ((rI CMulW fun i j => .int (i * j)) x y H Q ∨ rRepT G.K x y H Q ∨ rRep x y H Q))) fMul0 := by
  intro R φ S H d e x y rs rd re
  unfold fMul0
  split
  · obtain ⟨p, xs, rfl, h1, h2⟩ := Rv.tup_of rd
    have e2 := Rv.int_of re
    subst e2
    unfold RvL at h2
    subst h2
    exact Run.ret rs rd fun Q q => .inl ⟨p, rfl, rfl, h1, q⟩
  · exact Run.conv (o_mul1 R φ S H d e x y rs rd re) fun Q q => .inr q
theorem me_mul0 (ha : ME T X E a ma) (hb : ME T X E b mb) : ME T X E (.BinOp a .Mult b pos) (mOp fMul0 ma mb) := me_bin (OpR.or op_none (OpR.or op_once (OpR.or op_mulW (OpR.or op_repT op_rep)))) o_mul0 ha hb
end
end MM

/-! Defs that make generators; calls by name of the top's defs. -/
namespace MM
open PySem L2 PyProof.Rows
section
variable {T : List Addr} {P : Program} {w : World} {K : PySem.W.Frag} {mg : Str → Option Value} {base : Heap}
theorem fn_okC {x qual : Str} {st : Stmt} {f : Addr} {fd : FuncData} {N ps : List Str} {k n : Nat} {m : MS0} {c : Addr} (F : Fun K x qual st f fd) (hc : fd.code = .ref c) (S : FnScope N ps (defScope st)) (hn : ps.length = n)
    (hbody : ∀ (A : Around) (outer : List Env) (s : Shared) (H : Hp) (E : XK), Room k (A.deeper (envOfC qual (defScope st) s.heap.objs.size f (.ref c))) →
      MSs T (cxOf (L2.CX P w) P w K mg base N qual (defScope st) f (.ref c) A outer s H E) E (defBody st) m) : FnOk P w K mg base (L2.CX P w) (k + 1) f fd ps (spM ⟨K, mg, T⟩ n (mDef N.length m)) := by
  obtain ⟨oc, od, kV, doc, pm, an, cdv, ct, osl, rfl, lk, hcd⟩ := F.ex
  have hc' : cdv = .ref c := hc
  subst hc'
  refine fn_of lk hcd S (fun vs H Q E h => ?_) fun A outer s H vs Q E hr h => ?_
  · obtain ⟨φ, R, S, ds, _, h1, h2, _⟩ := h
    rw [← RvL.length h1, h2, hn]
  · obtain ⟨φ, R, S, ds, rs, rv, hl, hb, hq, hx⟩ := h
    obtain ⟨t, pt, st⟩ := hbody A outer s H E hr
    refine ⟨t, pt, ?_⟩
    have e0 : mDef N.length m ds S = (m (ds.map some ++ List.replicate (N.length - ds.length) none) S).bind fun x S1 => match x.1 with
      | .nx => .ok .non S1
      | .rt d => .ok d S1
      | _ => .bad := rfl
    rw [e0] at hb hq hx
    refine st (L2.start N vs) H _ φ R S rs (start_rn rv) (fun o H' => match o with
      | .nx _ => Q .non H'
      | .rt v => Q v H'
      | _ => False) (fun y S' φ' o H' e1 l1 rs1 ro => ?_) (fun er S' φ' H' cl d e1 l1 rs1 xq => hx er S' φ' H' cl d (by rw [e1]; rfl) l1 rs1 xq) (fun e1 => hb (by rw [e1]; rfl))
    obtain ⟨fl, ρ'⟩ := y
    rw [e1, Res.bind_ok] at hb hq
    cases fl with
    | nx =>
      cases o with
      | nx σ => exact hq .non S' φ' .non H' rfl l1 rs1 Rv.non
      | _ => exact False.elim ro
    | rt d =>
      cases o with
      | rt v => exact hq d S' φ' v H' rfl l1 rs1 ro
      | _ => exact False.elim ro
    | bk => exact (hb rfl).elim
    | ct => exact (hb rfl).elim
theorem kto_of {x qual : Str} {st : Stmt} {f : Addr} {fd : FuncData} {ps ks : List Str} {n1 n2 : Nat} {ix : List Nat} (F : Fun K x qual st f fd)
    (h : ∀ (kV doc pm : Value) (an : Option Addr) (cdv ct : Value) (us ws : List Value), us.length = n1 → ws.length = n2 → bindArgs (PySem.W.fnOf x qual (defArgs st) (defBody st) (defScope st) .none kV doc pm an cdv ct) ⟨us, ks.zip ws⟩ = pure (ps.zip (perm n1 n2 ix us ws))) : KTo K fd ps ks n1 n2 ix := by
  obtain ⟨oc, od, kV, doc, pm, an, cdv, ct, osl, rfl, lk, hcd⟩ := F.ex
  exact fun s us ws _ h1 h2 => .of_eq (h kV doc pm an cdv ct us ws h1 h2)
end
end MM

/-! Dicts of the store. -/
namespace MM
open PySem L2 PyProof.Rows
/-! ### association lists -/
section
variable {κ : Type} [DecidableEq κ]
def alook (kvs : List (κ × D)) (k : κ) : Option D := (kvs.find? fun kv => decide (kv.1 = k)).map (·.2)
def aput (kvs : List (κ × D)) (k : κ) (d : D) : List (κ × D) :=
  if (kvs.any fun kv => decide (kv.1 = k)) = true then kvs.map (fun kv => if kv.1 = k then (kv.1, d) else kv) else kvs ++ [(k, d)]
variable {G : Gd} {R φ : List Addr} {H : Hp}
theorem alook_cons {p : κ × D} {r : List (κ × D)} {k : κ} : alook (p :: r) k = if p.1 = k then some p.2 else alook r k := by
  unfold alook
  by_cases e : p.1 = k <;> simp [List.find?_cons, e]
theorem alook_rel (k : κ) : ∀ {kvs : List (κ × D)} {ws : List V}, RvL G R φ H (kvs.map (·.2)) ws → (alook kvs k = none ∧ valV ((kvs.map (·.1)).zip ws) k = none) ∨ ∃ d v, alook kvs k = some d ∧ valV ((kvs.map (·.1)).zip ws) k = some v ∧ Rv G R φ H d v
  | [], ws, h => by
    rw [List.map_nil] at h
    unfold RvL at h
    subst h
    exact .inl ⟨rfl, rfl⟩
  | p :: r, ws, h => by
    rw [List.map_cons] at h
    unfold RvL at h
    obtain ⟨v, t, rfl, h1, h2⟩ := h
    rw [alook_cons, List.map_cons, List.zip_cons_cons]
    by_cases e : p.1 = k
    · rw [if_pos e]
      exact .inr ⟨_, v, rfl, valV_pos e, h1⟩
    · rw [if_neg e, valV_neg (p := (p.1, v)) e]
      exact alook_rel k h2
theorem any_zip (k : κ) : ∀ {kvs : List (κ × D)} {ws : List V}, kvs.length = ws.length → (((kvs.map (·.1)).zip ws).any fun kv => decide (kv.1 = k)) = kvs.any fun kv => decide (kv.1 = k)
  | [], ws, h => by simp
  | p :: r, [], h => by simp at h
  | p :: r, w :: ws, h => by
    rw [List.map_cons, List.zip_cons_cons, List.any_cons, List.any_cons, any_zip k (by simpa using h)]
theorem map_rel (k : κ) {d : D} {v : V} (hv : Rv G R φ H d v) : ∀ {kvs : List (κ × D)} {ws : List V}, RvL G R φ H (kvs.map (·.2)) ws → ∃ us, RvL G R φ H ((kvs.map fun kv => if kv.1 = k then (kv.1, d) else kv).map (·.2)) us ∧
    ((kvs.map (·.1)).zip ws).map (fun kv => if kv.1 = k then (kv.1, v) else kv) = ((kvs.map fun kv => if kv.1 = k then (kv.1, d) else kv).map (·.1)).zip us
  | [], ws, h => by
    rw [List.map_nil] at h
    unfold RvL at h
    subst h
    exact ⟨[], RvL.nil, rfl⟩
  | p :: r, ws, h => by
    rw [List.map_cons] at h
    unfold RvL at h
    obtain ⟨w, t, rfl, h1, h2⟩ := h
    obtain ⟨us, u1, u2⟩ := map_rel k hv h2
    simp only [List.map_cons, List.zip_cons_cons]
    by_cases e : p.1 = k
    · refine ⟨v :: us, ?_, ?_⟩
      · rw [if_pos e]
        exact RvL.cons hv u1
      · rw [List.zip_cons_cons, u2, if_pos e, if_pos e]
    · refine ⟨w :: us, ?_, ?_⟩
      · rw [if_neg e]
        exact RvL.cons h1 u1
      · rw [List.zip_cons_cons, u2, if_neg e, if_neg e]
theorem aput_rel {k : κ} {d : D} {v : V} (hv : Rv G R φ H d v) {kvs : List (κ × D)} {ws : List V} (h : RvL G R φ H (kvs.map (·.2)) ws) : ∃ us, RvL G R φ H ((aput kvs k d).map (·.2)) us ∧ putK ((kvs.map (·.1)).zip ws) k v = ((aput kvs k d).map (·.1)).zip us := by
  have hl : kvs.length = ws.length := by
    have := RvL.length h
    rw [List.length_map] at this
    exact this
  unfold aput putK
  rw [any_zip k hl]
  split
  · exact map_rel k hv h
  · refine ⟨ws ++ [v], ?_, ?_⟩
    · rw [List.map_append]
      exact RvL.append h (RvL.cons hv RvL.nil)
    · rw [List.map_append, List.zip_append (by rw [List.length_map]; exact hl)]
      rfl
end
/-! ### keys -/
def keyOf : D → Option Key
  | .int i => some (.inl i)
  | .str s => some (.inr s)
  | _ => none
def keysOf : List D → Option (List Key)
  | [] => some []
  | d :: ds => match keyOf d, keysOf ds with
    | some k, some ks => some (k :: ks)
    | _, _ => none
section
variable {G : Gd} {E : XK} {R φ : List Addr} {S : Store} {H : Hp}
theorem keyOf_v {d : D} {v : V} {k : Key} (h : Rv G R φ H d v) (e : keyOf d = some k) : v = kV k := by
  cases d with
  | int i => cases e; rw [Rv.int_of h]; rfl
  | str s => cases e; rw [Rv.str_of h]; rfl
  | _ => cases e
theorem keysOf_v : ∀ {ds : List D} {vs : List V} {ks : List Key}, RvL G R φ H ds vs → keysOf ds = some ks → vs = ks.map kV
  | [], vs, ks, h, e => by
    unfold keysOf at e
    unfold RvL at h
    cases e
    exact h
  | d :: ds, vs, ks, h, e => by
    unfold keysOf at e
    unfold RvL at h
    obtain ⟨v, t, rfl, h1, h2⟩ := h
    cases hk : keyOf d with
    | none => rw [hk] at e; cases e
    | some k =>
      cases hs : keysOf ds with
      | none => rw [hk, hs] at e; cases e
      | some l =>
        rw [hk, hs] at e
        cases e
        rw [keyOf_v h1 hk, keysOf_v h2 hs]
        rfl
/-- what a dict of the store holds: none where it is no dict, or the key none of its kind -/
def dget (S : Store) (n : Nat) (y : D) : Option (Option D) := match (S[n]?).map O.base with
  | some (.dct kvs) => (keyOf y).map fun k => alook kvs k
  | some (.dcT kvs) => match y with
    | .tup ds => (keysOf ds).map fun k => alook kvs k
    | _ => none
  | _ => none
theorem dget_v {n : Nat} {x y : V} {d : D} {o : Option D} (rs : Rs G R φ S H) (rx : Rv G R φ H (.ref n) x) (ry : Rv G R φ H d y) (e : dget S n d = some o) : ∃ a r, x = .ref a ∧ DGet H a y r ∧ ((o = none ∧ r = none) ∨ ∃ z v, o = some z ∧ r = some v ∧ Rv G R φ H z v) := by
  obtain ⟨a, rfl, ha⟩ := Rv.ref_of rx
  unfold dget at e
  cases ho : S[n]? with
  | none => rw [ho] at e; cases e
  | some ob =>
    rw [ho] at e
    obtain ⟨vs, u0, eu0, sh0, rl0⟩ := rs.obj n ob a ho ha
    obtain ⟨u, eu, sh, ek0⟩ := sh0.rd eu0
    rw [← ek0] at rl0
    have rl := rl0
    rw [Option.map_some] at e
    generalize ob.base = ob at e sh rl
    cases ob with
    | lst ds => cases e
    | ins c fs => cases e
    | lk o => cases e
    | dct kvs =>
      have sh' : u = .dK _ := sh
      subst sh'
      obtain ⟨k, ek, eo⟩ := Option.map_eq_some_iff.mp e
      have ev := keyOf_v ry ek
      subst ev
      refine ⟨a, _, rfl, .inl ⟨_, k, eu, rfl, rfl⟩, ?_⟩
      rw [← eo]
      rcases alook_rel k (kvs := kvs) rl with ⟨h1, h2⟩ | ⟨z, v, h1, h2, h3⟩
      · exact .inl ⟨h1, h2⟩
      · exact .inr ⟨z, v, h1, h2, h3⟩
    | dcT kvs =>
      have sh' : u = .dT _ := sh
      subst sh'
      cases d with
      | tup ds =>
        obtain ⟨k, ek, eo⟩ := Option.map_eq_some_iff.mp e
        obtain ⟨b, ws, rfl, hb, rw'⟩ := Rv.tup_at ry
        have ev := keysOf_v rw' ek
        subst ev
        refine ⟨a, _, rfl, .inr ⟨_, k, b, eu, rfl, hb, rfl⟩, ?_⟩
        rw [← eo]
        rcases alook_rel k (kvs := kvs) rl with ⟨h1, h2⟩ | ⟨z, v, h1, h2, h3⟩
        · exact .inl ⟨h1, h2⟩
        · exact .inr ⟨z, v, h1, h2, h3⟩
      | _ => cases e
/-! ### d[k] -/
def fDGet : D → D → Store → Res D := fun x y S => match x with
  | .ref n => match dget S n y with
    | some (some d) => .ok d S
    | _ => .bad
  | _ => .bad
/-- o[i]: a list, a tuple or a dict -/
def fIxD : D → D → Store → Res D := fun x y S => match x with
  | .ref n => match dget S n y with
    | some (some d) => .ok d S
    | some none => .bad
    | none => fIx x y S
  | _ => fIx x y S
theorem o_dget : Op2 G E (fun x y H Q => ∃ a v, x = .ref a ∧ DGet H a y (some v) ∧ Q v H) fDGet := by
  intro R φ S H d e x y rs rd re
  cases d with
  | ref n =>
    show Run G E R φ H _ (match dget S n e with
      | some (some d) => .ok d S
      | _ => .bad) _
    split
    · rename_i d hd
      obtain ⟨a, r, rfl, g, h⟩ := dget_v rs rd re hd
      rcases h with ⟨h, _⟩ | ⟨z, v, h1, h2, h3⟩
      · cases h
      · cases h1
        subst h2
        exact Run.ret rs h3 fun Q q => ⟨a, v, rfl, g, q⟩
    · exact Run.bad
  | _ => exact Run.bad
theorem fIxD_or (x y : D) (S : Store) : fIxD x y S = fIx x y S ∨ fIxD x y S = fDGet x y S := by
  unfold fIxD fDGet
  cases x with
  | ref n =>
    dsimp only
    cases dget S n y with
    | none => exact .inl rfl
    | some o =>
      cases o with
      | none => exact .inr rfl
      | some d => exact .inr rfl
  | _ => exact .inl rfl
theorem SndE.alt {t1 t2 : TE} {m m1 m2 : ME0} (h1 : SndE G E t1 m1) (h2 : SndE G E t2 m2) (h : ∀ ρ S, m ρ S = m1 ρ S ∨ m ρ S = m2 ρ S) : SndE G E (fun σ H Q => t1 σ H Q ∨ t2 σ H Q) m := by
  intro σ H ρ φ R S rs rn
  rcases h ρ S with e | e
  · rw [e]
    exact Run.conv (h1 σ H ρ φ R S rs rn) fun Q q => .inl q
  · rw [e]
    exact Run.conv (h2 σ H ρ φ R S rs rn) fun Q q => .inr q
theorem mOp_or {f f1 f2 : D → D → Store → Res D} {ma mb : ME0} (h : ∀ x y S, f x y S = f1 x y S ∨ f x y S = f2 x y S) (ρ : Rho) (S : Store) : mOp f ma mb ρ S = mOp f1 ma mb ρ S ∨ mOp f ma mb ρ S = mOp f2 ma mb ρ S := by
  unfold mOp
  cases ma ρ S with
  | ok x S1 =>
    dsimp only [Res.bind_ok]
    cases mb ρ S1 with
    | ok y S2 => exact h x y S2
    | exc e S2 => exact .inl rfl
    | bad => exact .inl rfl
  | exc e S1 => exact .inl rfl
  | bad => exact .inl rfl
theorem PE.or {X : Cx} {e : Expr} {t1 t2 : TE} (h1 : PE X e t1) (h2 : PE X e t2) : PE X e (fun σ H Q => t1 σ H Q ∨ t2 σ H Q) := ⟨fun pins s σ H Q I h => h.elim (h1.run pins s σ H Q I) (h2.run pins s σ H Q I)⟩
end
section
variable {T : List Addr} {X : Cx} {E : XK} {a b : Expr} {ma mb : ME0} {pos : Pos}
theorem me_ixD (hu : X.A.units + 64 < cLine) (ha : ME T X E a ma) (hb : ME T X E b mb) (hs : PlainIx b := by exact fun _ _ => rfl) (hs2 : NoSl b := by exact fun _ _ => rfl) : ME T X E (.Subscript a b pos) (mOp fIxD ma mb) := by
  obtain ⟨ta, pa, sa⟩ := ha
  obtain ⟨tb, pb, sb⟩ := hb
  refine ⟨_, PE.or (pe_ix ix_seq pa pb hs) (pe_dget (Nat.lt_of_le_of_lt (Nat.add_le_add_left (by decide : 1 ≤ 64) _) hu) pa pb hs2), SndE.alt (SndE.op sa sb o_ix) (SndE.op (r := fun x y H Q => ∃ a v, x = .ref a ∧ DGet H a y (some v) ∧ Q v H) sa sb o_dget) (mOp_or fIxD_or)⟩
/-! ### in, not in -/
def fInD (neg : Bool) : D → D → Store → Res D := fun y x S => match x with
  | .ref n => match dget S n y with
    | some o => .ok (.bl (if neg then !o.isSome else o.isSome)) S
    | none => .bad
  | _ => .bad
def rInD (neg : Bool) : R2 := fun y x H Q => ∃ a o, x = .ref a ∧ DGet H a y o ∧ Q (.bl (if neg then !o.isSome else o.isSome)) H
theorem op_inD (hu : X.A.units + 64 < cLine) : OpR X (compareOp .In) (rInD false) := fun pins s σ H x y u v Q I rx ry ⟨a, o, ex, g, q⟩ => by
  subst ex
  obtain rfl : v = Value.ref a := ry
  exact d_in (Nat.lt_of_le_of_lt (Nat.add_le_add_left (by decide : 1 ≤ 64) _) hu) I g rx fun s3 I3 => ⟨.bl o.isSome, H, I3, rfl, q⟩
theorem op_notInD (hu : X.A.units + 64 < cLine) : OpR X (compareOp .NotIn) (rInD true) := fun pins s σ H x y u v Q I rx ry ⟨a, o, ex, g, q⟩ => by
  subst ex
  obtain rfl : v = Value.ref a := ry
  exact d_notIn (Nat.lt_of_le_of_lt (Nat.add_le_add_left (by decide : 1 ≤ 64) _) hu) I g rx fun s3 I3 => ⟨.bl (!o.isSome), H, I3, rfl, q⟩
theorem o_inD {G : Gd} {neg : Bool} : Op2 G E (rInD neg) (fInD neg) := by
  intro R φ S H d e x y rs rd re
  cases e with
  | ref n =>
    show Run G E R φ H _ (match dget S n d with
      | some o => .ok (D.bl (if neg then !o.isSome else o.isSome)) S
      | none => .bad) _
    split
    · rename_i o hd
      obtain ⟨a, r, rfl, g, h⟩ := dget_v rs re rd hd
      have er : r.isSome = o.isSome := by
        rcases h with ⟨h1, h2⟩ | ⟨z, v, h1, h2, h3⟩
        · rw [h1, h2]; rfl
        · rw [h1, h2]; rfl
      exact Run.ret rs (Rv.bl (b := if neg then !o.isSome else o.isSome)) fun Q q => ⟨a, r, rfl, g, by rw [er]; exact q⟩
    · exact Run.bad
  | _ => exact Run.bad
/-! ### {} -/
def mDct0 : ME0 := fun _ S => .ok (.ref S.length) (S ++ [.dct []])
def mDcT0 : ME0 := fun _ S => .ok (.ref S.length) (S ++ [.dcT []])
theorem me_dct0 : ME T X E (.Dict [] [] pos) mDct0 := ⟨_, pe_dnewK, fun σ H ρ φ R S rs rn => Run.alloc (o := .dK []) (o' := .dct []) rs (fun p hp => ⟨[], _, upd_same, rfl, RvL.nil⟩) fun Q q => q⟩
theorem me_dcT0 : ME T X E (.Dict [] [] pos) mDcT0 := ⟨_, pe_dnewT, fun σ H ρ φ R S rs rn => Run.alloc (o := .dT []) (o' := .dcT []) rs (fun p hp => ⟨[], _, upd_same, rfl, RvL.nil⟩) fun Q q => q⟩
end
end MM

/-! o[i] = value: lists and dicts of the store. -/
namespace MM
open PySem L2 PyProof.Rows
def setAt (S : Store) : D → D → D → Option Store := fun o i d => match o with
  | .ref n => match S[n]? with
    | some (.lst ds) => match i with
      | .int k => (ixN ds.length k).map fun j => S.set n (.lst (ds.set j d))
      | _ => none
    | some (.dct kvs) => match keyOf i with
      | some k => if kvs.length < sizeLine then some (S.set n (.dct (aput kvs k d))) else none
      | none => none
    | some (.dcT kvs) => match i with
      | .tup ds => match keysOf ds with
        | some k => if kvs.length < sizeLine then some (S.set n (.dcT (aput kvs k d))) else none
        | none => none
      | _ => none
    | _ => none
  | _ => none
section
variable {G : Gd} {E : XK} {R φ : List Addr} {S S' : Store} {H : Hp}
theorem zip_len {α β : Type} {as : List α} {bs : List β} (h : as.length = bs.length) : (as.zip bs).length = as.length := by
  rw [List.length_zip]
  omega
theorem set_snd {o i d : D} {ov iv v : V} (rs : Rs G R φ S H) (ro : Rv G R φ H o ov) (ri : Rv G R φ H i iv) (rd : Rv G R φ H d v) (e : setAt S o i d = some S') :
    ∃ H', (∀ Q : Hp → Prop, Q H' → rSetL ov iv v H Q ∨ rSetD ov iv v H Q) ∧ Le φ H φ H' ∧ Rs G R φ S' H' := by
  cases o with
  | ref n =>
    obtain ⟨a, rfl, ha⟩ := Rv.ref_of ro
    unfold setAt at e
    dsimp only at e
    cases ho : S[n]? with
    | none => rw [ho] at e; cases e
    | some ob =>
      rw [ho] at e
      obtain ⟨vs, u, eu, sh, rl⟩ := rs.obj n ob a ho ha
      cases ob with
      | ins c fs => cases e
      | lk o => cases e
      | lst ds =>
        have sh' : u = .lst vs := sh
        subst sh'
        cases i with
        | int k =>
          obtain ⟨j, hj, ej⟩ := Option.map_eq_some_iff.mp e
          subst ej
          have lw : Le φ H φ (upd H a (.lst (vs.set j v))) := Le.write rs ha (nfz eu (fun _ _ z => nomatch z))
          exact ⟨_, fun Q q => .inl ⟨a, vs, k, j, rfl, Rv.int_of ri, eu, by rw [← RvL.length rl]; exact hj, q⟩, lw, rs.write (o := .lst (ds.set j d)) ha (nfz eu (fun _ _ z => nomatch z)) (Ro.mkL upd_same (RvL.set (RvL.le lw rl) (Rv.le lw rd)))⟩
        | _ => cases e
      | dct kvs =>
        have sh' : u = .dK _ := sh
        subst sh'
        dsimp only at e
        cases hk : keyOf i with
        | none => rw [hk] at e; cases e
        | some k =>
          rw [hk] at e
          dsimp only at e
          by_cases hl : kvs.length < sizeLine
          · rw [if_pos hl] at e
            cases e
            have ev := keyOf_v ri hk
            subst ev
            have ll : (kvs.map (·.1)).length = vs.length := by
              have := RvL.length rl
              unfold kids at this
              rw [List.length_map] at this ⊢
              exact this
            have lw : Le φ H φ (upd H a (.dK (putK ((kvs.map (·.1)).zip vs) k v))) := Le.write rs ha (nfz eu (fun _ _ z => nomatch z))
            obtain ⟨us, u1, u2⟩ := aput_rel (k := k) (Rv.le lw rd) (kvs := kvs) (RvL.le lw rl)
            refine ⟨_, fun Q q => .inr ⟨a, _, rfl, .inl ⟨_, k, eu, rfl, by rw [zip_len ll, List.length_map]; exact hl, rfl⟩, q⟩, lw, rs.write (o := .dct (aput kvs k d)) ha (nfz eu (fun _ _ z => nomatch z)) ⟨us, _, upd_same, ?_, u1⟩⟩
            show HO.dK _ = HO.dK _
            rw [u2]
          · rw [if_neg hl] at e
            cases e
      | dcT kvs =>
        have sh' : u = .dT _ := sh
        subst sh'
        cases i with
        | tup ds =>
          dsimp only at e
          cases hk : keysOf ds with
          | none => rw [hk] at e; cases e
          | some k =>
            rw [hk] at e
            dsimp only at e
            by_cases hl : kvs.length < sizeLine
            · rw [if_pos hl] at e
              cases e
              obtain ⟨b, ws, rfl, hb, rw'⟩ := Rv.tup_at ri
              have ev := keysOf_v rw' hk
              subst ev
              have ll : (kvs.map (·.1)).length = vs.length := by
                have := RvL.length rl
                unfold kids at this
                rw [List.length_map] at this ⊢
                exact this
              have lw : Le φ H φ (upd H a (.dT (putK ((kvs.map (·.1)).zip vs) k v))) := Le.write rs ha (nfz eu (fun _ _ z => nomatch z))
              obtain ⟨us, u1, u2⟩ := aput_rel (k := k) (Rv.le lw rd) (kvs := kvs) (RvL.le lw rl)
              refine ⟨_, fun Q q => .inr ⟨a, _, rfl, .inr ⟨_, k, b, eu, rfl, hb, by rw [zip_len ll, List.length_map]; exact hl, rfl⟩, q⟩, lw, rs.write (o := .dcT (aput kvs k d)) ha (nfz eu (fun _ _ z => nomatch z)) ⟨us, _, upd_same, ?_, u1⟩⟩
              show HO.dT _ = HO.dT _
              rw [u2]
            · rw [if_neg hl] at e
              cases e
        | _ => cases e
  | _ => cases e
end
def gSt (mo mi : ME0) : MG0 := fun d ρ S => (mo ρ S).bind fun o S1 => (mi ρ S1).bind fun i S2 => match setAt S2 o i d with
  | some S3 => .ok ρ S3
  | none => .bad
section
variable {T : List Addr} {X : Cx} {E : XK} {pos : Pos}
theorem set_both (hu : X.A.units + 64 < cLine) : PSet X (fun o i v H Q => rSetL o i v H Q ∨ rSetD o i v H Q) := fun pins s σ H o i v ov iv u Q I ro ri rv h =>
  h.elim (set_list pins s σ H o i v ov iv u Q I ro ri rv) (set_dict (Nat.lt_of_le_of_lt (Nat.add_le_add_left (by decide : 1 ≤ 64) _) hu) pins s σ H o i v ov iv u Q I ro ri rv)
theorem mg_st (hu : X.A.units + 64 < cLine) {o i : Expr} {mo mi : ME0} (ho : ME T X E o mo) (hi : ME T X E i mi)
    (ha : ∀ v, assign (.Subscript o i pos) X.env v = (do
      let ov ← holding [v] (eval o X.env)
      let iv ← holding [v, ov] (eval i X.env)
      standAt pos
      holding [v, ov, iv] (setItem ov iv v)
      release [v, ov, iv] []) := by intro _; rfl) : MG T X E (.Subscript o i pos) (gSt mo mi) := by
  obtain ⟨to, po, so⟩ := ho
  obtain ⟨ti, pi, si⟩ := hi
  refine ⟨_, pg_sub po pi (set_both hu) ha, fun d v σ H ρ φ R S rs rn r => ?_⟩
  refine Run.bnd (c' := fun o H1 Q => ti σ H1 fun i H2 => (rSetL o i v H2 fun H3 => Q σ H3) ∨ rSetD o i v H2 fun H3 => Q σ H3) (so σ H ρ φ R S rs rn) (fun o S1 φ1 ov H1 _ l1 rs1 r1 => ?_) fun Q q => q
  refine Run.bnd (c' := fun i H2 Q => (rSetL ov i v H2 fun H3 => Q σ H3) ∨ rSetD ov i v H2 fun H3 => Q σ H3) (si σ H1 ρ φ1 R S1 rs1 (rn.le l1)) (fun i S2 φ2 iv H2 _ l2 rs2 r2 => ?_) fun Q q => q
  have l12 := l1.trans l2
  split
  · rename_i S3 hS
    obtain ⟨H', h1, h2, h3⟩ := set_snd rs2 (Rv.le l2 r1) r2 (Rv.le l12 r) hS
    intro Q hq _ _
    exact h1 (fun H3 => Q σ H3) (hq ρ _ φ2 σ _ rfl h2 h3 (rn.le (l12.trans h2)))
  · exact Run.bad
end
end MM

/-! Instances of the program's classes: attributes, their setting, making, methods, properties. -/
namespace MM
open PySem L2 PyProof.Rows
/-- the class of that name stands at C and is plain -/
structure ClsAt (K : PySem.W.Frag) (mg : Str → Option Value) (c : Str) (C : Addr) : Prop where
  m : mg c = some (.ref C)
  cls : Cls K C
def fput (f : Str) (d : D) : List (Str × D) → List (Str × D)
  | [] => [(f, d)]
  | (g, x) :: r => if g = f then (g, d) :: r else (g, x) :: fput f d r
section
variable {G : Gd} {E : XK} {R φ : List Addr} {S : Store} {H : Hp}
theorem lookup_rel (f : Str) : ∀ {fs : List (Str × D)} {ws : List V} {d : D}, RvL G R φ H (fs.map (·.2)) ws → fs.lookup f = some d → ∃ v, ((fs.map (·.1)).zip ws).lookup f = some v ∧ Rv G R φ H d v
  | [], ws, d, h, e => by cases e
  | (g, x) :: r, ws, d, h, e => by
    rw [List.map_cons] at h
    unfold RvL at h
    obtain ⟨v, t, rfl, h1, h2⟩ := h
    rw [List.map_cons, List.zip_cons_cons]
    rw [List.lookup_cons] at e ⊢
    cases hb : f == g with
    | true =>
      rw [hb] at e
      cases e
      exact ⟨v, by simp only [hb], h1⟩
    | false =>
      rw [hb] at e
      obtain ⟨u, u1, u2⟩ := lookup_rel f h2 e
      exact ⟨u, by simp only [hb]; exact u1, u2⟩
theorem fput_rel (f : Str) {d : D} {v : V} (hv : Rv G R φ H d v) : ∀ {fs : List (Str × D)} {ws : List V}, RvL G R φ H (fs.map (·.2)) ws → ∃ us, RvL G R φ H ((fput f d fs).map (·.2)) us ∧ putF f v ((fs.map (·.1)).zip ws) = ((fput f d fs).map (·.1)).zip us
  | [], ws, h => ⟨[v], RvL.cons hv RvL.nil, rfl⟩
  | (g, x) :: r, ws, h => by
    rw [List.map_cons] at h
    unfold RvL at h
    obtain ⟨w, t, rfl, h1, h2⟩ := h
    obtain ⟨us, u1, u2⟩ := fput_rel f hv h2
    unfold fput
    rw [List.map_cons, List.zip_cons_cons]
    unfold putF
    by_cases e : g = f
    · rw [if_pos e, if_pos e]
      exact ⟨v :: t, RvL.cons hv h2, by rw [List.map_cons, List.zip_cons_cons]⟩
    · rw [if_neg e, if_neg e]
      exact ⟨w :: us, RvL.cons h1 u1, by rw [List.map_cons, List.zip_cons_cons, u2]⟩
end
/-- the instance of the class c at n: its attributes -/
def insAt (S : Store) (c : Str) (n : Nat) : Option (List (Str × D)) := match S[n]? with
  | some (.ins c' fs) => if c' = c then some fs else none
  | _ => none
theorem insAt_of {S : Store} {c : Str} {n : Nat} {fs : List (Str × D)} (h : insAt S c n = some fs) : S[n]? = some (.ins c fs) := by
  unfold insAt at h
  split at h
  · rename_i c' fs' h'
    split at h
    · rename_i e
      cases h
      rw [h', e]
    · cases h
  · cases h
/-- e.f -/
def fFld (c f : Str) : D → Store → Res D := fun x S => match x with
  | .ref n => match insAt S c n with
    | some fs => match fs.lookup f with
      | some d => .ok d S
      | none => .bad
    | none => .bad
  | _ => .bad
section
variable {T : List Addr} {X : Cx} {E : XK} {e o : Expr} {c f : Str} {C : Addr} {pos pos' : Pos} {me mo : ME0}
theorem Rs.ins {G : Gd} {R φ : List Addr} {S : Store} {H : Hp} {n : Nat} {fs : List (Str × D)} {v : V} {C : Addr} (r : Rs G R φ S H) (h : Rv G R φ H (.ref n) v) (e : insAt S c n = some fs) (hc : G.mg c = some (.ref C)) : ∃ a dx vs, v = .ref a ∧ φ[n]? = some a ∧ H a = some (.ins C dx ((fs.map (·.1)).zip vs)) ∧ RvL G R φ H (fs.map (·.2)) vs := by
  obtain ⟨a, rfl, ha⟩ := Rv.ref_of h
  obtain ⟨vs, u, eu, ⟨C', dx, hC', sh⟩, rl⟩ := r.obj n _ a (insAt_of e) ha
  rw [hc] at hC'
  cases hC'
  subst sh
  exact ⟨a, dx, vs, rfl, ha, eu, rl⟩
theorem me_fld (A : ClsAt X.K X.mg c C) (na : NoAttr X.K C f) (h : ME T X E e me) (hb : attributeBase e f X.env (eval e X.env) = eval e X.env := by rfl) : ME T X E (.Attribute e f pos) (mUn (fFld c f) me) := by
  obtain ⟨t, pt, s⟩ := h
  refine ⟨_, pe_fld pt hb, fun σ H ρ φ R S rs rn => Run.bnd (c' := fun (x : V) H1 (Q : VK) => ∃ a C dx fs v, x = V.ref a ∧ H1 a = some (.ins C dx fs) ∧ Cls X.K C ∧ NoAttr X.K C f ∧ fs.lookup f = some v ∧ Q v H1) (s σ H ρ φ R S rs rn) (fun d S1 φ1 x H1 _ l1 rs1 r1 => ?_) fun Q q => q⟩
  unfold fFld
  split
  · rename_i n
    split
    · rename_i fs hfs
      split
      · rename_i d hd
        obtain ⟨a, dx, vs, rfl, ha, h1, h2⟩ := rs1.ins r1 hfs A.m
        obtain ⟨v, e1, e2⟩ := lookup_rel f h2 hd
        exact Run.ret rs1 e2 fun Q q => ⟨a, C, dx, _, v, rfl, h1, A.cls, na, e1, q⟩
      · exact Run.bad
    · exact Run.bad
  · exact Run.bad
/-- o.f = value -/
def sFld (c f : Str) (mv mo : ME0) : MS0 := fun ρ S => (mv ρ S).bind fun d S1 => (mo ρ S1).bind fun x S2 => match x with
  | .ref n => match insAt S2 c n with
    | some fs => if fs.length < 1000 then .ok (.nx, ρ) (S2.set n (.ins c (fput f d fs))) else .bad
    | none => .bad
  | _ => .bad
theorem ms_fld {value : Expr} {mv : ME0} (A : ClsAt X.K X.mg c C) (na : NoAttr X.K C f) (hv : ME T X E value mv) (ho : ME T X E o mo) (hs : swapsWith value (some (.Attribute o f pos')) pos.line X.env = pure false := by rfl) : MS T X E (.Assign [.Attribute o f pos'] value pos) (sFld c f mv mo) := by
  obtain ⟨tv, pv, sv⟩ := hv
  obtain ⟨to, po, so⟩ := ho
  refine ⟨_, ps_fld po pv hs, fun σ H ρ φ R S rs rn => ?_⟩
  refine Run.bnd (c' := fun (y : V) H1 (Q : Out → Hp → Prop) => to σ H1 fun x H2 => ∃ a C dx fs, x = V.ref a ∧ H2 a = some (.ins C dx fs) ∧ Cls X.K C ∧ NoAttr X.K C f ∧ fs.length < 1000 ∧ Q (.nx σ) (upd H2 a (.ins C dx (putF f y fs)))) (sv σ H ρ φ R S rs rn) (fun d S1 φ1 y H1 _ l1 rs1 r1 => ?_) fun Q q => q
  refine Run.bnd (c' := fun (x : V) H2 (Q : Out → Hp → Prop) => ∃ a C dx fs, x = V.ref a ∧ H2 a = some (.ins C dx fs) ∧ Cls X.K C ∧ NoAttr X.K C f ∧ fs.length < 1000 ∧ Q (.nx σ) (upd H2 a (.ins C dx (putF f y fs)))) (so σ H1 ρ φ1 R S1 rs1 (rn.le l1)) (fun x S2 φ2 xv H2 _ l2 rs2 r2 => ?_) fun Q q => q
  split
  · rename_i n
    split
    · rename_i fs hfs
      split
      · rename_i hl
        obtain ⟨a, dx, vs, rfl, ha, h1, h2⟩ := rs2.ins r2 hfs A.m
        have ll : (fs.map (·.1)).length = vs.length := by
          have := RvL.length h2
          rw [List.length_map] at this ⊢
          exact this
        have lw : Le φ2 H2 φ2 (upd H2 a (.ins C dx (putF f y ((fs.map (·.1)).zip vs)))) := Le.write rs2 ha (nfz h1 (fun _ _ z => nomatch z))
        obtain ⟨us, u1, u2⟩ := fput_rel f (Rv.le (l2.trans lw) r1) (RvL.le lw h2)
        have rw' := rs2.write (ho := .ins C dx (putF f y ((fs.map (·.1)).zip vs))) (o := .ins c (fput f d fs)) ha (nfz h1 (fun _ _ z => nomatch z)) ⟨us, _, upd_same, ⟨C, dx, A.m, by rw [u2]⟩, u1⟩
        intro Q hq _ _
        refine ⟨a, C, dx, _, rfl, h1, A.cls, na, by rw [zip_len ll, List.length_map]; exact hl, ?_⟩
        exact hq (.nx, ρ) _ φ2 (.nx σ) _ rfl lw rw' (rn.le (l1.trans (l2.trans lw)))
      · exact Run.bad
    · exact Run.bad
  · exact Run.bad
end
end MM

/-! Making, methods, properties. -/
namespace MM
open PySem L2 PyProof.Rows
/-- constants, whatever the heap -/
def Consts (ds : List D) (vs : List V) : Prop := ∀ (G : Gd) (R φ : List Addr) (H : Hp), RvL G R φ H ds vs
theorem Consts.nil : Consts [] [] := fun _ _ _ _ => RvL.nil
def mMake (c : Str) (m : List D → Store → Res D) (cds : List D) (ma : MA0) : ME0 := fun ρ S => (ma ρ S).bind fun us S1 => (m (.ref S1.length :: (us ++ cds)) (S1 ++ [.ins c []])).bind fun r S2 => match r with
  | .non => .ok (.ref S1.length) S2
  | _ => .bad
/-- a method by values -/
def mMeth (c : Str) (x : Str) (m : List D → Store → Res D) (cds : List D) (mo : ME0) (ma : MA0) : ME0 := fun ρ S => (mo ρ S).bind fun o S1 => match o with
  | .ref n => match insAt S1 c n with
    | some fs => match fs.lookup x with
      | none => (ma ρ S1).bind fun us S2 => m (o :: (us ++ cds)) S2
      | some _ => .bad
    | none => .bad
  | _ => .bad
def mProp (c : Str) (m : List D → Store → Res D) (mo : ME0) : ME0 := fun ρ S => (mo ρ S).bind fun o S1 => match o with
  | .ref n => match insAt S1 c n with
    | some _ => m [o] S1
    | none => .bad
  | _ => .bad
section
variable {G : Gd} {E : XK} {R φ : List Addr} {S : Store} {H : Hp}
theorem lookup_none (f : Str) : ∀ {fs : List (Str × D)} {ws : List V}, fs.length = ws.length → fs.lookup f = none → ((fs.map (·.1)).zip ws).lookup f = none
  | [], ws, h, e => rfl
  | (g, x) :: r, [], h, e => by cases h
  | (g, x) :: r, w :: ws, h, e => by
    rw [List.map_cons, List.zip_cons_cons]
    rw [List.lookup_cons] at e ⊢
    cases hb : f == g with
    | true => rw [hb] at e; cases e
    | false =>
      rw [hb] at e
      simp only [hb]
      exact lookup_none f (by simpa using h) e
/-- a new instance, without attributes -/
theorem made {c : Str} {C x dx : Addr} (rs : Rs G R φ S H) (hc : G.mg c = some (.ref C)) (hx : H x = none) (hd : H dx = none) (hne : dx ≠ x) :
    Le φ H (φ ++ [x]) (upd (upd H dx (.own x)) x (.ins C dx [])) ∧ Rs G R (φ ++ [x]) (S ++ [.ins c []]) (upd (upd H dx (.own x)) x (.ins C dx [])) ∧ Rv G R (φ ++ [x]) (upd (upd H dx (.own x)) x (.ins C dx [])) (.ref S.length) (.ref x) := by
  have l1 := Le.new rs (o := .own x) hd
  have rs1 := rs.new (o := .own x) hd
  have hx1 : (upd H dx (.own x)) x = none := by rw [upd_ne hne.symm]; exact hx
  refine ⟨l1.trans (Le.alloc rs1 hx1), rs1.alloc hx1 ⟨[], _, upd_same, ⟨C, dx, hc, rfl⟩, RvL.nil⟩, ?_⟩
  unfold Rv
  refine ⟨x, rfl, ?_⟩
  rw [← rs.len, List.getElem?_append_right (Nat.le_refl _), Nat.sub_self]
  rfl
end
section
variable {T : List Addr} {X : Cx} {E : XK} {e o : Expr} {es : List Expr} {c x : Str} {C f : Addr} {fd : FuncData} {ps : List Str} {k n : Nat} {m : List D → Store → Res D} {ds : List Value} {dvs : List V} {cds : List D} {pos p apos : Pos} {mo : ME0} {ma : MA0}
theorem SndE.make {ta : TA} (hm : X.mg c = some (.ref C)) (hcd : Consts cds dvs) (ha : SndA (X.gd T) E ta ma) (hn : ∀ ρ S ds S', ma ρ S = .ok ds S' → ds.length + cds.length + 1 = n) : SndE (X.gd T) E (tMake C (spM (X.gd T) n m) dvs E ta) (mMake c m cds ma) := fun σ H ρ φ R S rs rn =>
  Run.bnd (c' := fun vs H1 (Q : VK) => ∀ x dx, H1 x = none → H1 dx = none → dx ≠ x → spM (X.gd T) n m (.ref x :: (vs ++ dvs)) (upd (upd H1 dx (.own x)) x (.ins C dx [])) (fun v H2 => v = .non ∧ Q (.ref x) H2) E) (ha σ H ρ φ R S rs rn) (fun us S1 φ1 vs H1 e0 l1 rs1 r1 => by
    intro Q hq he hb x dx hx hd hne
    obtain ⟨l2, rs2, rx⟩ := made (c := c) (C := C) rs1 hm hx hd hne
    refine ⟨φ1 ++ [x], R, S1 ++ [.ins c []], .ref S1.length :: (us ++ cds), rs2, RvL.cons rx (RvL.append (RvL.le l2 r1) (hcd _ _ _ _)), ?_, fun z => hb (by rw [z]; rfl), fun d S' φ' v H' e1 l3 rs3 r3 => ?_, fun er S' φ' H' cl d e1 l3 rs3 xq => he er S' φ' H' cl d (by rw [e1]; rfl) (l2.trans l3) rs3 xq⟩
    · rw [List.length_cons, List.length_append]
      exact hn _ _ _ _ e0
    · rw [e1, Res.bind_ok] at hb hq
      cases d with
      | non => exact ⟨Rv.non_of r3, hq (.ref S1.length) S' φ' (.ref x) H' rfl (l2.trans l3) rs3 (Rv.le l3 rx)⟩
      | _ => exact (hb rfl).elim) fun Q q => q
theorem me_make (A : ClsAt X.K X.mg c C) (M : Mk X.K C f) (F : FnOk X.prog X.w X.K X.mg X.base (L2.CX X.prog X.w) k f fd ps (spM (X.gd T) n m)) (hr : Room (k + 1) X.A) (hg : Gl X c) (hb : Binds X.K fd ps ds) (hd : Vals dvs ds) (hcd : Consts cds dvs) (hx : Passes (L2.CX X.prog X.w) X E)
    (ha : MAn T X E (e :: es) ma) (hn : (e :: es).length + cds.length + 1 = n := by rfl) (hdb : (c == ("__debug__" : Str)) = false := by decide) (he : starEach (e :: es) X.env = (false, eval e X.env) :: starEach es X.env := by rfl) (hpl : (backTo pos (starEach es X.env)).any (·.1) = false := by rfl) :
    ME T X E (.Call (.Name c p) (e :: es) [] pos) (mMake c m cds ma) := by
  obtain ⟨⟨ta, pa, sa⟩, hl⟩ := ha
  exact ⟨_, pe_make M F hr hg A.m hb hd hx pa hdb he hpl, SndE.make A.m hcd sa fun ρ S ds S' h => by rw [hl ρ S ds S' h]; exact hn⟩
theorem SndE.meth {ta : TE} {t : TA} (hm : X.mg c = some (.ref C)) (hcd : Consts cds dvs) (ho : SndE (X.gd T) E ta mo) (ha : SndA (X.gd T) E t ma) (hn : ∀ ρ S ds S', ma ρ S = .ok ds S' → ds.length + cds.length + 1 = n) : SndE (X.gd T) E (tMeth C x (spM (X.gd T) n m) dvs E ta t) (mMeth c x m cds mo ma) := by
  intro σ H ρ φ R S rs rn
  refine Run.bnd (c' := fun (y : V) H1 (Q : VK) => ∃ a dx fs, y = .ref a ∧ H1 a = some (.ins C dx fs) ∧ fs.lookup x = none ∧ t σ H1 fun vs H2 => spM (X.gd T) n m (y :: (vs ++ dvs)) H2 Q E) (ho σ H ρ φ R S rs rn) (fun d S1 φ1 y H1 e0 l1 rs1 r1 => ?_) fun Q q => q
  split
  · rename_i i
    split
    · rename_i fs hfs
      split
      · rename_i hlk
        obtain ⟨a, dx, vs, rfl, hai, h1, h2⟩ := rs1.ins r1 hfs hm
        have ll : fs.length = vs.length := by
          have := RvL.length h2
          rw [List.length_map] at this
          exact this
        refine Run.bnd (c' := fun (us : List V) H2 (Q : VK) => spM (X.gd T) n m (.ref a :: (us ++ dvs)) H2 Q E) (ha σ H1 ρ φ1 R S1 rs1 (rn.le l1)) (fun us S2 φ2 ws H2 e1 l2 rs2 r2 => ?_) fun Q q => ⟨a, dx, _, rfl, h1, lookup_none x ll hlk, q⟩
        intro Q hq he hb
        exact ⟨φ2, R, S2, .ref i :: (us ++ cds), rs2, RvL.cons (Rv.le l2 r1) (RvL.append r2 (hcd _ _ _ _)), by rw [List.length_cons, List.length_append]; exact hn _ _ _ _ e1, hb, hq, he⟩
      · exact Run.bad
    · exact Run.bad
  · exact Run.bad
theorem me_meth (A : ClsAt X.K X.mg c C) (M : Meth X.K C x f) (F : FnOk X.prog X.w X.K X.mg X.base (L2.CX X.prog X.w) k f fd ps (spM (X.gd T) n m)) (hr : Room k X.A) (hb : Binds X.K fd ps ds) (hd : Vals dvs ds) (hcd : Consts cds dvs) (hx : Passes (L2.CX X.prog X.w) X E)
    (ho : ME T X E o mo) (ha : MAn T X E (e :: es) ma) (hn : (e :: es).length + cds.length + 1 = n := by rfl) {pl : Sem Bool} (hst : starEach (e :: es) X.env = (false, eval e X.env) :: starEach es X.env := by rfl) (hpl : (backTo pos (starEach es X.env)).any (·.1) = false := by rfl)
    (ht : eval (.Call (.Attribute o x apos) (e :: es) [] pos) X.env = (do
      let ov ← eval o X.env
      standAt apos.atName
      let (f, first) ← holding [ov] (getMethod ov x pl)
      callWith pos f first (backTo pos (starEach (e :: es) X.env)) (backToKw pos (keywordEach [] X.env))) := by rfl) :
    ME T X E (.Call (.Attribute o x apos) (e :: es) [] pos) (mMeth c x m cds mo ma) := by
  obtain ⟨to, po, so⟩ := ho
  obtain ⟨⟨ta, pa, sa⟩, hl⟩ := ha
  exact ⟨_, pe_meth po A.cls M F hr hb hd hx pa hst hpl ht, SndE.meth A.m hcd so sa fun ρ S ds S' h => by rw [hl ρ S ds S' h]; exact hn⟩
theorem me_meth0 (A : ClsAt X.K X.mg c C) (M : Meth X.K C x f) (F : FnOk X.prog X.w X.K X.mg X.base (L2.CX X.prog X.w) k f fd ps (spM (X.gd T) n m)) (hr : Room k X.A) (hb : Binds X.K fd ps ds) (hd : Vals dvs ds) (hcd : Consts cds dvs) (hx : Passes (L2.CX X.prog X.w) X E)
    (ho : ME T X E o mo) (hn : 0 + cds.length + 1 = n := by rfl) {pl : Sem Bool}
    (ht : eval (.Call (.Attribute o x apos) [] [] pos) X.env = (do
      let ov ← eval o X.env
      standAt apos.atName
      let (f, first) ← holding [ov] (getMethod ov x pl)
      callWith pos f first (backTo pos (starEach [] X.env)) (backToKw pos (keywordEach [] X.env))) := by rfl) :
    ME T X E (.Call (.Attribute o x apos) [] [] pos) (mMeth c x m cds mo mNil) := by
  obtain ⟨to, po, so⟩ := ho
  exact ⟨_, pe_meth0 po A.cls M F hr hb hd hx ht, SndE.meth (t := tNil) A.m hcd so (fun σ H ρ φ R S rs rn => Run.ret rs RvL.nil fun Q q => q) fun ρ S ds S' h => by cases h; exact hn⟩
theorem me_prop {pr : Addr} (A : ClsAt X.K X.mg c C) (hp : PropOf X.K C x pr f) (F : FnOk X.prog X.w X.K X.mg X.base (L2.CX X.prog X.w) k f fd ps (spM (X.gd T) 1 m)) (hr : Room (k + 1) X.A) (hb : Binds X.K fd ps []) (hx : Passes (L2.CX X.prog X.w) X.nox E)
    (ho : ME T X E o mo) (hab : attributeBase o x X.env (eval o X.env) = eval o X.env := by rfl) : ME T X E (.Attribute o x pos) (mProp c m mo) := by
  obtain ⟨to, po, so⟩ := ho
  refine ⟨_, pe_prop po A.cls hp F hr hb .nil hx hab, fun σ H ρ φ R S rs rn => ?_⟩
  refine Run.bnd (c' := fun (y : V) H1 (Q : VK) => ∃ a dx fs, y = V.ref a ∧ H1 a = some (.ins C dx fs) ∧ spM (X.gd T) 1 m [.ref a] H1 Q E) (so σ H ρ φ R S rs rn) (fun d S1 φ1 y H1 e0 l1 rs1 r1 => ?_) fun Q q => q
  split
  · rename_i i
    split
    · rename_i fs hfs
      obtain ⟨a, dx, vs, rfl, hai, h1, h2⟩ := rs1.ins r1 hfs A.m
      intro Q hq he hb
      exact ⟨a, dx, _, rfl, h1, φ1, R, S1, [.ref i], rs1, RvL.cons r1 RvL.nil, rfl, hb, hq, he⟩
    · exact Run.bad
  · exact Run.bad
end
end MM

/-! Slices. -/
namespace MM
open PySem L2 PyProof.Rows
abbrev MO0 := Rho → Store → Res (Option Int)
def mNoPart : MO0 := fun _ S => .ok none S
def mPart (me : ME0) : MO0 := fun ρ S => (me ρ S).bind fun d S1 => match d with
  | .int i => .ok (some i) S1
  | _ => .bad
abbrev RelP : List Addr → Hp → Option Int → Option Int → Prop := fun _ _ a b => a = b
def SndO (G : Gd) (E : XK) (t : TO) (m : MO0) : Prop := ∀ σ H ρ φ R S, Rs G R φ S H → Rn G R φ H ρ σ → Run G E R φ H RelP (m ρ S) (fun Q => t σ H Q)
def MO (T : List Addr) (X : Cx) (E : XK) (e : Option Expr) (m : MO0) : Prop := ∃ t, PO X e t ∧ SndO (X.gd T) E t m
def cutD {α : Type} (xs : List α) (lo hi : Option Int) : List α := (xs.drop (HT.sIx xs.length 0 lo)).take (HT.sIx xs.length xs.length hi - HT.sIx xs.length 0 lo)
def fSl : D → Option Int → Option Int → Store → Res D := fun x lo hi S => match x with
  | .tup ds => .ok (.tup (cutD ds lo hi)) S
  | .str z => if z.length ≤ sizeLine then .ok (.str (cutS z lo hi)) S else .bad
  | d => match lstOf S d with
    | some ds => .ok (.lst (cutD ds lo hi)) S
    | none => .bad
def mSl (me : ME0) (ml mh : MO0) : ME0 := fun ρ S => (me ρ S).bind fun x S1 => (ml ρ S1).bind fun lo S2 => (mh ρ S2).bind fun hi S3 => fSl x lo hi S3
section
variable {G : Gd} {E : XK} {R φ : List Addr} {S : Store} {H : Hp}
theorem RvL.cut {ds : List D} {vs : List V} (h : RvL G R φ H ds vs) (lo hi : Option Int) : RvL G R φ H (cutD ds lo hi) (cutV vs lo hi) := by
  unfold cutD cutV
  rw [RvL.length h]
  exact RvL.take _ (RvL.drop _ h)
theorem cutD_all {α : Type} {xs : List α} {lo hi : Option Int} (h : HT.sIx xs.length 0 lo = 0 ∧ HT.sIx xs.length xs.length hi = xs.length) : cutD xs lo hi = xs := by
  unfold cutD
  rw [h.1, h.2, List.drop_zero, Nat.sub_zero, List.take_length]
end
section
variable {T : List Addr} {X : Cx} {E : XK} {e : Expr} {me : ME0} {lo hi : Option Expr} {ml mh : MO0} {pos p2 : Pos}
theorem mo_none : MO T X E none mNoPart := ⟨_, po_none, fun σ H ρ φ R S rs rn => Run.ret rs rfl fun Q q => q⟩
theorem mo_some (h : ME T X E e me) : MO T X E (some e) (mPart me) := by
  obtain ⟨t, pt, s⟩ := h
  refine ⟨_, po_some pt, fun σ H ρ φ R S rs rn => Run.bnd (c' := fun (x : V) H1 (Q : Option Int → Hp → Prop) => ∃ i, x = .int i ∧ Q (some i) H1) (s σ H ρ φ R S rs rn) (fun d S1 φ1 x H1 _ l1 rs1 r1 => ?_) fun Q q => q⟩
  cases d with
  | int i => exact Run.ret rs1 rfl fun Q q => ⟨i, Rv.int_of r1, q⟩
  | _ => exact Run.bad
def rSlB3 (K : PySem.W.Frag) : V → Option Int → Option Int → Hp → VK → Prop := fun x lo hi H Q => (rSlL K x lo hi H Q ∨ rSlA K x lo hi H Q) ∨ rSlS x lo hi H Q
theorem sl_all : SlR X (rSlB3 X.K) := SlR.or (SlR.or sl_list sl_tupA) sl_str
theorem o_sl {G : Gd} (lo hi : Option Int) : Op1 G E (fun x H Q => rSlB3 G.K x lo hi H Q) (fun d S => fSl d lo hi S) := by
  intro R φ S H d x rs rd
  have viaL : ∀ ds, lstOf S d = some ds → Run G E R φ H (RelV' G R) (.ok (.lst (cutD ds lo hi)) S) (fun Q => rSlB3 G.K x lo hi H Q) := fun ds hds => by
    obtain ⟨a, vs, rfl, h1, h2⟩ := lst_of rs rd hds
    exact Run.new (o := .lst (cutV vs lo hi)) rs (fun p hp => Rv.lst (rs.fresh hp).1 (rs.fresh hp).2 upd_same (RvL.le (Le.new rs hp) (RvL.cut h2 lo hi))) fun Q q => .inl (.inl ⟨a, vs, rfl, h1, q⟩)
  cases d with
  | tup ds =>
    obtain ⟨a, vs, rfl, h1, h2⟩ := Rv.tup_at rd
    show Run G E R φ H _ (.ok (D.tup (cutD ds lo hi)) S) _
    by_cases hc : HT.sIx vs.length 0 lo = 0 ∧ HT.sIx vs.length vs.length hi = vs.length
    · have ec : cutD ds lo hi = ds := cutD_all (by rw [RvL.length h2]; exact hc)
      rw [ec]
      exact Run.ret rs rd fun Q q => .inl (.inr ⟨a, vs, rfl, .inl (.inl h1), fun _ => q, fun z => (z hc).elim⟩)
    · exact Run.new (o := .tup (cutV vs lo hi)) rs (fun p hp => Rv.tup upd_same (RvL.le (Le.new rs hp) (RvL.cut h2 lo hi))) fun Q q => .inl (.inr ⟨a, vs, rfl, .inl (.inl h1), fun z => (hc z).elim, fun _ => q⟩)
  | str z =>
    have ez := Rv.str_of rd
    subst ez
    show Run G E R φ H _ (if z.length ≤ sizeLine then .ok (D.str (cutS z lo hi)) S else .bad) _
    by_cases hl : z.length ≤ sizeLine
    · rw [if_pos hl]
      exact Run.ret rs Rv.str fun Q q => .inr ⟨z, rfl, hl, q⟩
    · rw [if_neg hl]
      exact Run.bad
  | lst ds => exact viaL ds rfl
  | frz ds => exact viaL ds rfl
  | ref n =>
    show Run G E R φ H _ (match lstOf S (.ref n) with
      | some ds => .ok (D.lst (cutD ds lo hi)) S
      | none => .bad) _
    split
    · rename_i ds hds
      exact viaL ds hds
    · exact Run.bad
  | _ => exact Run.bad
theorem me_sl (he : ME T X E e me) (hl : MO T X E lo ml) (hh : MO T X E hi mh) : ME T X E (.Subscript e (.Slice lo hi none p2) pos) (mSl me ml mh) := by
  obtain ⟨t, pt, s⟩ := he
  obtain ⟨tl, pl, sl⟩ := hl
  obtain ⟨th, ph, sh⟩ := hh
  refine ⟨_, pe_slice sl_all pt pl ph, fun σ H ρ φ R S rs rn => ?_⟩
  refine Run.bnd (c' := fun (x : V) H1 (Q : VK) => tl σ H1 fun l H2 => th σ H2 fun u H3 => rSlB3 X.K x l u H3 Q) (s σ H ρ φ R S rs rn) (fun d S1 φ1 x H1 _ l1 rs1 r1 => ?_) fun Q q => q
  refine Run.bnd (c' := fun (l : Option Int) H2 (Q : VK) => th σ H2 fun u H3 => rSlB3 X.K x l u H3 Q) (sl σ H1 ρ φ1 R S1 rs1 (rn.le l1)) (fun lo S2 φ2 lo' H2 _ l2 rs2 r2 => ?_) fun Q q => q
  refine Run.bnd (c' := fun (u : Option Int) H3 (Q : VK) => rSlB3 X.K x lo' u H3 Q) (sh σ H2 ρ φ2 R S2 rs2 (rn.le (l1.trans l2))) (fun hi S3 φ3 hi' H3 _ l3 rs3 r3 => ?_) fun Q q => q
  have e2 : lo = lo' := r2
  have e3 : hi = hi' := r3
  subst e2 e3
  exact o_sl (G := X.gd T) lo hi R φ3 S3 H3 d x rs3 (Rv.le (l2.trans l3) r1)
end
end MM

/-! Lists: append; bit_length. -/
namespace MM
open PySem L2 PyProof.Rows
def mApp (mo me : ME0) : ME0 := fun ρ S => (mo ρ S).bind fun o S1 => match o with
  | .ref n => match lstAt S1 n with
    | some _ => (me ρ S1).bind fun d S2 => match lstAt S2 n with
      | some ds => if ds.length < sizeLine then .ok .non (S2.set n (.lst (ds ++ [d]))) else .bad
      | none => .bad
    | none => .bad
  | _ => .bad
def fBits : D → Store → Res D := fun x S => match x with
  | .int i => .ok (.int (Builtin.Int.intBits i : Nat)) S
  | _ => .bad
section
variable {T : List Addr} {X : Cx} {E : XK} {e o : Expr} {me mo : ME0} {pos apos cpos : Pos}
theorem me_append (ho : ME T X E o mo) (he : ME T X E e me) (hbase : attributeBase o "append" X.env (eval o X.env) = eval o X.env := by rfl)
    (hfew : ((backTo cpos (starEach [e] X.env)).all (fun x => !x.1) && (backToKw cpos (keywordEach [] X.env)).all (fun x => x.1.isSome)
      && decide ([e].length + ([] : List Keyword).length + (if ([] : List Keyword).isEmpty then 0 else 1) < 30)) = true := by rfl)
    (hline : (apos.endLine == cpos.line) = true := by rfl) (hs : starEach [e] X.env = (false, eval e X.env) :: starEach [] X.env := by rfl) (hplain : (backTo cpos (starEach [] X.env)).any (·.1) = false := by rfl) :
    ME T X E (.Call (.Attribute o "append" apos) [e] [] cpos) (mApp mo me) := by
  obtain ⟨to, po, so⟩ := ho
  obtain ⟨te, pe, se⟩ := he
  refine ⟨_, pe_bm PySem.F.plainAttrs_list PySem.F.slot_list_append PySem.F.type_list_append mt_append po (pa_cons pe pa_nil hs) hbase hfew hline hs hplain, fun σ H ρ φ R S rs rn => ?_⟩
  refine Run.bnd (c' := fun (x : V) H1 (Q : VK) => tyV X.K "list" x H1 ∧ te σ H1 fun y H2 => rAppend x [y] H2 Q) (so σ H ρ φ R S rs rn) (fun d S1 φ1 x H1 _ l1 rs1 r1 => ?_) fun Q q => q
  split
  · rename_i n
    split
    · rename_i ds0 h0
      obtain ⟨a, vs0, rfl, ha, h1, h2⟩ := rs1.lst r1 (lstAt_of h0)
      refine Run.bnd (c' := fun (y : V) H2 (Q : VK) => rAppend (.ref a) [y] H2 Q) (se σ H1 ρ φ1 R S1 rs1 (rn.le l1)) (fun d S2 φ2 y H2 _ l2 rs2 r2 => ?_) fun Q q => ⟨.inl ⟨rfl, vs0, .inl (.inl h1)⟩, q⟩
      split
      · rename_i ds hds
        split
        · rename_i hl
          obtain ⟨a2, vs, ea, ha2, h3, h4⟩ := rs2.lst (Rv.le l2 r1) (lstAt_of hds)
          cases ea
          have lw : Le φ2 H2 φ2 (upd H2 a (.lst (vs ++ [y]))) := Le.write rs2 ha2 (nfz h3 (fun _ _ z => nomatch z))
          have rw' := rs2.write (ho := .lst (vs ++ [y])) (o := .lst (ds ++ [d])) ha2 (nfz h3 (fun _ _ z => nomatch z)) (Ro.mkL upd_same (RvL.append (RvL.le lw h4) (RvL.cons (Rv.le lw r2) RvL.nil)))
          intro Q hq _ _
          exact ⟨a, vs, y, rfl, rfl, h3, by rw [← RvL.length h4]; exact hl, hq .non _ φ2 .non _ rfl lw rw' Rv.non⟩
        · exact Run.bad
      · exact Run.bad
    · exact Run.bad
  · exact Run.bad
theorem me_bits (ho : ME T X E o mo) (hbase : attributeBase o "bit_length" X.env (eval o X.env) = eval o X.env := by rfl) (hline : (apos.endLine == pos.line) = true := by rfl) : ME T X E (.Call (.Attribute o "bit_length" apos) [] [] pos) (mUn fBits mo) := by
  obtain ⟨to, po, so⟩ := ho
  refine ⟨_, pe_bits po hbase hline, fun σ H ρ φ R S rs rn => Run.bnd (c' := fun (x : V) H1 (Q : VK) => ∃ i, x = .int i ∧ Q (.int (Builtin.Int.intBits i : Nat)) H1) (so σ H ρ φ R S rs rn) (fun d S1 φ1 x H1 _ l1 rs1 r1 => ?_) fun Q q => q⟩
  cases d with
  | int i => exact Run.ret rs1 Rv.int fun Q q => ⟨i, Rv.int_of r1, q⟩
  | _ => exact Run.bad
end
end MM

/-! Calls that make a new list: list(..), sorted(..); by value or of the store. -/
namespace MM
open PySem L2 PyProof.Rows
/-- r makes a new list, that of f -/
def Fresh (G : Gd) (r : List V → Hp → VK → Prop) (f : List D → Store → Option (List D)) : Prop := ∀ R φ S H ds xs es, Rs G R φ S H → RvL G R φ H ds xs → f ds S = some es →
  ∃ vs, RvL G R φ H es vs ∧ ∀ Q : VK, (∀ p, H p = none → Q (.ref p) (upd H p (.lst vs))) → r xs H Q
def frL (f : List D → Store → Option (List D)) : List D → Store → Res D := fun ds S => match f ds S with
  | some es => .ok (.lst es) S
  | none => .bad
def frS (f : List D → Store → Option (List D)) : List D → Store → Res D := fun ds S => match f ds S with
  | some es => .ok (.ref S.length) (S ++ [.lst es])
  | none => .bad
section
variable {G : Gd} {E : XK} {r : List V → Hp → VK → Prop} {f : List D → Store → Option (List D)}
theorem Fresh.l (h : Fresh G r f) : OpL G E r (frL f) := by
  intro R φ S H ds xs rs rv
  unfold frL
  split
  · rename_i es he
    obtain ⟨vs, h1, h2⟩ := h R φ S H ds xs es rs rv he
    exact Run.new (o := .lst vs) rs (fun p hp => Rv.lst (rs.fresh hp).1 (rs.fresh hp).2 upd_same (RvL.le (Le.new rs hp) h1)) h2
  · exact Run.bad
theorem Fresh.s (h : Fresh G r f) : OpL G E r (frS f) := by
  intro R φ S H ds xs rs rv
  unfold frS
  split
  · rename_i es he
    obtain ⟨vs, h1, h2⟩ := h R φ S H ds xs es rs rv he
    exact Run.alloc (o := .lst vs) (o' := .lst es) rs (fun p hp => Ro.mkL upd_same (RvL.le (Le.alloc rs hp) h1)) h2
  · exact Run.bad
theorem Fresh.or {r' : List V → Hp → VK → Prop} {g : List D → Store → Option (List D)} (h : Fresh G r f) (h' : Fresh G r' g) : Fresh G (fun xs H Q => r xs H Q ∨ r' xs H Q) (fun ds S => match f ds S with | some es => some es | none => g ds S) := by
  intro R φ S H ds xs es rs rv he
  dsimp only at he
  cases hf : f ds S with
  | some e1 =>
    rw [hf] at he
    cases he
    obtain ⟨vs, h1, h2⟩ := h R φ S H ds xs _ rs rv hf
    exact ⟨vs, h1, fun Q q => .inl (h2 Q q)⟩
  | none =>
    rw [hf] at he
    obtain ⟨vs, h1, h2⟩ := h' R φ S H ds xs _ rs rv he
    exact ⟨vs, h1, fun Q q => .inr (h2 Q q)⟩
/-! list(..) -/
def keyD : Key → D
  | .inl i => .int i
  | .inr s => .str s
theorem keys_rv {R φ : List Addr} {H : Hp} : ∀ ks : List Key, RvL G R φ H (ks.map keyD) (ks.map kV)
  | [] => RvL.nil
  | .inl i :: ks => RvL.cons Rv.int (keys_rv ks)
  | .inr i :: ks => RvL.cons Rv.str (keys_rv ks)
def lSeq : List D → Store → Option (List D) := fun ds S => match ds with
  | [d] => seqOf S d
  | _ => none
def dctAt (S : Store) : D → Option (List (Key × D))
  | .ref n => match (S[n]?).map O.base with
    | some (.dct kvs) => some kvs
    | _ => none
  | _ => none
theorem dct_of {R φ : List Addr} {S : Store} {H : Hp} {d : D} {v : V} {kvs : List (Key × D)} (rs : Rs G R φ S H) (r : Rv G R φ H d v) (e : dctAt S d = some kvs) : ∃ n a vs, d = .ref n ∧ v = .ref a ∧ φ[n]? = some a ∧ Rd H a (.dK ((kvs.map (·.1)).zip vs)) ∧ RvL G R φ H (kvs.map (·.2)) vs := by
  cases d with
  | ref n =>
    unfold dctAt at e
    dsimp only at e
    cases ho : S[n]? with
    | none => rw [ho] at e; cases e
    | some ob =>
      rw [ho, Option.map_some] at e
      obtain ⟨a, rfl, ha⟩ := Rv.ref_of r
      obtain ⟨vs, u0, eu0, sh0, rl0⟩ := rs.obj n _ a ho ha
      obtain ⟨u, eu, sh, ek0⟩ := sh0.rd eu0
      rw [← ek0] at rl0
      have rl := rl0
      generalize ob.base = ob at e sh rl
      cases ob with
      | dct k =>
        cases e
        have sh' : u = .dK _ := sh
        subst sh'
        exact ⟨n, a, vs, rfl, rfl, ha, eu, rl⟩
      | _ => cases e
  | _ => cases e
def lDct : List D → Store → Option (List D) := fun ds S => match ds with
  | [d] => (dctAt S d).map fun kvs => kvs.map fun kv => keyD kv.1
  | _ => none
theorem fr_seq : Fresh G (fun xs H Q => ∃ p ys, xs = [V.ref p] ∧ (SqL G.K H p ys ∨ SqT G.K H p ys) ∧ ∀ l, H l = none → Q (.ref l) (upd H l (.lst ys))) lSeq := by
  intro R φ S H ds xs es rs rv he
  unfold lSeq at he
  split at he
  · obtain ⟨v, rfl, h1⟩ := RvL.one_of rv
    obtain ⟨a, vs, rfl, h2, h3⟩ := seq_of rs h1 he
    exact ⟨vs, h3, fun Q q => ⟨a, vs, rfl, h2, q⟩⟩
  · cases he
theorem fst_zip {κ : Type} : ∀ {kvs : List (κ × D)} {vs : List V}, kvs.length = vs.length → ((kvs.map (·.1)).zip vs).map (·.1) = kvs.map (·.1)
  | [], vs, h => rfl
  | p :: r, [], h => by cases h
  | p :: r, v :: vs, h => by
    rw [List.map_cons, List.zip_cons_cons, List.map_cons, fst_zip (by simpa using h)]
theorem fr_dct : Fresh G (fun xs H Q => ∃ (a : Addr) (kvs : List (Key × V)), xs = [V.ref a] ∧ Rd H a (.dK kvs) ∧ ∀ p, H p = none → Q (.ref p) (upd H p (.lst (kvs.map fun kv => kV kv.1)))) lDct := by
  intro R φ S H ds xs es rs rv he
  unfold lDct at he
  split at he
  · obtain ⟨kvs, e1, e2⟩ := Option.map_eq_some_iff.mp he
    obtain ⟨v, rfl, h1⟩ := RvL.one_of rv
    obtain ⟨n, a, vs, rfl, rfl, ha, h2, h3⟩ := dct_of rs h1 e1
    have hl : kvs.length = vs.length := by
      have := RvL.length h3
      rw [List.length_map] at this
      exact this
    refine ⟨(kvs.map (·.1)).map kV, ?_, fun Q q => ⟨a, _, rfl, h2, ?_⟩⟩
    · rw [← e2]
      have := keys_rv (G := G) (R := R) (φ := φ) (H := H) (kvs.map (·.1))
      rw [List.map_map] at this
      exact this
    · rw [← fst_zip hl, List.map_map] at q
      exact q
  · cases he
def lList : List D → Store → Option (List D) := fun ds S => match lSeq ds S with | some es => some es | none => lDct ds S
end
section
variable {T : List Addr} {X : Cx} {E : XK} {e : Expr} {mr : MA0} {p pos : Pos}
theorem me_list (hc : X.calm = true) (hg : Gl X "list") (hm : X.mg "list" = none) (ha : MAn T X E [e] mr) (he : starEach [e] X.env = (false, eval e X.env) :: starEach [] X.env := by rfl) (hpl : (backTo pos (starEach [] X.env)).any (·.1) = false := by rfl) :
    ME T X E (.Call (.Name "list" p) [e] [] pos) (mCall (frL lList) mr) := me_cty (CallR.or call_list_of (call_listD hc)) (Fresh.or fr_seq fr_dct).l hg hm (by decide +kernel) ha (by decide) (by decide) he hpl
theorem me_listS (hc : X.calm = true) (hg : Gl X "list") (hm : X.mg "list" = none) (ha : MAn T X E [e] mr) (he : starEach [e] X.env = (false, eval e X.env) :: starEach [] X.env := by rfl) (hpl : (backTo pos (starEach [] X.env)).any (·.1) = false := by rfl) :
    ME T X E (.Call (.Name "list" p) [e] [] pos) (mCall (frS lList) mr) := me_cty (CallR.or call_list_of (call_listD hc)) (Fresh.or fr_seq fr_dct).s hg hm (by decide +kernel) ha (by decide) (by decide) he hpl
end
end MM

/-! sorted(..) of ints and of texts. -/
namespace MM
open PySem PySem.Spec L2 PyProof.Rows
theorem sorted_uniq {α : Type} {le : α → α → Prop} (anti : ∀ a b, le a b → le b a → a = b) : ∀ {l m : List α}, l.Perm m → l.Pairwise le → m.Pairwise le → l = m
  | [], m, p, _, _ => (List.nil_perm.mp p).symm
  | a :: l, [], p, _, _ => absurd (List.Perm.length_eq p) (by simp)
  | a :: l, b :: m, p, h1, h2 => by
    obtain ⟨a1, a2⟩ := List.pairwise_cons.mp h1
    obtain ⟨b1, b2⟩ := List.pairwise_cons.mp h2
    have e : a = b := by
      rcases List.mem_cons.mp (p.mem_iff.mp List.mem_cons_self) with q | q
      · exact q
      · rcases List.mem_cons.mp (p.mem_iff.mpr (List.mem_cons_self (a := b) (l := m))) with z | z
        · exact z.symm
        · exact anti a b (a1 b z) (b1 a q)
    subst e
    rw [sorted_uniq anti (List.Perm.cons_inv p) a2 b2]
theorem lt_asym : ∀ a b : List Nat, ltCps a b = true → ltCps b a = false
  | [], [], h => by cases h
  | [], _ :: _, _ => rfl
  | _ :: _, [], h => by cases h
  | a :: r, b :: t, h => by
    unfold ltCps at h ⊢
    simp only [Bool.or_eq_true, Bool.and_eq_true, decide_eq_true_eq, beq_iff_eq] at h
    simp only [Bool.or_eq_false_iff, Bool.and_eq_false_iff, decide_eq_false_iff_not, beq_eq_false_iff_ne]
    rcases h with h | ⟨h1, h2⟩
    · exact ⟨by omega, .inl (by omega)⟩
    · exact ⟨by omega, .inr (lt_asym r t h2)⟩
theorem lt_anti : ∀ a b : List Nat, ltCps a b = false → ltCps b a = false → a = b
  | [], [], _, _ => rfl
  | [], _ :: _, h, _ => by cases h
  | _ :: _, [], _, h => by cases h
  | a :: r, b :: t, h, h' => by
    unfold ltCps at h h'
    simp only [Bool.or_eq_false_iff, Bool.and_eq_false_iff, decide_eq_false_iff_not, beq_eq_false_iff_ne] at h h'
    have e : a = b := by omega
    subst e
    rw [lt_anti r t (h.2.resolve_left (by simp)) (h'.2.resolve_left (by simp))]
/-- a is not above b -/
def leC (a b : List Nat) : Bool := !ltCps b a
theorem leC_trans : ∀ a b c : List Nat, leC a b = true → leC b c = true → leC a c = true
  | [], b, c, _, _ => by unfold leC; cases c <;> rfl
  | _ :: _, [], _, h, _ => by cases h
  | _ :: _, _ :: _, [], _, h => by cases h
  | x :: a, y :: b, z :: c, h, h' => by
    unfold leC ltCps at h h' ⊢
    simp only [Bool.not_eq_true', Bool.or_eq_false_iff, Bool.and_eq_false_iff, decide_eq_false_iff_not, beq_eq_false_iff_ne] at h h' ⊢
    refine ⟨by omega, ?_⟩
    by_cases e : z = x
    · have e1 : y = x := by omega
      have e2 : z = y := by omega
      refine .inr ?_
      have i1 := h.2.resolve_left (by simpa using e1)
      have i2 := h'.2.resolve_left (by simpa using e2)
      have := leC_trans a b c (by unfold leC; rw [i1]; rfl) (by unfold leC; rw [i2]; rfl)
      unfold leC at this
      simpa using this
    · exact .inl e
theorem leC_total (a b : List Nat) : (leC a b || leC b a) = true := by
  unfold leC
  cases h : ltCps b a with
  | false => rfl
  | true => rw [lt_asym b a h]; rfl
def leS (a b : Str) : Bool := leC a.cps.toList b.cps.toList
def sortS (xs : List Str) : List Str := xs.mergeSort leS
def sortI (xs : List Int) : List Int := xs.mergeSort (fun a b => decide (a ≤ b))
theorem sortI_perm (xs : List Int) : (sortI xs).Perm xs := List.mergeSort_perm _ _
theorem sortI_le (xs : List Int) : (sortI xs).Pairwise (· ≤ ·) := by
  have := List.pairwise_mergeSort (le := fun a b : Int => decide (a ≤ b)) (fun a b c h1 h2 => by simp only [decide_eq_true_eq] at *; omega) (fun a b => by simp only [Bool.or_eq_true, decide_eq_true_eq]; omega) xs
  exact this.imp fun h => by simpa using h
theorem sortS_perm (xs : List Str) : (sortS xs).Perm xs := List.mergeSort_perm _ _
theorem sortS_le (xs : List Str) : (sortS xs).Pairwise (fun a b => leS a b = true) := List.pairwise_mergeSort (le := leS) (fun a b c h1 h2 => leC_trans a.cps.toList b.cps.toList c.cps.toList h1 h2) (fun a b => leC_total a.cps.toList b.cps.toList) xs
theorem str_ext {a b : Str} (h : a.cps.toList = b.cps.toList) : a = b := by
  cases a with
  | mk x =>
    cases b with
    | mk y =>
      congr 1
      exact Array.toList_inj.mp h
theorem leS_anti (a b : Str) (h1 : leS a b = true) (h2 : leS b a = true) : a = b := str_ext (lt_anti _ _ (by unfold leS leC at h2; simpa using h2) (by unfold leS leC at h1; simpa using h1))
theorem rising_le : ∀ (p : Str) (l : List Str), risingS p l = true → (p :: l).Pairwise (fun a b => leS a b = true)
  | p, [], _ => by simp
  | p, x :: r, h => by
    have h' : (!ltCps x.cps.toList p.cps.toList && risingS x r) = true := h
    obtain ⟨h1, h2⟩ := Bool.and_eq_true_iff.mp h'
    have ih := rising_le x r h2
    refine List.pairwise_cons.mpr ⟨fun y hy => ?_, ih⟩
    rcases List.mem_cons.mp hy with rfl | hy
    · exact h1
    · exact leC_trans _ _ _ h1 (List.rel_of_pairwise_cons ih hy)
theorem sortedS_le : ∀ {l : List Str}, sortedS l = true → l.Pairwise (fun a b => leS a b = true)
  | [], _ => List.Pairwise.nil
  | x :: r, h => rising_le x r h
theorem sortS_uniq {xs ys : List Str} (p : ys.Perm xs) (h : sortedS ys = true) : ys = sortS xs := sorted_uniq leS_anti (p.trans (sortS_perm xs).symm) (sortedS_le h) (sortS_le xs)
theorem sortI_uniq {xs ys : List Int} (p : ys.Perm xs) (h : ys.Pairwise (· ≤ ·)) : ys = sortI xs := sorted_uniq (fun a b h1 h2 => Int.le_antisymm h1 h2) (p.trans (sortI_perm xs).symm) h (sortI_le xs)
end MM

/-! sorted(..), by value or of the store. -/
namespace MM
open PySem PySem.Spec L2 PyProof.Rows
def intsOf : List D → Option (List Int)
  | [] => some []
  | .int i :: r => (intsOf r).map (i :: ·)
  | _ :: _ => none
def strsOf : List D → Option (List Str)
  | [] => some []
  | .str i :: r => (strsOf r).map (i :: ·)
  | _ :: _ => none
section
variable {G : Gd} {R φ : List Addr} {S : Store} {H : Hp}
theorem ints_v : ∀ {ds : List D} {vs : List V} {ns : List Int}, RvL G R φ H ds vs → intsOf ds = some ns → vs = ns.map V.int
  | [], vs, ns, h, e => by
    unfold RvL at h
    cases e
    exact h
  | .int i :: r, vs, ns, h, e => by
    unfold intsOf at e
    obtain ⟨ms, e1, e2⟩ := Option.map_eq_some_iff.mp e
    unfold RvL at h
    obtain ⟨v, t, rfl, h1, h2⟩ := h
    rw [Rv.int_of h1, ints_v h2 e1, ← e2]
    rfl
  | .non :: r, vs, ns, h, e => by cases e
  | .bl _ :: r, vs, ns, h, e => by cases e
  | .str _ :: r, vs, ns, h, e => by cases e
  | .tup _ :: r, vs, ns, h, e => by cases e
  | .lst _ :: r, vs, ns, h, e => by cases e
  | .frz _ :: r, vs, ns, h, e => by cases e
  | .err _ _ _ :: r, vs, ns, h, e => by cases e
  | .ref _ :: r, vs, ns, h, e => by cases e
theorem strs_v : ∀ {ds : List D} {vs : List V} {ns : List Str}, RvL G R φ H ds vs → strsOf ds = some ns → vs = ns.map V.str
  | [], vs, ns, h, e => by
    unfold RvL at h
    cases e
    exact h
  | .str i :: r, vs, ns, h, e => by
    unfold strsOf at e
    obtain ⟨ms, e1, e2⟩ := Option.map_eq_some_iff.mp e
    unfold RvL at h
    obtain ⟨v, t, rfl, h1, h2⟩ := h
    rw [Rv.str_of h1, strs_v h2 e1, ← e2]
    rfl
  | .non :: r, vs, ns, h, e => by cases e
  | .bl _ :: r, vs, ns, h, e => by cases e
  | .int _ :: r, vs, ns, h, e => by cases e
  | .tup _ :: r, vs, ns, h, e => by cases e
  | .lst _ :: r, vs, ns, h, e => by cases e
  | .frz _ :: r, vs, ns, h, e => by cases e
  | .err _ _ _ :: r, vs, ns, h, e => by cases e
  | .ref _ :: r, vs, ns, h, e => by cases e
theorem rv_ints : ∀ ns : List Int, RvL G R φ H (ns.map D.int) (ns.map V.int)
  | [] => RvL.nil
  | n :: ns => RvL.cons Rv.int (rv_ints ns)
theorem rv_strs : ∀ ns : List Str, RvL G R φ H (ns.map D.str) (ns.map V.str)
  | [] => RvL.nil
  | n :: ns => RvL.cons Rv.str (rv_strs ns)
def keysS : List Key → Option (List Str)
  | [] => some []
  | .inr s :: r => (keysS r).map (s :: ·)
  | _ :: _ => none
theorem keysS_eq : ∀ {ks : List Key} {ss : List Str}, keysS ks = some ss → ks = ss.map Sum.inr
  | [], ss, e => by cases e; rfl
  | .inr s :: r, ss, e => by
    unfold keysS at e
    obtain ⟨ms, e1, e2⟩ := Option.map_eq_some_iff.mp e
    rw [keysS_eq e1, ← e2]
    rfl
  | .inl _ :: r, ss, e => by cases e
def oSortI : List D → Store → Option (List D) := fun ds S => match ds with
  | [d] => (lstOf S d).bind fun xs => (intsOf xs).map fun ns => (sortI ns).map .int
  | _ => none
def oSortS : List D → Store → Option (List D) := fun ds S => match ds with
  | [d] => (lstOf S d).bind fun xs => (strsOf xs).bind fun ns => if ns.length < 64 then some ((sortS ns).map .str) else none
  | _ => none
def oSortD : List D → Store → Option (List D) := fun ds S => match ds with
  | [d] => (dctAt S d).bind fun kvs => (keysS (kvs.map (·.1))).bind fun ns => if ns.length < 64 then some ((sortS ns).map .str) else none
  | _ => none
theorem fr_sortI : Fresh G (rSortedI G.K) oSortI := by
  intro R φ S H ds xs es rs rv he
  unfold oSortI at he
  split at he
  · obtain ⟨v, rfl, h1⟩ := RvL.one_of rv
    obtain ⟨ys, e1, e2⟩ := Option.bind_eq_some_iff.mp he
    obtain ⟨ns, e3, e4⟩ := Option.map_eq_some_iff.mp e2
    obtain ⟨a, vs, rfl, h2, h3⟩ := lst_of rs h1 e1
    have ev := ints_v h3 e3
    subst ev
    refine ⟨(sortI ns).map V.int, ?_, fun Q q => ⟨a, ns, rfl, h2, fun ns' p hp hs hn => ?_⟩⟩
    · rw [← e4]
      exact rv_ints _
    · rw [sortI_uniq hp hs]
      exact q p hn
  · cases he
theorem fr_sortS : Fresh G (rSortedS G.K) oSortS := by
  intro R φ S H ds xs es rs rv he
  unfold oSortS at he
  split at he
  · obtain ⟨v, rfl, h1⟩ := RvL.one_of rv
    obtain ⟨ys, e1, e2⟩ := Option.bind_eq_some_iff.mp he
    obtain ⟨ns, e3, e4⟩ := Option.bind_eq_some_iff.mp e2
    split at e4
    · rename_i hl
      obtain ⟨a, vs, rfl, h2, h3⟩ := lst_of rs h1 e1
      have ev := strs_v h3 e3
      subst ev
      refine ⟨(sortS ns).map V.str, ?_, fun Q q => ⟨a, ns, rfl, h2, hl, fun ns' p hp hs hn => ?_⟩⟩
      · cases e4
        exact rv_strs _
      · rw [sortS_uniq hp hs]
        exact q p hn
    · cases e4
  · cases he
theorem fr_sortD : Fresh G (fun xs H Q => ∃ (a : Addr) (kvs : List (Key × V)) (ks : List Str), xs = [V.ref a] ∧ Rd H a (.dK kvs) ∧ kvs.map (·.1) = ks.map Sum.inr ∧ ks.length < 64 ∧ ∀ ys p, ys.Perm ks → sortedS ys = true → H p = none → Q (.ref p) (upd H p (.lst (ys.map V.str)))) oSortD := by
  intro R φ S H ds xs es rs rv he
  unfold oSortD at he
  split at he
  · obtain ⟨v, rfl, h1⟩ := RvL.one_of rv
    obtain ⟨kvs, e1, e2⟩ := Option.bind_eq_some_iff.mp he
    obtain ⟨ns, e3, e4⟩ := Option.bind_eq_some_iff.mp e2
    split at e4
    · rename_i hl
      obtain ⟨n, a, vs, rfl, rfl, ha, h2, h3⟩ := dct_of rs h1 e1
      have ll : kvs.length = vs.length := by
        have := RvL.length h3
        rw [List.length_map] at this
        exact this
      refine ⟨(sortS ns).map V.str, ?_, fun Q q => ⟨a, _, ns, rfl, h2, ?_, hl, fun ys p hp hs hn => ?_⟩⟩
      · cases e4
        exact rv_strs _
      · rw [fst_zip ll]
        exact keysS_eq e3
      · rw [sortS_uniq hp hs]
        exact q p hn
    · cases e4
  · cases he
def oSorted : List D → Store → Option (List D) := fun ds S => match (match oSortI ds S with | some es => some es | none => oSortS ds S) with | some es => some es | none => oSortD ds S
end
section
variable {T : List Addr} {X : Cx} {E : XK} {e : Expr} {mr : MA0} {p pos : Pos}
theorem me_sorted (hc : X.calm = true) (hg : Gl X "sorted") (hm : X.mg "sorted" = none) (ha : MAn T X E [e] mr) (he : starEach [e] X.env = (false, eval e X.env) :: starEach [] X.env := by rfl) (hpl : (backTo pos (starEach [] X.env)).any (·.1) = false := by rfl) :
    ME T X E (.Call (.Name "sorted" p) [e] [] pos) (mCall (frL oSorted) mr) := me_cb (CallR.or (CallR.or cr_sortedI cr_sortedS) (call_sortedD hc)) (Fresh.or (Fresh.or fr_sortI fr_sortS) fr_sortD).l hg hm (by decide +kernel) ha (by decide) (by decide) he hpl
theorem me_sortedS (hc : X.calm = true) (hg : Gl X "sorted") (hm : X.mg "sorted" = none) (ha : MAn T X E [e] mr) (he : starEach [e] X.env = (false, eval e X.env) :: starEach [] X.env := by rfl) (hpl : (backTo pos (starEach [] X.env)).any (·.1) = false := by rfl) :
    ME T X E (.Call (.Name "sorted" p) [e] [] pos) (mCall (frS oSorted) mr) := me_cb (CallR.or (CallR.or cr_sortedI cr_sortedS) (call_sortedD hc)) (Fresh.or (Fresh.or fr_sortI fr_sortS) fr_sortD).s hg hm (by decide +kernel) ha (by decide) (by decide) he hpl
end
end MM

/-! Walking texts. -/
namespace MM
open PySem PySem.Spec L2 PyProof.Rows
theorem PI.or {X : Cx} {tg e : Expr} {t1 t2 : TI} (h1 : PI X tg e t1) (h2 : PI X tg e t2) : PI X tg e (fun σ H R => t1 σ H R ∨ t2 σ H R) := ⟨fun pins s σ H R I h => h.elim (h1.run pins s σ H R I) (h2.run pins s σ H R I)⟩
theorem SndI.alt {G : Gd} {E : XK} {t1 t2 : TI} {m m1 m2 : MI0} (h1 : SndI G E t1 m1) (h2 : SndI G E t2 m2) (h : ∀ ρ S, m ρ S = m1 ρ S ∨ m ρ S = m2 ρ S) : SndI G E (fun σ H Q => t1 σ H Q ∨ t2 σ H Q) m := by
  intro σ H ρ φ R S rs rn
  rcases h ρ S with e | e
  · rw [e]
    exact Run.conv (h1 σ H ρ φ R S rs rn) fun Q q => .inl q
  · rw [e]
    exact Run.conv (h2 σ H ρ φ R S rs rn) fun Q q => .inr q
/-- the signs of a text -/
def signsD (z : Str) : List D := z.cps.toList.map fun c => .str ⟨#[c]⟩
def miS (me : ME0) : MI0 := fun ρ S => (me ρ S).bind fun d S1 => match d with
  | .str z => .ok (itL (signsD z)) S1
  | _ => .bad
section
variable {T : List Addr} {X : Cx} {E : XK} {e tg : Expr} {me : ME0}
theorem signs_get (z : Str) (i : Nat) : (signsD z)[i]? = z.cps[i]?.map fun c => D.str ⟨#[c]⟩ := by
  unfold signsD
  rw [List.getElem?_map, Array.getElem?_toList]
theorem relI_str {G : Gd} {R φ : List Addr} {H : Hp} {z : Str} : RelI G R φ H (itL (signsD z)) (Its z) := by
  intro R' hR i φ1 S1 H1 l rs
  refine ⟨fun e => ?_, fun d e => ?_⟩
  · have e' : (signsD z)[i]? = none := Option.some.inj e
    rw [signs_get] at e'
    have := Option.map_eq_none_iff.mp e'
    exact Array.getElem?_eq_none_iff.mp this
  · have e' : (signsD z)[i]? = some d := Option.some.inj e
    rw [signs_get] at e'
    obtain ⟨c, e1, e2⟩ := Option.map_eq_some_iff.mp e'
    refine ⟨(Array.getElem?_eq_some_iff.mp e1).1, fun x H' hy => ?_⟩
    obtain ⟨rfl, c', e3, rfl⟩ := hy
    rw [e1] at e3
    cases e3
    rw [← e2]
    exact ⟨Le.refl, rs, Rv.str⟩
theorem mi_str (h : ME T X E e me) : MI T X E tg e (miS me) := by
  obtain ⟨t, pt, s⟩ := h
  refine ⟨_, pi_str pt, fun σ H ρ φ R S rs rn => Run.bnd (c' := fun (x : V) H1 Q => ∃ z, x = V.str z ∧ Q (Its z) H1) (s σ H ρ φ R S rs rn) (fun d S1 φ1 v H1 e0 l1 rs1 r1 => ?_) fun Q q => q⟩
  cases d with
  | str z => exact Run.ret (v := Its z) rs1 relI_str fun Q q => ⟨z, Rv.str_of r1, q⟩
  | _ => exact Run.bad
end
end MM

/-! in, not in: texts, lists and tuples of flat values, lists of nested data, dicts. -/
namespace MM
open PySem PySem.Spec L2 PyProof.Rows
def flatD : D → Bool
  | .non => true
  | .bl _ => true
  | .int _ => true
  | .str _ => true
  | _ => false
def eqF : D → D → Bool
  | .non, .non => true
  | .bl a, .bl b => a == b
  | .bl a, .int b => (if a then 1 else 0) == b
  | .int a, .bl b => a == (if b then 1 else 0)
  | .int a, .int b => a == b
  | .str a, .str b => a == b
  | _, _ => false
def neg? (neg : Bool) (b : Bool) : Bool := if neg then !b else b
def fInS (neg : Bool) : D → D → Store → Res D := fun x y S => match x, y with
  | .str s, .str z => match s.cps.toList with
    | [c] => .ok (.bl (neg? neg (decide (c ∈ z.cps.toList)))) S
    | _ => .bad
  | _, _ => .bad
def fInF (neg : Bool) : D → D → Store → Res D := fun x y S => match seqOf S y with
  | some ys => if flatD x = true ∧ ys.all flatD = true then .ok (.bl (neg? neg (ys.any fun z => eqF z x))) S else .bad
  | none => .bad
def fIn (neg : Bool) : D → D → Store → Res D := fun x y S => match y with
  | .str _ => fInS neg x y S
  | .ref n => match dget S n x with
    | some _ => fInD neg x y S
    | none => fInF neg x y S
  | _ => fInF neg x y S
section
variable {G : Gd} {E : XK}
theorem flat_v {R φ : List Addr} {H : Hp} {d : D} {v : V} (h : Rv G R φ H d v) (f : flatD d = true) : flatV v = true ∧ ∀ e w, Rv G R φ H e w → flatD e = true → eqV v w = eqF d e := by
  cases d with
  | non =>
    rw [Rv.non_of h]
    refine ⟨rfl, fun e w r fe => ?_⟩
    cases e with
    | non => rw [Rv.non_of r]; rfl
    | bl b => rw [Rv.bl_of r]; rfl
    | int b => rw [Rv.int_of r]; rfl
    | str b => rw [Rv.str_of r]; rfl
    | _ => cases fe
  | bl b =>
    rw [Rv.bl_of h]
    refine ⟨rfl, fun e w r fe => ?_⟩
    cases e with
    | non => rw [Rv.non_of r]; rfl
    | bl b => rw [Rv.bl_of r]; rfl
    | int b => rw [Rv.int_of r]; rfl
    | str b => rw [Rv.str_of r]; rfl
    | _ => cases fe
  | int b =>
    rw [Rv.int_of h]
    refine ⟨rfl, fun e w r fe => ?_⟩
    cases e with
    | non => rw [Rv.non_of r]; rfl
    | bl b => rw [Rv.bl_of r]; rfl
    | int b => rw [Rv.int_of r]; rfl
    | str b => rw [Rv.str_of r]; rfl
    | _ => cases fe
  | str b =>
    rw [Rv.str_of h]
    refine ⟨rfl, fun e w r fe => ?_⟩
    cases e with
    | non => rw [Rv.non_of r]; rfl
    | bl b => rw [Rv.bl_of r]; rfl
    | int b => rw [Rv.int_of r]; rfl
    | str b => rw [Rv.str_of r]; rfl
    | _ => cases fe
  | _ => cases f
theorem flat_all {R φ : List Addr} {H : Hp} {x : D} {xv : V} (rx : Rv G R φ H x xv) (fx : flatD x = true) : ∀ {ds : List D} {vs : List V}, RvL G R φ H ds vs → ds.all flatD = true → vs.all flatV = true ∧ inV xv vs = ds.any fun z => eqF z x
  | [], vs, h, _ => by
    unfold RvL at h
    subst h
    exact ⟨rfl, rfl⟩
  | d :: ds, vs, h, f => by
    unfold RvL at h
    obtain ⟨v, t, rfl, h1, h2⟩ := h
    rw [List.all_cons] at f
    obtain ⟨f1, f2⟩ := Bool.and_eq_true_iff.mp f
    obtain ⟨a1, a2⟩ := flat_v h1 f1
    obtain ⟨b1, b2⟩ := flat_all rx fx h2 f2
    refine ⟨by rw [List.all_cons, a1, b1]; rfl, ?_⟩
    unfold inV at b2 ⊢
    rw [List.any_cons, List.any_cons, b2, a2 x xv rx fx]
theorem o_inF {neg : Bool} : Op2 G E (rIn G.K neg) (fInF neg) := by
  intro R φ S H d e x y rs rd re
  unfold fInF
  split
  · rename_i ys hys
    split
    · rename_i hf
      obtain ⟨a, vs, rfl, h1, h2⟩ := seq_of rs re hys
      obtain ⟨f1, f2⟩ := flat_all rd hf.1 h2 hf.2
      exact Run.ret rs Rv.bl fun Q q => ⟨a, vs, rfl, h1, (flat_v rd hf.1).1, f1, by rw [f2]; exact q⟩
    · exact Run.bad
  · exact Run.bad
def rInSg (neg : Bool) : R2 := fun x y H Q => ∃ (c : Nat) (z : Str), x = .str ⟨#[c]⟩ ∧ y = .str z ∧ Q (.bl (neg? neg (decide (c ∈ z.cps.toList)))) H
theorem o_inS {neg : Bool} : Op2 G E (rInSg neg) (fInS neg) := by
  intro R φ S H d e x y rs rd re
  unfold fInS
  split
  · rename_i s z
    split
    · rename_i c hc
      have es := Rv.str_of rd
      have ez := Rv.str_of re
      subst es ez
      have : s = ⟨#[c]⟩ := by
        cases s with
        | mk cps => congr 1; exact Array.toList_inj.mp hc
      exact Run.ret rs Rv.bl fun Q q => ⟨c, z, by rw [this], rfl, q⟩
    · exact Run.bad
  · exact Run.bad
theorem fIn_or (neg : Bool) (x y : D) (S : Store) : fIn neg x y S = fInS neg x y S ∨ fIn neg x y S = fInD neg x y S ∨ fIn neg x y S = fInF neg x y S := by
  unfold fIn
  cases y with
  | str z => exact .inl rfl
  | ref n =>
    dsimp only
    cases dget S n x with
    | none => exact .inr (.inr rfl)
    | some o => exact .inr (.inl rfl)
  | _ => exact .inr (.inr rfl)
theorem o_in {neg : Bool} : Op2 G E (fun x y H Q => (rInSg neg x y H Q ∨ rInD neg x y H Q) ∨ rIn G.K neg x y H Q) (fIn neg) := by
  intro R φ S H d e x y rs rd re
  rcases fIn_or neg d e S with h | h | h <;> rw [h]
  · exact Run.conv (o_inS R φ S H d e x y rs rd re) fun Q q => .inl (.inl q)
  · exact Run.conv (o_inD R φ S H d e x y rs rd re) fun Q q => .inl (.inr q)
  · exact Run.conv (o_inF R φ S H d e x y rs rd re) fun Q q => .inr q
end
section
variable {X : Cx}
theorem op_in (hu : X.A.units + 64 < cLine) : OpR X (compareOp .In) (fun x y H Q => (rInSg false x y H Q ∨ rInD false x y H Q) ∨ rIn X.K false x y H Q) := OpR.or (OpR.or op_in_sign (op_inD hu)) op_in_seq
theorem op_notIn (hu : X.A.units + 64 < cLine) : OpR X (compareOp .NotIn) (fun x y H Q => (rInSg true x y H Q ∨ rInD true x y H Q) ∨ rIn X.K true x y H Q) := OpR.or (OpR.or op_notIn_sign (op_notInD hu)) op_notIn_seq
end
end MM

/-! x[::-1] of tuples and lists. -/
namespace MM
open PySem PySem.Spec L2 PyProof.Rows HT
section
variable {prog : Program} {w : World} {A : Around} {E : Value → Shared → Prop} {s : Shared}
theorem rev_places (n : Nat) : Builtin.Slice.sliceAdjust none none (-1) (n : Int) = ((n : Int) - 1, -1) ∧ Builtin.Slice.slicePlaces ((n : Int) - 1) (-1) (-1) = n := by
  constructor
  · unfold Builtin.Slice.sliceAdjust
    rfl
  · unfold Builtin.Slice.slicePlaces
    rw [if_neg (by decide)]
    simp only [Int.neg_neg, Int.ediv_one]
    split <;> omega
theorem fm_map {α β : Type} {f : α → Option β} {g : α → β} : ∀ {l : List α}, (∀ m ∈ l, f m = some (g m)) → l.filterMap f = l.map g
  | [], _ => rfl
  | a :: l, h => by
    rw [List.filterMap_cons, h a List.mem_cons_self, List.map_cons, fm_map fun m hm => h m (List.mem_cons_of_mem _ hm)]
theorem rev_pick (xs : Array Value) : ((List.range xs.size).filterMap fun (m : Nat) => xs[(((xs.size : Int) - 1) + (m : Int) * (-1)).toNat]?).toArray = xs.toList.reverse.toArray := by
  congr 1
  apply List.ext_getElem?
  intro i
  have e : ((List.range xs.size).filterMap fun (m : Nat) => xs[(((xs.size : Int) - 1) + (m : Int) * (-1)).toNat]?) = (List.range xs.size).map fun m => xs.toList.reverse.getD m .none := by
    refine fm_map fun m hm => ?_
    have hm' := List.mem_range.mp hm
    have h1 : (((xs.size : Int) - 1) + (m : Int) * (-1)).toNat = xs.size - 1 - m := by omega
    have h2 : m < xs.toList.reverse.length := by rw [List.length_reverse, Array.length_toList]; exact hm'
    rw [h1]
    show _ = some (xs.toList.reverse.getD m .none)
    rw [List.getD_eq_getElem?_getD, List.getElem?_eq_getElem h2]
    rw [List.getElem_reverse, Array.getElem?_eq_getElem (by omega)]
    simp
  rw [e, List.getElem?_map]
  by_cases hi : i < xs.size
  · rw [List.getElem?_range hi]
    have h2 : i < xs.toList.reverse.length := by rw [List.length_reverse, Array.length_toList]; exact hi
    rw [List.getElem?_eq_getElem h2]
    show some (xs.toList.reverse.getD i .none) = _
    rw [List.getD_eq_getElem?_getD, List.getElem?_eq_getElem h2]
    rfl
  · rw [List.getElem?_eq_none (by rw [List.length_range]; omega), List.getElem?_eq_none (by rw [List.length_reverse, Array.length_toList]; omega)]
    rfl
theorem sliceApplied_rev {sl : Addr} {vl vu vs : Value} {n : Nat} {Q : Int × Int × Nat → Shared → Prop} (hs : s.heap.IsSliceOf sl vl vu vs) (pl : IsPart vl none) (pu : IsPart vu none) (ps : IsPart vs (some (-1)))
    (h : Q ((n : Int) - 1, -1, n) s) : wpAny (model prog w) A (Builtin.Slice.sliceApplied (.ref sl) (pure (n : Int))) Q E s := by
  obtain ⟨os, hos, hcs, hds⟩ := id hs
  unfold Builtin.Slice.sliceApplied Builtin.Slice.sliceFields
  refine wpAny_bind (wpAny_bind (wpAny_field hos hds (x := vl) rfl (wpAny_bind (wpAny_field hos hds (x := vu) rfl (wpAny_bind (wpAny_field hos hds (x := vs) rfl (wpAny_pure ?_)))))))
  refine wpAny_bind (slicePart_ ps ?_)
  show wpAny _ _ (if ((-1 : Int) == 0) = true then _ else _) _ _ s
  rw [if_neg (by decide)]
  refine wpAny_bind (slicePart_ pl (wpAny_bind (slicePart_ pu (wpAny_bind (wpAny_pure ?_)))))
  show wpAny _ _ (match Builtin.Slice.sliceAdjust none none (-1) (n : Int) with | (lo, hi) => pure (lo, (-1 : Int), Builtin.Slice.slicePlaces lo hi (-1))) _ _ s
  rw [(rev_places n).1]
  show wpAny _ _ (pure ((n : Int) - 1, (-1 : Int), Builtin.Slice.slicePlaces ((n : Int) - 1) (-1) (-1))) _ _ s
  rw [(rev_places n).2]
  exact wpAny_pure h
theorem getItem_tuple_rev {t sl : Addr} {items : Array Value} {vl vu vs : Value} {Q : Value → Shared → Prop} (ht : IsTup s.heap t items) (hs : s.heap.IsSliceOf sl vl vu vs) (pl : IsPart vl none) (pu : IsPart vu none) (ps : IsPart vs (some (-1)))
    (h : Q (.ref s.heap.objs.size) { s with heap := s.heap.push { cls := .type "tuple", data := .seq items.toList.reverse.toArray } })
    (hsz : items.size ≤ sizeLine) : wpAny (model prog w) A (getItem (.ref t) (.ref sl)) Q E s := by
  have htake : sizeOk (.seq items.toList.reverse.toArray) := by
    show items.toList.reverse.toArray.size ≤ sizeLine
    rw [List.size_toArray, List.length_reverse, Array.length_toList]
    exact hsz
  obtain ⟨os, hos, hcs, hds⟩ := id hs
  have hTs : s.TypeIs (.ref sl) "slice" := ⟨os, hos, hcs⟩
  unfold getItem
  try with_reducible refine wpAny_holding ?_
  first | refine wpAny_bind (wpAny_pure ?_) | skip
  refine wpAny_bind (wpAny_sequenceKey ht.typeIs (by decide) ?_)
  refine wpAny_bind (wpAny_callSpecial?_slot (name := Str.ofString "__getitem__") ht.typeIs PyProof.Rows.slot_tuple_getitem
    (wpAny_call_entry PyProof.Rows.slot_tuple_getitem ht.typeIs entry_tuple_getitem ?_ (args_tuple_getitem _ _)))
  show wpAny _ _ (Builtin.Tuple.tupleItemsOf (.ref t) >>= _) _ _ s
  refine wpAny_bind (tupleItemsOf_ ht ?_)
  refine wpAny_bind (wpAny_typeOf hTs ?_)
  rw [if_pos (by decide)]
  refine wpAny_bind (sliceApplied_rev hs pl pu ps ?_)
  have hno : ¬ ((((items.size : Int) - 1) == 0 && (-1 : Int) == 1 && items.size == items.size) = true) := by
    intro q
    rw [Bool.and_eq_true, Bool.and_eq_true] at q
    exact absurd (eq_of_beq q.1.2) (by decide)
  show wpAny _ _ (if (((items.size : Int) - 1) == 0 && (-1 : Int) == 1 && items.size == items.size) = true then _ else _) _ _ s
  rw [if_neg hno, rev_pick]
  first
    | exact wpAny_bind (m := Builtin.Tuple.tupleExact _) (wpAny_newObj_type (wpAny_pure ⟨_, rfl, wpAny_pure h⟩) htake)
    | exact wpAny_bind (m := Builtin.Tuple.tupleExact _) (wpAny_newObj_type (wpAny_bind (wpAny_pure (wpAny_pure ⟨_, rfl, wpAny_pure h⟩))) htake)
    | exact wpAny_bind (wpAny_bind (m := Builtin.Tuple.tupleExact _) (wpAny_newObj_type (wpAny_pure (wpAny_pure ⟨_, rfl, wpAny_pure h⟩)) htake))
    | exact wpAny_bind (wpAny_bind (m := Builtin.Tuple.tupleExact _) (wpAny_newObj_type (wpAny_pure ⟨_, rfl, wpAny_pure h⟩) htake))
end
end MM

/-! x[::-1] as a rule. -/
namespace MM
open PySem PySem.Spec L2 PyProof.Rows
def tRevT (K : PySem.W.Frag) (te : TE) : TE := fun σ H Q => te σ H fun x H1 => ∃ a xs, x = .ref a ∧ SqT K H1 a xs ∧ ∀ p, H1 p = none → Q (.ref p) (upd H1 p (.tup xs.reverse))
section
variable {X : Cx}
theorem pe_revT {e : Expr} {te : TE} {k : Nat} {p1 p2 p3 pos : Pos} (he : PE X e te) : PE X (.Subscript e (.Slice none none (some (.UnaryOp .USub (.Constant (.int 1) k p1) p2)) p3) pos) (tRevT X.K te) := by
  refine ⟨fun pins s σ H Q I h => ?_⟩
  refine Subscript_ (thn (he.run pins s σ H _ I h) fun v s1 ⟨x, H1, I1, r1, q1⟩ => ?_)
  obtain ⟨a, xs, ex, hx, q⟩ := q1
  subst ex
  cases r1
  have hst : PO X (some (.UnaryOp .USub (.Constant (.int 1) k p1) p2)) (tPart (tUn (rU fun i => .int (-i)) (tC (.int 1)))) := po_some (pe_un un_neg pe_int)
  refine wpAny_Slice (thn (po_none.run pins s1 σ H1 (fun o H2 => o = none ∧ H2 = H1) I1 ⟨rfl, rfl⟩) fun vl s2 ⟨l, H2, I2, pl, el, e2⟩ => ?_)
  subst el e2
  refine thn (po_none.run pins s2 σ H2 (fun o H3 => o = none ∧ H3 = H2) I2 ⟨rfl, rfl⟩) fun vu s3 ⟨u, H3, I3, pu, eu, e3⟩ => ?_
  subst eu e3
  refine thn (hst.run pins s3 σ H3 (fun o H4 => o = some (-1) ∧ H4 = H3) I3 ⟨1, rfl, -1, rfl, rfl, rfl⟩) fun vs s4 ⟨o, H4, I4, ps, eo, e4⟩ => ?_
  subst eo e4
  have I5 : Inv X pins σ H4 { s4 with heap := s4.heap.push { cls := .type "slice", data := .fields #[vl, vu, vs] } } := I4.kept (t' := s4.toks) fun b ob q => Heap.get?_push_of_some _ q
  obtain ⟨its, r, ht, hz⟩ := I5.tuple hx
  have hlen := r.length
  show wpAny (model X.prog X.w) X.A (subscriptTail e (.Slice none none (some (.UnaryOp .USub (.Constant (.int 1) k p1) p2)) p3) (.ref a) (.ref s4.heap.objs.size)) (EP X pins σ Q) X.xe { s4 with heap := s4.heap.push { cls := .type "slice", data := .fields #[vl, vu, vs] } }
  refine tail_any (ops := [.ref a, .ref s4.heap.objs.size]) ht.typeIs (PyProof.Rows.slot_tuple_getitem.lookup) ?_ (by with_unfolding_all rfl)
  refine getItem_tuple_rev ht (Heap.IsSliceOf.new _ vl vu vs) pl pu ps ?_ (by rw [List.size_toArray]; omega)
  refine ⟨.ref _, _, I5.laid (t' := s4.toks) (o := .tup xs.reverse) (fun b ob q => Heap.get?_push_of_some _ q) (Nat.le_refl _) ?_, rfl, q _ (I5.hok.fresh (Nat.le_refl _))⟩
  exact ⟨by rw [List.length_reverse]; exact hz, _, r.reverse, IsTup.new _ _⟩
end
def fRev : D → Store → Res D := fun x S => match x with
  | .tup ds => .ok (.tup ds.reverse) S
  | d => match lstOf S d with
    | some ds => .ok (.lst ds.reverse) S
    | none => .bad
section
variable {T : List Addr} {X : Cx} {E : XK} {e : Expr} {me : ME0}
def fRevT : D → Store → Res D := fun x S => match x with
  | .tup ds => .ok (.tup ds.reverse) S
  | _ => .bad
def fRevL : D → Store → Res D := fun x S => match lstOf S x with
  | some ds => .ok (.lst ds.reverse) S
  | none => .bad
theorem fRev_or (x : D) (S : Store) : fRev x S = fRevL x S ∨ fRev x S = fRevT x S := by
  cases x with
  | tup ds => exact .inr rfl
  | _ => exact .inl rfl
theorem mUn_or {f f1 f2 : D → Store → Res D} {ma : ME0} (h : ∀ x S, f x S = f1 x S ∨ f x S = f2 x S) (ρ : Rho) (S : Store) : mUn f ma ρ S = mUn f1 ma ρ S ∨ mUn f ma ρ S = mUn f2 ma ρ S := by
  unfold mUn
  cases ma ρ S with
  | ok x S1 => exact h x S1
  | exc e S1 => exact .inl rfl
  | bad => exact .inl rfl
theorem me_rev {k : Nat} {p1 p2 p3 pos : Pos} (he : ME T X E e me) : ME T X E (.Subscript e (.Slice none none (some (.UnaryOp .USub (.Constant (.int 1) k p1) p2)) p3) pos) (mUn fRev me) := by
  obtain ⟨t, pt, s⟩ := he
  refine ⟨_, PE.or (pe_revL pt) (pe_revT pt), SndE.alt (m1 := mUn fRevL me) (m2 := mUn fRevT me) (fun σ H ρ φ R S rs rn => ?_) (fun σ H ρ φ R S rs rn => ?_) (mUn_or fRev_or)⟩
  · refine Run.bnd (c' := fun (x : V) H1 (Q : VK) => ∃ a xs, x = V.ref a ∧ SqL X.K H1 a xs ∧ ∀ p, H1 p = none → Q (.ref p) (upd H1 p (.lst xs.reverse))) (s σ H ρ φ R S rs rn) (fun d S1 φ1 x H1 _ l1 rs1 r1 => ?_) fun Q q => q
    unfold fRevL
    split
    · rename_i ds hds
      obtain ⟨a, vs, rfl, h1, h2⟩ := lst_of rs1 r1 hds
      exact Run.new (o := .lst vs.reverse) rs1 (fun p hp => Rv.lst (rs1.fresh hp).1 (rs1.fresh hp).2 upd_same (RvL.le (Le.new rs1 hp) (RvL.reverse h2))) fun Q q => ⟨a, vs, rfl, h1, q⟩
    · exact Run.bad
  · refine Run.bnd (c' := fun (x : V) H1 (Q : VK) => ∃ a xs, x = V.ref a ∧ SqT X.K H1 a xs ∧ ∀ p, H1 p = none → Q (.ref p) (upd H1 p (.tup xs.reverse))) (s σ H ρ φ R S rs rn) (fun d S1 φ1 x H1 _ l1 rs1 r1 => ?_) fun Q q => q
    cases d with
    | tup ds =>
      obtain ⟨a, vs, rfl, h1, h2⟩ := Rv.tup_of r1
      exact Run.new (o := .tup vs.reverse) rs1 (fun p hp => Rv.tup upd_same (RvL.le (Le.new rs1 hp) (RvL.reverse h2))) fun Q q => ⟨a, vs, rfl, h1, q⟩
    | _ => exact Run.bad
end
end MM

/-! isinstance with an own class, with a tuple of built-in ones, of an instance with a built-in one. -/
namespace MM
open PySem PySem.Spec L2 PyProof.Rows
/-- what isinstance asks of an own class whose instances are met -/
structure IsiAt (K : PySem.W.Frag) (mg : Str → Option Value) (c : Str) (C : Addr) : Prop where
  A : ClsAt K mg c C
  ha : PySem.W.findIn K (.ref C) "__class__" = some (some (.builtin "object.__class__"))
  hn : PySem.W.specialIn K (.builtin "object.__class__") "__get__" = some (some (.builtin "getset_descriptor.__get__"))
  htk : PySem.W.takesIn K (.builtin "object.__class__") = some true
  hm : PySem.W.mroIn K C (.type "object") = some true
  self : PySem.W.kitOne K (.ref C) (.ref C) = some true
  non : PySem.W.kitOne K (.type "NoneType") (.ref C) = some false
  bl : PySem.W.kitOne K (.type "bool") (.ref C) = some false
  int : PySem.W.kitOne K (.type "int") (.ref C) = some false
  str : PySem.W.kitOne K (.type "str") (.ref C) = some false
  tup : PySem.W.kitOne K (.type "tuple") (.ref C) = some false
  lst : PySem.W.kitOne K (.type "list") (.ref C) = some false
  dct : PySem.W.kitOne K (.type "dict") (.ref C) = some false
theorem IsiAt.ty {K : PySem.W.Frag} {mg : Str → Option Value} {c : Str} {C : Addr} {t : String} {S : Store} {d : D} (I : IsiAt K mg c C) (h : tyD S d = some t) : PySem.W.kitOne K (.type t) (.ref C) = some false := by
  cases d with
  | non => cases h; exact I.non
  | bl b => cases h; exact I.bl
  | int b => cases h; exact I.int
  | str b => cases h; exact I.str
  | tup b => cases h; exact I.tup
  | lst b => cases h; exact I.lst
  | frz b => cases h
  | err c f ds => cases h
  | ref n =>
    change tyO S[n]? = some t at h
    cases ho : S[n]? with
    | none => rw [ho] at h; cases h
    | some o =>
      rw [ho] at h
      cases o with
      | lst ds => cases h; exact I.lst
      | dct ds => cases h; exact I.dct
      | dcT ds => cases h
      | ins c fs => cases h
      | lk o => cases h
/-- isinstance(x, c), c an own class: x of it, or of a built-in one -/
def fIsiC (c : Str) : D → Store → Res D := fun x S => match tyD S x with
  | some _ => .ok (.bl false) S
  | none => match x with
    | .ref n => match insAt S c n with
      | some _ => .ok (.bl true) S
      | none => .bad
    | _ => .bad
section
variable {T : List Addr} {X : Cx} {E : XK} {e : Expr} {me : ME0} {c : Str} {C : Addr} {p q pos : Pos}
theorem me_isiC (I : IsiAt X.K X.mg c C) (hg : Gl X "isinstance") (hm : X.mg "isinstance" = none) (hgC : Gl X c) (h : ME T X E e me) (hdT : (c == ("__debug__" : Str)) = false := by decide)
    (he : starEach [e, .Name c q] X.env = (false, eval e X.env) :: starEach [.Name c q] X.env := by rfl) (he2 : starEach [.Name c q] X.env = (false, eval (.Name c q) X.env) :: starEach [] X.env := by rfl) (hpl : (backTo pos (starEach [.Name c q] X.env)).any (·.1) = false := by rfl) :
    ME T X E (.Call (.Name "isinstance" p) [e, .Name c q] [] pos) (mUn (fIsiC c) me) := by
  obtain ⟨t, pt, st⟩ := h
  refine ⟨_, pe_callB call_isi hg hm (by decide +kernel) (pa_cons pt (pa_cons (pe_glob (v := .ref C) hgC I.A.m rfl hdT) pa_nil he2) he) (by decide) (by decide) he hpl, fun σ H ρ φ R S rs rn => ?_⟩
  refine Run.bnd (c' := fun (v : V) H1 (Q : VK) => rIsi X.K [v, .ref C] H1 Q) (st σ H ρ φ R S rs rn) (fun d S1 φ1 v H1 e0 l1 rs1 r1 => ?_) fun Q q => q
  unfold fIsiC
  split
  · rename_i ty ht
    exact Run.ret rs1 Rv.bl fun Q q => ⟨v, .ref C, .type ty, .ref C, false, rfl, .own C, tyD_x rs1 r1 ht, I.ty ht, q⟩
  · split
    · rename_i n
      split
      · rename_i fs hfs
        obtain ⟨a, dx, vs, rfl, hai, h1, h2⟩ := rs1.ins r1 hfs I.A.m
        exact Run.ret rs1 Rv.bl fun Q q => ⟨.ref a, .ref C, .ref C, .ref C, true, rfl, .own C, .base (.ins h1 I.A.cls I.ha I.hn I.htk I.hm), I.self, q⟩
      · exact Run.bad
    · exact Run.bad
/-! isinstance(x, (A, B)) -/
def kitAnyB (t : String) : List String → Option Bool
  | [] => some false
  | b :: bs => match kitB t b with
    | some true => some true
    | some false => kitAnyB t bs
    | none => none
theorem kitAnyB_v {K : PySem.W.Frag} {t : String} : ∀ {bs : List String} {r : Bool}, kitAnyB t bs = some r → PySem.W.kitAny K (.type t) (bs.map Value.type) = some r
  | [], r, h => by
    cases h
    exact kitAny_nil
  | b :: bs, r, h => by
    unfold kitAnyB at h
    cases hb : kitB t b with
    | none => rw [hb] at h; cases h
    | some k =>
      rw [hb] at h
      cases k with
      | true =>
        cases h
        exact kitAny_cons (kit_ty hb) (fun z => nomatch z) fun _ => rfl
      | false =>
        exact kitAny_cons (kit_ty hb) (fun _ => kitAnyB_v h) fun z => nomatch z
def fIsiT (bs : List String) : D → Store → Res D := fun d S => match tyD S d with
  | some t => match kitAnyB t bs with
    | some b => .ok (.bl b) S
    | none => .bad
  | none => .bad
theorem tys_paired : ∀ bs : List String, Paired ClsV (bs.map V.ty) (bs.map Value.type)
  | [] => .nil
  | b :: bs => .cons (.ty b) (tys_paired bs)
/-- a tuple of built-in classes -/
structure TyTup (X : Cx) (e : Expr) (bs : List String) : Prop where
  ex : ∃ t, PE X e t ∧ ∀ σ H Q, (∀ p, H p = none → Q (V.ref p) (upd H p (.tup (bs.map V.ty)))) → t σ H Q
theorem tyTup2 {a b : Str} {A B : String} {pa pb pt : Pos} {kk : Nat} (ga : Gl X a) (ma : X.mg a = none) (va : bootBuiltins a = some (.type A)) (gb : Gl X b) (mb : X.mg b = none) (vb : bootBuiltins b = some (.type B)) (na : a ≠ "__name__" := by decide) (nb : b ≠ "__name__" := by decide) (da : (a == ("__debug__" : Str)) = false := by decide) (db : (b == ("__debug__" : Str)) = false := by decide)
    (h1 : starEach [.Name a pa, .Name b pb] X.env = (false, eval (.Name a pa) X.env) :: starEach [.Name b pb] X.env := by rfl) (h2 : starEach [.Name b pb] X.env = (false, eval (.Name b pb) X.env) :: starEach [] X.env := by rfl) : TyTup X (.Tuple [.Name a pa, .Name b pb] kk pt) [A, B] :=
  ⟨_, pe_tup (pa_cons (pe_bltn (v := .ty A) ga ma va rfl na da) (pa_cons (pe_bltn (v := .ty B) gb mb vb rfl nb db) pa_nil h2) h1), fun σ H Q q => ⟨show 2 ≤ sizeLine by decide, q⟩⟩
theorem me_isiT {bs : List String} {te : Expr} (Y : TyTup X te bs) (hg : Gl X "isinstance") (hm : X.mg "isinstance" = none) (h : ME T X E e me)
    (he : starEach [e, te] X.env = (false, eval e X.env) :: starEach [te] X.env := by rfl) (he2 : starEach [te] X.env = (false, eval te X.env) :: starEach [] X.env := by rfl) (hpl : (backTo pos (starEach [te] X.env)).any (·.1) = false := by rfl) :
    ME T X E (.Call (.Name "isinstance" p) [e, te] [] pos) (mUn (fIsiT bs) me) := by
  obtain ⟨t, pt, st⟩ := h
  obtain ⟨u, pu, su⟩ := Y.ex
  refine ⟨_, pe_callB call_isiT hg hm (by decide +kernel) (pa_cons pt (pa_cons pu pa_nil he2) he) (by decide) (by decide) he hpl, fun σ H ρ φ R S rs rn => ?_⟩
  refine Run.bnd (c' := fun (v : V) H1 (Q : VK) => u σ H1 fun y H2 => rIsiT X.K [v, y] H2 Q) (st σ H ρ φ R S rs rn) (fun d S1 φ1 v H1 e0 l1 rs1 r1 => ?_) fun Q q => q
  unfold fIsiT
  split
  · rename_i ty ht
    split
    · rename_i b hb
      intro Q hq _ _
      refine su σ H1 _ fun p hp => ?_
      have l := Le.new rs1 (o := .tup (bs.map V.ty)) hp
      have rs2 := rs1.new (o := .tup (bs.map V.ty)) hp
      refine ⟨v, p, bs.map V.ty, .type ty, bs.map Value.type, b, rfl, upd_same, ?_, tyD_x rs2 (Rv.le l r1) ht, kitAnyB_v hb, hq (.bl b) S1 φ1 (.bl b) _ rfl l rs2 Rv.bl⟩
      exact tys_paired bs
    · exact Run.bad
  · exact Run.bad
end
end MM

/-! Targets that take a tuple or a list apart. -/
namespace MM
open PySem PySem.Spec L2 PyProof.Rows
def gTpA (n : Nat) (gs : MGs0) : MG0 := fun d ρ S => match seqOf S d with
  | some ds => if ds.length = n then gs ds ρ S else .bad
  | none => .bad
theorem PG.or {X : Cx} {tg : Expr} {t1 t2 : TG} (h1 : PG X tg t1) (h2 : PG X tg t2) : PG X tg (fun v σ H Q => t1 v σ H Q ∨ t2 v σ H Q) := ⟨fun pins s σ H v u Q I r h => h.elim (h1.run pins s σ H v u Q I r) (h2.run pins s σ H v u Q I r)⟩
section
variable {T : List Addr} {X : Cx} {E : XK} {pos : Pos} {vs : List Nat}
theorem SndG.seq {n : Nat} {t : TGs} {gs : MGs0} (s : SndGs (X.gd T) E t gs) : SndG (X.gd T) E (fun v σ H Q => gTup X.K n t v σ H Q ∨ gLst X.K n t v σ H Q) (gTpA n gs) := by
  intro d v σ H ρ φ R S rs rn r
  unfold gTpA
  split
  · rename_i ds hds
    obtain ⟨a, us, rfl, h1, h2⟩ := seq_of rs r hds
    by_cases hl : ds.length = n
    · rw [if_pos hl]
      have hu : us.length = n := by rw [← RvL.length h2]; exact hl
      refine Run.conv (s ds us σ H ρ φ R S rs rn h2) fun Q q => ?_
      rcases h1 with h1 | h1
      · exact .inr ⟨a, us, rfl, h1, hu, q⟩
      · exact .inl ⟨a, us, rfl, h1, hu, q⟩
    · rw [if_neg hl]
      exact Run.bad
  · exact Run.bad
theorem mg_tupA {es : List Expr} {k n : Nat} {gs : MGs0} (hc : X.calm = true) (h : MGs T X E es gs) (hn : (assignEach es X.env).length = n := by rfl) (hst : (assignEach es X.env).findIdx? (·.1) = none := by rfl) : MG T X E (.Tuple es k pos) (gTpA n gs) := by
  obtain ⟨t, pt, s⟩ := h
  exact ⟨_, PG.or (pg_tup hc pt hn hst) (pg_lst hc pt hn hst), SndG.seq s⟩
theorem wipes_seq {K : PySem.W.Frag} {n : Nat} {t : TGs} {vs : List Nat} (h : WipesGs t vs) : WipesG (fun v σ H Q => gTup K n t v σ H Q ∨ gLst K n t v σ H Q) vs := fun v σ H Q Q' hq q => by
  rcases q with q | q
  · obtain ⟨a, xs, e, h1, h2, q⟩ := q
    exact .inl ⟨a, xs, e, h1, h2, h xs σ H _ _ hq q⟩
  · obtain ⟨a, xs, e, h1, h2, q⟩ := q
    exact .inr ⟨a, xs, e, h1, h2, h xs σ H _ _ hq q⟩
theorem mgc_tupA {K : PySem.W.Frag} {es : List Expr} {k n : Nat} {t : TGs} {gs : MGs0} (hK : K = X.K) (hc : X.calm = true) (h : MGcs T X E es vs t gs) (hn : (assignEach es X.env).length = n := by rfl) (hst : (assignEach es X.env).findIdx? (·.1) = none := by rfl) : MGc T X E (.Tuple es k pos) vs (fun v σ H Q => gTup K n t v σ H Q ∨ gLst K n t v σ H Q) (gTpA n gs) := by
  subst hK
  exact ⟨PG.or (pg_tup hc h.pg hn hst) (pg_lst hc h.pg hn hst), SndG.seq h.snd, wipes_seq h.wip⟩
end
/-! a, b = x, y -/
def sPar (i j : Nat) (ma : MA0) : MS0 := fun ρ S => (ma ρ S).bind fun ds S1 => match ds with
  | [x, y] => .ok (.nx, (ρ.set i (some x)).set j (some y)) S1
  | _ => .bad
def sPar3 (i j l : Nat) (ma : MA0) : MS0 := fun ρ S => (ma ρ S).bind fun ds S1 => match ds with
  | [x, y, z] => .ok (.nx, ((ρ.set i (some x)).set j (some y)).set l (some z)) S1
  | _ => .bad
section
variable {T : List Addr} {X : Cx} {E : XK} {a b c : Expr} {px py pz pt pos : Pos} {ma : MA0}
theorem ms_par {i j : Nat} {x y : Str} {kt k2 pt2} (hc : X.calm = true) (hN : X.N.Nodup) (hi : X.N[i]? = some x) (hj : X.N[j]? = some y) (hij : i ≠ j)
    (hx : X.env.scope.names.lookup x = some .local) (hy : X.env.scope.names.lookup y = some .local) (ha : MAn T X E [a, b] ma)
    (hw : swappedStores [.Tuple [.Name x px, .Name y py] kt pt] (.Tuple [a, b] k2 pt2) X.env = pure (some [x, y]))
    (hs : swapsWithSole [.Tuple [.Name x px, .Name y py] kt pt] (.Tuple [a, b] k2 pt2) pos.line X.env = pure false := by rfl) :
    MS T X E (.Assign [.Tuple [.Name x px, .Name y py] kt pt] (.Tuple [a, b] k2 pt2) pos) (sPar i j ma) := by
  obtain ⟨⟨t, pt', s⟩, _⟩ := ha
  refine ⟨_, ps_par hc hN hi hj hij hx hy pt' hw hs, fun σ H ρ φ R S rs rn => ?_⟩
  refine Run.bnd (c' := fun (vs : List V) H1 (Q : Out → Hp → Prop) => ∃ v w, vs = [v, w] ∧ Q (.nx ((σ.set i (some v)).set j (some w))) H1) (s σ H ρ φ R S rs rn) (fun ds S1 φ1 vs H1 _ l1 rs1 r1 => ?_) fun Q q => q
  split
  · rename_i d1 d2
    unfold RvL at r1
    obtain ⟨v, r, rfl, h1, r1⟩ := r1
    unfold RvL at r1
    obtain ⟨w, r, rfl, h2, r1⟩ := r1
    unfold RvL at r1
    subst r1
    exact Run.ret (v := Out.nx ((σ.set i (some v)).set j (some w))) rs1 (show Rn _ _ _ _ _ _ from ((rn.le l1).set h1).set h2) fun Q q => ⟨v, w, rfl, q⟩
  · exact Run.bad
theorem ms_par3 {i j l : Nat} {x y z : Str} {kt k2 pt2} (hc : X.calm = true) (hN : X.N.Nodup) (hi : X.N[i]? = some x) (hj : X.N[j]? = some y) (hl : X.N[l]? = some z) (hij : i ≠ j) (hil : i ≠ l) (hjl : j ≠ l)
    (hx : X.env.scope.names.lookup x = some .local) (hy : X.env.scope.names.lookup y = some .local) (hz : X.env.scope.names.lookup z = some .local) (ha : MAn T X E [a, b, c] ma)
    (hw : swappedStores [.Tuple [.Name x px, .Name y py, .Name z pz] kt pt] (.Tuple [a, b, c] k2 pt2) X.env = pure (some [x, y, z]))
    (hs : swapsWithSole [.Tuple [.Name x px, .Name y py, .Name z pz] kt pt] (.Tuple [a, b, c] k2 pt2) pos.line X.env = pure false := by rfl) :
    MS T X E (.Assign [.Tuple [.Name x px, .Name y py, .Name z pz] kt pt] (.Tuple [a, b, c] k2 pt2) pos) (sPar3 i j l ma) := by
  obtain ⟨⟨t, pt', s⟩, _⟩ := ha
  refine ⟨_, ps_par3 hc hN hi hj hl hij hil hjl hx hy hz pt' hw hs, fun σ H ρ φ R S rs rn => ?_⟩
  refine Run.bnd (c' := fun (vs : List V) H1 (Q : Out → Hp → Prop) => ∃ u v w, vs = [u, v, w] ∧ Q (.nx (((σ.set i (some u)).set j (some v)).set l (some w))) H1) (s σ H ρ φ R S rs rn) (fun ds S1 φ1 vs H1 _ l1 rs1 r1 => ?_) fun Q q => q
  split
  · rename_i d1 d2 d3
    unfold RvL at r1
    obtain ⟨u, r, rfl, h0, r1⟩ := r1
    unfold RvL at r1
    obtain ⟨v, r, rfl, h1, r1⟩ := r1
    unfold RvL at r1
    obtain ⟨w, r, rfl, h2, r1⟩ := r1
    unfold RvL at r1
    subst r1
    exact Run.ret (v := Out.nx (((σ.set i (some u)).set j (some v)).set l (some w))) rs1 (show Rn _ _ _ _ _ _ from (((rn.le l1).set h0).set h1).set h2) fun Q q => ⟨u, v, w, rfl, q⟩
  · exact Run.bad
end
end MM

/-! enumerate of all that is like a list. -/
namespace MM
open PySem PySem.Spec L2 PyProof.Rows
/-- a list of the store, as it stands at each turn -/
def itSE (n : Nat) : ItD := ⟨fun i S => (lstAt S n).map fun ds => ds[i]?.map fun d => .tup [.int i, d]⟩
def miE2 (mr : MA0) : MI0 := fun ρ S => (mr ρ S).bind fun ds S1 => match ds with
  | [.tup xs] => .ok (itE xs) S1
  | [.lst xs] => .ok (itE xs) S1
  | [.frz xs] => .ok (itE xs) S1
  | [.ref n] => match lstAt S1 n with
    | some _ => .ok (itSE n) S1
    | none => .bad
  | _ => .bad
section
variable {T : List Addr} {X : Cx} {E : XK} {e : Expr} {elts : List Expr} {kk : Nat} {tpos p pos : Pos} {mr : MA0}
theorem relI_storeE {G : Gd} {R φ : List Addr} {H : Hp} {n : Nat} {a : Addr} (h : φ[n]? = some a) : RelI G R φ H (itSE n) (Ite G.K a) := by
  intro R' hR i φ1 S1 H1 l rs
  have ha : φ1[n]? = some a := by
    obtain ⟨r, er⟩ := l.pre
    rw [er, List.getElem?_append_left (List.getElem?_eq_some_iff.mp h).1]
    exact h
  have key : ∀ o, (itSE n).get i S1 = some o → ∃ ds vs, S1[n]? = some (.lst ds) ∧ ds[i]?.map (fun d => D.tup [.int i, d]) = o ∧ H1 a = some (.lst vs) ∧ RvL G R' φ1 H1 ds vs := fun o e => by
    obtain ⟨ds, e1, e2⟩ := Option.map_eq_some_iff.mp (show (lstAt S1 n).map (fun ds => ds[i]?.map fun d => D.tup [.int i, d]) = some o from e)
    obtain ⟨vs, h1, h2⟩ := (rs.obj n _ a (lstAt_of e1) ha).ofL
    exact ⟨ds, vs, lstAt_of e1, e2, h1, h2⟩
  refine ⟨fun e => ?_, fun d e => ?_⟩
  · obtain ⟨ds, vs, _, e2, h1, h2⟩ := key _ e
    refine ⟨vs, .inl (.inl h1), ?_⟩
    rw [← RvL.length h2]
    exact List.getElem?_eq_none_iff.mp (Option.map_eq_none_iff.mp e2)
  · obtain ⟨ds, vs, _, e2, h1, h2⟩ := key _ e
    obtain ⟨d0, e3, rfl⟩ := Option.map_eq_some_iff.mp e2
    obtain ⟨v, e4, e5⟩ := RvL.get h2 e3
    refine ⟨⟨vs, v, .inl (.inl h1), e4⟩, fun x H' hy => ?_⟩
    obtain ⟨Ta, y, rfl, hT, rfl, e6⟩ := hy
    have e7 := e6 vs (.inl (.inl h1))
    rw [e4] at e7
    cases e7
    have ln := Le.new rs (o := .tup [.int (i : Nat), v]) hT
    exact ⟨ln, rs.new hT, Rv.tup upd_same (RvL.cons Rv.int (RvL.cons (Rv.le ln e5) RvL.nil))⟩
theorem mi_enum2 (hg : Gl X "enumerate") (hm : X.mg "enumerate" = none) (ha : MAn T X E [e] mr) (hs : starEach [e] X.env = [(false, eval e X.env)] := by rfl) :
    MI T X E (.Tuple elts kk tpos) (.Call (.Name "enumerate" p) [e] [] pos) (miE2 mr) := by
  obtain ⟨⟨t, pt, s⟩, _⟩ := ha
  refine ⟨_, pi_enumA hg hm pt hs, fun σ H ρ φ R S rs rn => Run.bnd (c' := fun (vs : List V) H1 Q => ∃ a, vs = [V.ref a] ∧ ((∃ xs, SqL X.K H1 a xs ∧ Q (Ite X.K a) H1) ∨ (∃ xs, SqT X.K H1 a xs ∧ Q (IteT X.K a) H1))) (s σ H ρ φ R S rs rn) (fun ds S1 φ1 vs H1 e0 l1 rs1 r1 => ?_) fun Q q => q⟩
  have viaL : ∀ {xs : List D} {us : List V} {a : Addr}, RvL (X.gd T) R φ1 H1 xs us → vs = [V.ref a] → (∀ φ' H', Le φ1 H1 φ' H' → SqL X.K H' a us) → Run (X.gd T) E R φ1 H1 (RelI (X.gd T) R) (.ok (itE xs) S1) (fun Q => ∃ a, vs = [V.ref a] ∧ ((∃ xs, SqL X.K H1 a xs ∧ Q (Ite X.K a) H1) ∨ (∃ xs, SqT X.K H1 a xs ∧ Q (IteT X.K a) H1))) := fun {xs us a} h3 ev hq => by
    have rel : RelI (X.gd T) R φ1 H1 (itE xs) (Ite X.K a) := relI_pair h3 (fun i φ' H' l hl => ⟨us, hq φ' H' l, hl⟩) fun i φ' H' x l hx => ⟨⟨us, x, hq φ' H' l, hx⟩, fun v H2 hy => by
      obtain ⟨Ta, y, e1, e2, e3, e4⟩ := hy
      have e5 := e4 us (hq φ' H' l)
      rw [hx] at e5
      cases e5
      exact ⟨Ta, e1, e2, e3⟩⟩
    exact Run.ret (v := Ite X.K a) rs1 rel fun Q q => ⟨a, ev, .inl ⟨us, hq φ1 H1 Le.refl, q⟩⟩
  split
  · rename_i xs
    obtain ⟨v, rfl, h1⟩ := RvL.one_of r1
    obtain ⟨a, us, rfl, h2, h3⟩ := Rv.tup_at h1
    have rel : RelI (X.gd T) R φ1 H1 (itE xs) (IteT X.K a) := relI_pair h3 (fun i φ' H' l hl => ⟨us, SqT.le (G := X.gd T) l h2, hl⟩) fun i φ' H' x l hx => ⟨⟨us, x, SqT.le (G := X.gd T) l h2, hx⟩, fun v H2 hy => by
      obtain ⟨Ta, y, e1, e2, e3, e4⟩ := hy
      have e5 := e4 us (SqT.le (G := X.gd T) l h2)
      rw [hx] at e5
      cases e5
      exact ⟨Ta, e1, e2, e3⟩⟩
    exact Run.ret (v := IteT X.K a) rs1 rel fun Q q => ⟨a, rfl, .inr ⟨us, .inl (.inl h2), q⟩⟩
  · rename_i xs
    obtain ⟨v, rfl, h1⟩ := RvL.one_of r1
    obtain ⟨a, us, rfl, n1, n2, h2, h3⟩ := Rv.lst_of h1
    exact viaL h3 rfl fun φ' H' l => .inl (.inl (l.keep a _ h2 n1 (fun _ z => nomatch z)).1)
  · rename_i xs
    obtain ⟨v, rfl, h1⟩ := RvL.one_of r1
    obtain ⟨a, us, rfl, h2, h3⟩ := Rv.frz_of h1
    exact viaL h3 rfl fun φ' H' l => (Fz.le l h2).sq
  · rename_i n
    split
    · rename_i ds hds
      obtain ⟨v, rfl, h1⟩ := RvL.one_of r1
      obtain ⟨a, us, rfl, hai, h2, h3⟩ := rs1.lst h1 (lstAt_of hds)
      exact Run.ret (v := Ite X.K a) rs1 (relI_storeE hai) fun Q q => ⟨a, rfl, .inl ⟨us, .inl (.inl h2), q⟩⟩
    · exact Run.bad
  · exact Run.bad
end
end MM

/-! == of data that holds lists of the store. -/
namespace MM
open PySem PySem.Spec L2 PyProof.Rows
def optAll {α : Type} : List (Option α) → Option (List α)
  | [] => some []
  | o :: r => match o, optAll r with
    | some a, some as => some (a :: as)
    | _, _ => none
def toPyR (S : Store) : Nat → D → Option PyData
  | 0, _ => none
  | f + 1, d => match d with
    | .non => some .none
    | .bl b => some (.bool b)
    | .int i => some (.int i)
    | .str z => some (.str z)
    | .tup ds => (optAll (ds.map (toPyR S f))).map .tuple
    | .lst ds => (optAll (ds.map (toPyR S f))).map .list
    | .frz ds => (optAll (ds.map (toPyR S f))).map .list
    | .err _ _ _ => none
    | .ref n => match lstAt S n with
      | some ds => (optAll (ds.map (toPyR S f))).map .list
      | none => none
section
variable {G : Gd} {E : XK} {R φ : List Addr} {S : Store} {H : Hp}
theorem optAll_dp {f : Nat} (h : ∀ {d : D} {v : V} {p : PyData}, Rv G R φ H d v → toPyR S f d = some p → Dp G.K H v p) : ∀ {ds : List D} {vs : List V} {ps : List PyData}, RvL G R φ H ds vs → optAll (ds.map (toPyR S f)) = some ps → DpAll G.K H vs ps
  | [], vs, ps, r, e => by
    unfold RvL at r
    cases e
    subst r
    exact .nil
  | d :: ds, vs, ps, r, e => by
    unfold RvL at r
    obtain ⟨v, r', rfl, h1, h2⟩ := r
    rw [List.map_cons] at e
    unfold optAll at e
    split at e
    · rename_i p ps' e1 e2
      cases e
      exact .cons (h h1 e1) (optAll_dp h h2 e2)
    · cases e
theorem toPyR_dp (r : Rs G R φ S H) : ∀ (f : Nat) {d : D} {v : V} {p : PyData}, Rv G R φ H d v → toPyR S f d = some p → Dp G.K H v p
  | 0, d, v, p, h, e => by cases e
  | f + 1, .non, v, p, h, e => by
    cases e
    rw [Rv.non_of h]
    exact .non
  | f + 1, .bl b, v, p, h, e => by
    cases e
    rw [Rv.bl_of h]
    exact .bl b
  | f + 1, .int i, v, p, h, e => by
    cases e
    rw [Rv.int_of h]
    exact .int i
  | f + 1, .str i, v, p, h, e => by
    cases e
    rw [Rv.str_of h]
    exact .str i
  | f + 1, .tup ds, v, p, h, e => by
    obtain ⟨ps, e1, e2⟩ := Option.map_eq_some_iff.mp e
    obtain ⟨a, vs, rfl, h1, h2⟩ := Rv.tup_of h
    subst e2
    exact .tup h1 (optAll_dp (toPyR_dp r f) h2 e1)
  | f + 1, .lst ds, v, p, h, e => by
    obtain ⟨ps, e1, e2⟩ := Option.map_eq_some_iff.mp e
    obtain ⟨a, vs, rfl, _, _, h1, h2⟩ := Rv.lst_of h
    subst e2
    exact .lst (.inl (.inl h1)) (optAll_dp (toPyR_dp r f) h2 e1)
  | f + 1, .frz ds, v, p, h, e => by
    obtain ⟨ps, e1, e2⟩ := Option.map_eq_some_iff.mp e
    obtain ⟨a, vs, rfl, h1, h2⟩ := Rv.frz_of h
    subst e2
    exact .lst h1.sq (optAll_dp (toPyR_dp r f) h2 e1)
  | f + 1, .err _ _ _, v, p, h, e => by cases e
  | f + 1, .ref n, v, p, h, e => by
    change (match lstAt S n with
      | some ds => (optAll (ds.map (toPyR S f))).map PyData.list
      | none => none) = some p at e
    cases hl : lstAt S n with
    | none => rw [hl] at e; cases e
    | some ds =>
      rw [hl] at e
      obtain ⟨ps, e1, e2⟩ := Option.map_eq_some_iff.mp e
      obtain ⟨a, vs, rfl, _, h1, h2⟩ := r.lst h (lstAt_of hl)
      subst e2
      exact .lst (.inl (.inl h1)) (optAll_dp (toPyR_dp r f) h2 e1)
end
def eqResR (S : Store) (neg : Bool) (x y : D) : Option Bool := match toPyR S 70 x, toPyR S 70 y with
  | some p, some q => if SeqAt.shaped p = true ∧ SeqAt.shaped q = true then some (if neg then !PyData.eqv p q else PyData.eqv p q) else none
  | _, _ => none
def fEq2 (neg : Bool) : D → D → Store → Res D := fun x y S => match eqRes S neg x y with
  | some b => .ok (.bl b) S
  | none => match eqResR S neg x y with
    | some b => .ok (.bl b) S
    | none => .bad
section
variable {G : Gd} {E : XK}
theorem o_eq2 : Op2 G E (rEqD G.K) (fEq2 false) := by
  intro R φ S H d e x y rs rd re
  unfold fEq2
  split
  · rename_i b hb
    have := o_eq (E := E) R φ S H d e x y rs rd re
    unfold fEq at this
    rw [hb] at this
    exact this
  · unfold eqResR
    split
    · rename_i b hb
      split at hb
      · rename_i p q e1 e2
        split at hb
        · rename_i hs
          cases hb
          exact Run.ret rs Rv.bl fun Q q' => ⟨p, q, toPyR_dp rs 70 rd e1, toPyR_dp rs 70 re e2, hs.1, hs.2, q'⟩
        · cases hb
      · cases hb
    · exact Run.bad
theorem o_ne2 : Op2 G E (rNeD G.K) (fEq2 true) := by
  intro R φ S H d e x y rs rd re
  unfold fEq2
  split
  · rename_i b hb
    have := o_ne (E := E) R φ S H d e x y rs rd re
    unfold fEq at this
    rw [hb] at this
    exact this
  · unfold eqResR
    split
    · rename_i b hb
      split at hb
      · rename_i p q e1 e2
        split at hb
        · rename_i hs
          cases hb
          exact Run.ret rs Rv.bl fun Q q' => ⟨p, q, toPyR_dp rs 70 rd e1, toPyR_dp rs 70 re e2, hs.1, hs.2, q'⟩
        · cases hb
      · cases hb
    · exact Run.bad
end
end MM

/-! tuple(range(..)), list(range(..)). -/
namespace MM
open PySem PySem.Spec L2 PyProof.Rows
abbrev MRg0 := Rho → Store → Res (Int × Int)
def mRg1 (me : ME0) : MRg0 := fun ρ S => (me ρ S).bind fun d S1 => match d with
  | .int i => .ok (0, i) S1
  | _ => .bad
def mRg2 (ma mb : ME0) : MRg0 := fun ρ S => (ma ρ S).bind fun d S1 => (mb ρ S1).bind fun e S2 => match d, e with
  | .int i, .int j => .ok (i, j) S2
  | _, _ => .bad
/-- the ints i .. j - 1 -/
def rgD (i j : Int) : List D := (List.range (j - i).toNat).map fun (k : Nat) => .int (i + k)
def RgB (i j : Int) : Bool := decide (-(2 ^ 62) ≤ i ∧ i < 2 ^ 62 ∧ -(2 ^ 62) ≤ j ∧ j < 2 ^ 62 ∧ (j - i).toNat ≤ 2 ^ 24)
def mRgT (m : MRg0) : ME0 := fun ρ S => (m ρ S).bind fun x S1 => if RgB x.1 x.2 = true then .ok (.tup (rgD x.1 x.2)) S1 else .bad
def mRgL (m : MRg0) : ME0 := fun ρ S => (m ρ S).bind fun x S1 => if RgB x.1 x.2 = true then .ok (.lst (rgD x.1 x.2)) S1 else .bad
def mRgS (m : MRg0) : ME0 := fun ρ S => (m ρ S).bind fun x S1 => if RgB x.1 x.2 = true then .ok (.ref S1.length) (S1 ++ [.lst (rgD x.1 x.2)]) else .bad
def SndRg (G : Gd) (E : XK) (t : L2.St → Hp → (Int → Int → Hp → Prop) → Prop) (m : MRg0) : Prop := ∀ σ H ρ φ R S, Rs G R φ S H → Rn G R φ H ρ σ → Run G E R φ H (fun _ _ (x y : Int × Int) => x = y) (m ρ S) (fun (Q : Int × Int → Hp → Prop) => t σ H fun a b H' => Q (a, b) H')
def MRg (T : List Addr) (X : Cx) (E : XK) (e : Expr) (m : MRg0) : Prop := ∃ t : L2.St → Hp → (Int → Int → Hp → Prop) → Prop, PRg X e t ∧ SndRg (X.gd T) E t m
section
variable {G : Gd} {R φ : List Addr} {S : Store} {H : Hp}
theorem RvL.rg (i j : Int) : RvL G R φ H (rgD i j) (rgV i j) := by
  unfold rgD rgV
  generalize List.range (j - i).toNat = l
  induction l with
  | nil => exact RvL.nil
  | cons k l ih => exact RvL.cons Rv.int ih
theorem RgB.ok {i j : Int} (h : RgB i j = true) : RgOk i j := by
  unfold RgB at h
  have z := of_decide_eq_true h
  exact z
end
section
variable {T : List Addr} {X : Cx} {E : XK} {e a b : Expr} {me ma mb : ME0} {m : MRg0} {p pos : Pos}
theorem mrg_1 (hg : Gl X "range") (hm : X.mg "range" = none) (ha : ME T X E a ma) (na : starEach [a] X.env = (false, eval a X.env) :: starEach [] X.env := by rfl) : MRg T X E (.Call (.Name "range" p) [a] [] pos) (mRg1 ma) := by
  obtain ⟨t, pt, s⟩ := ha
  refine ⟨_, prg_1 hg hm pt na, fun σ H ρ φ R S rs rn => ?_⟩
  refine Run.bnd (c' := fun (x : V) H1 (Q : Int × Int → Hp → Prop) => ∃ n, x = .int n ∧ Q (0, n) H1) (s σ H ρ φ R S rs rn) (fun d S1 φ1 x H1 _ l1 rs1 r1 => ?_) fun Q q => q
  cases d with
  | int i => exact Run.ret (v := ((0 : Int), i)) rs1 rfl fun Q q => ⟨i, Rv.int_of r1, q⟩
  | _ => exact Run.bad
theorem mrg_2 (hg : Gl X "range") (hm : X.mg "range" = none) (ha : ME T X E a ma) (hb : ME T X E b mb) (na : starEach [a, b] X.env = (false, eval a X.env) :: starEach [b] X.env := by rfl)
    (nb : starEach [b] X.env = (false, eval b X.env) :: starEach [] X.env := by rfl) (hp : (backTo pos (starEach [b] X.env)).any (·.1) = false := by rfl) : MRg T X E (.Call (.Name "range" p) [a, b] [] pos) (mRg2 ma mb) := by
  obtain ⟨t, pt, s⟩ := ha
  obtain ⟨u, pu, s2⟩ := hb
  refine ⟨_, prg_2 hg hm pt pu na nb hp, fun σ H ρ φ R S rs rn => ?_⟩
  refine Run.bnd (c' := fun (x : V) H1 (Q : Int × Int → Hp → Prop) => u σ H1 fun y H2 => ∃ i j, x = .int i ∧ y = .int j ∧ Q (i, j) H2) (s σ H ρ φ R S rs rn) (fun d S1 φ1 x H1 _ l1 rs1 r1 => ?_) fun Q q => q
  refine Run.bnd (c' := fun (y : V) H2 (Q : Int × Int → Hp → Prop) => ∃ i j, x = .int i ∧ y = .int j ∧ Q (i, j) H2) (s2 σ H1 ρ φ1 R S1 rs1 (rn.le l1)) (fun d2 S2 φ2 y H2 _ l2 rs2 r2 => ?_) fun Q q => q
  cases d with
  | int i =>
    cases d2 with
    | int j => exact Run.ret (v := (i, j)) rs2 rfl fun Q q => ⟨i, j, Rv.int_of r1, Rv.int_of r2, q⟩
    | _ => exact Run.bad
  | _ => exact Run.bad
theorem me_tupRg (hc : X.calm = true) (hg : Gl X "tuple") (hm : X.mg "tuple" = none) (he : MRg T X E e m) (na : starEach [e] X.env = (false, eval e X.env) :: starEach [] X.env := by rfl) : ME T X E (.Call (.Name "tuple" p) [e] [] pos) (mRgT m) := by
  obtain ⟨t, pt, s⟩ := he
  refine ⟨_, pe_tupRg hc hg hm pt na, fun σ H ρ φ R S rs rn => ?_⟩
  refine Run.bnd (c' := fun (x : Int × Int) H1 (Q : VK) => RgOk x.1 x.2 ∧ ∀ q, H1 q = none → Q (.ref q) (upd H1 q (.tup (rgV x.1 x.2)))) (s σ H ρ φ R S rs rn) (fun d S1 φ1 x H1 _ l1 rs1 r1 => ?_) fun Q q => q
  have e1 : d = x := r1
  subst e1
  split
  · rename_i hb
    exact Run.new (o := .tup (rgV d.1 d.2)) rs1 (fun p hp => Rv.tup upd_same (RvL.rg _ _)) fun Q q => ⟨RgB.ok hb, q⟩
  · exact Run.bad
theorem me_listRg (hc : X.calm = true) (hg : Gl X "list") (hm : X.mg "list" = none) (he : MRg T X E e m) (na : starEach [e] X.env = (false, eval e X.env) :: starEach [] X.env := by rfl) : ME T X E (.Call (.Name "list" p) [e] [] pos) (mRgL m) := by
  obtain ⟨t, pt, s⟩ := he
  refine ⟨_, pe_listRg hc hg hm pt na, fun σ H ρ φ R S rs rn => ?_⟩
  refine Run.bnd (c' := fun (x : Int × Int) H1 (Q : VK) => RgOk x.1 x.2 ∧ ∀ q, H1 q = none → Q (.ref q) (upd H1 q (.lst (rgV x.1 x.2)))) (s σ H ρ φ R S rs rn) (fun d S1 φ1 x H1 _ l1 rs1 r1 => ?_) fun Q q => q
  have e1 : d = x := r1
  subst e1
  split
  · rename_i hb
    exact Run.new (o := .lst (rgV d.1 d.2)) rs1 (fun p hp => Rv.lst (rs1.fresh hp).1 (rs1.fresh hp).2 upd_same (RvL.rg _ _)) fun Q q => ⟨RgB.ok hb, q⟩
  · exact Run.bad
theorem me_listRgS (hc : X.calm = true) (hg : Gl X "list") (hm : X.mg "list" = none) (he : MRg T X E e m) (na : starEach [e] X.env = (false, eval e X.env) :: starEach [] X.env := by rfl) : ME T X E (.Call (.Name "list" p) [e] [] pos) (mRgS m) := by
  obtain ⟨t, pt, s⟩ := he
  refine ⟨_, pe_listRg hc hg hm pt na, fun σ H ρ φ R S rs rn => ?_⟩
  refine Run.bnd (c' := fun (x : Int × Int) H1 (Q : VK) => RgOk x.1 x.2 ∧ ∀ q, H1 q = none → Q (.ref q) (upd H1 q (.lst (rgV x.1 x.2)))) (s σ H ρ φ R S rs rn) (fun d S1 φ1 x H1 _ l1 rs1 r1 => ?_) fun Q q => q
  have e1 : d = x := r1
  subst e1
  split
  · rename_i hb
    exact Run.alloc (o := .lst (rgV d.1 d.2)) (o' := .lst (rgD d.1 d.2)) rs1 (fun p hp => Ro.mkL upd_same (RvL.rg _ _)) fun Q q => ⟨RgB.ok hb, q⟩
  · exact Run.bad
end
end MM

/-! len(set(x)), x a tuple or a list of ints. -/
namespace MM
open PySem PySem.Spec L2 PyProof.Rows
/-- each once, as they are met -/
def dstn (ns : List Int) : List Int := ns.foldl step_dedup []
theorem dedup_mem (l : List Int) (x k : Int) : k ∈ step_dedup l x ↔ k ∈ l ∨ k = x := by
  show k ∈ (if l.any (· == x) then l else l ++ [x]) ↔ _
  cases h : l.any (· == x) with
  | true =>
    obtain ⟨y, hy, e⟩ := List.any_eq_true.mp h
    have e' : y = x := eq_of_beq e
    subst e'
    simp only [if_true]
    exact ⟨.inl, fun z => z.elim id fun e => by rw [e]; exact hy⟩
  | false =>
    simp only [Bool.false_eq_true, if_false, List.mem_append, List.mem_singleton]
theorem dedup_nodup {l : List Int} (x : Int) (h : l.Nodup) : (step_dedup l x).Nodup := by
  show (if l.any (· == x) then l else l ++ [x]).Nodup
  cases h2 : l.any (· == x) with
  | true => simpa using h
  | false =>
    simp only [Bool.false_eq_true, if_false]
    rw [List.nodup_append]
    refine ⟨h, by simp, fun a ha b hb e => ?_⟩
    rw [List.mem_singleton.mp hb] at e
    subst e
    have z : (l.any (· == a)) = true := List.any_eq_true.mpr ⟨a, ha, beq_self_eq_true a⟩
    rw [h2] at z
    cases z
theorem dedup_fold : ∀ (ns l : List Int), l.Nodup → (ns.foldl step_dedup l).Nodup ∧ ∀ k, k ∈ ns.foldl step_dedup l ↔ k ∈ l ∨ k ∈ ns
  | [], l, h => ⟨h, fun k => by simp⟩
  | n :: ns, l, h => by
    obtain ⟨h1, h2⟩ := dedup_fold ns (step_dedup l n) (dedup_nodup n h)
    refine ⟨h1, fun k => (h2 k).trans ?_⟩
    rw [dedup_mem, List.mem_cons]
    constructor
    · rintro ((q | q) | q)
      · exact .inl q
      · exact .inr (.inl q)
      · exact .inr (.inr q)
    · rintro (q | q | q)
      · exact .inl (.inl q)
      · exact .inl (.inr q)
      · exact .inr q
theorem dstn_nodup (ns : List Int) : (dstn ns).Nodup := (dedup_fold ns [] List.nodup_nil).1
theorem dstn_mem (ns : List Int) (k : Int) : k ∈ dstn ns ↔ k ∈ ns := ((dedup_fold ns [] List.nodup_nil).2 k).trans (by simp)
theorem dstn_len {ns l : List Int} (h : l.Nodup) (m : ∀ k, k ∈ l ↔ k ∈ ns) : l.length = (dstn ns).length :=
  List.Perm.length_eq ((List.perm_ext_iff_of_nodup h (dstn_nodup ns)).mpr fun k => (m k).trans (dstn_mem ns k).symm)
theorem firstMet_dstn (ns : List Int) : firstMet (fun i => ns.getD i 0) ns.length = dstn ns := by
  unfold firstMet dstn
  congr 1
  apply List.ext_getElem
  · simp
  · intro i h1 h2
    simp [List.getD_eq_getElem?_getD, List.getElem?_eq_getElem h2]
def tLenSetA (K : PySem.W.Frag) (ta : TE) : TE := fun σ H Q => ta σ H fun x H1 => ∃ (l : Addr) (ns : List Int), x = .ref l ∧ (SqL K H1 l (ns.map V.int) ∨ SqT K H1 l (ns.map V.int)) ∧ ns.length ≤ 4000 ∧ Q (.int (dstn ns).length) H1
theorem vals_ints : ∀ {ns : List Int} {us : List Value}, Vals (ns.map V.int) us → IntsAre us ns
  | [], _, .nil => .nil
  | n :: ns, _, .cons r t => by
    obtain ⟨k, rfl⟩ := r
    exact .cons n k (vals_ints t)
theorem pe_lenSetA {X : Cx} {a : Expr} {ta : TE} {p p2 q pos : Pos} (hc : X.calm = true) (hg : Gl X "len") (hm : X.mg "len" = none) (hg2 : Gl X "set") (hm2 : X.mg "set" = none) (ha : PE X a ta)
    (na : starEach [a] X.env = (false, eval a X.env) :: starEach [] X.env := by rfl) : PE X (.Call (.Name "len" p) [.Call (.Name "set" p2) [a] [] q] [] pos) (tLenSetA X.K ta) := by
  refine ⟨fun pins s σ H Q I h => ?_⟩
  refine Call_ (ld_blt I hg hm boot_len ?_)
  refine PyProof.Rows.callWith_builtin1 (PyProof.Rows.args_cons ?_ rfl) rfl rfl
  refine Call_ (ld_blt I hg2 hm2 boot_set ?_)
  refine PyProof.Rows.callWith_type1 (PyProof.Rows.args_cons (thn (ha.run pins s σ H _ I h) fun v s1 ⟨x, H1, I1, r1, q1⟩ => PyProof.Rows.args_nil ?_) na) na rfl
  obtain ⟨l, ns, rfl, hq, hl, q1⟩ := q1
  cases r1
  rcases hq with hq | hq
  · obtain ⟨its, r, pl, hz⟩ := I1.list hq
    have hlen : its.toArray.size = ns.length := by rw [List.size_toArray, ← r.length, List.length_map]
    refine call_set_list (I1.ok.hd hc) pl.isList (by simpa using vals_ints r) (by rw [hlen]; unfold scanBound; omega) fun h' tk hS hk => ?_
    refine PyProof.Rows.args_nil ?_
    rw [hlen, firstMet_dstn] at hS
    obtain ⟨o, es, ep, t, ho, hex, hd, _, _, _, hf, hn⟩ := hS
    have I2 : Inv X pins σ H1 { s1 with heap := h', toks := tk } := I1.kept fun b o e => hk b o (Heap.lt_size e) e
    have hb : (dstn ns).length ≤ ns.length := by
      rw [← firstMet_dstn]
      exact firstMet_length_le _ _
    exact call_len_set ho hex hd hf (by rw [hn]; omega) ⟨.int (dstn ns).length, H1, I2.tok _, ⟨_, by rw [hn]⟩, q1⟩
  · obtain ⟨its, r, pl, hz⟩ := I1.tuple hq
    refine call_set_tupI ns (I1.ok.hd hc) pl (by simpa using vals_ints r) (by unfold scanBound; omega) fun h' tk c hS hcn hk => ?_
    refine PyProof.Rows.args_nil ?_
    obtain ⟨o, es, ep, t, ho, hex, hd, hgood, hnd, hmem, hsz, hf, hn, _, _⟩ := hS
    have I2 : Inv X pins σ H1 { s1 with heap := h', toks := tk } := I1.kept hk
    have e : es.size = (dstn ns).length := by
      have := dstn_len (l := es.toList.map L2.keyOf) hnd fun k => ((hmem k).symm.trans decide_eq_true_iff)
      rw [← this, List.length_map, Array.length_toList]
    exact call_len_set ho hex hd hf (by rw [hn]; omega) ⟨.int (dstn ns).length, H1, I2.tok _, ⟨_, by rw [e]⟩, q1⟩
def fLenSet : D → Store → Res D := fun d S => match seqOf S d with
  | some ds => match intsOf ds with
    | some ns => if ns.length ≤ 4000 then .ok (.int (dstn ns).length) S else .bad
    | none => .bad
  | none => .bad
theorem me_lenSet {T : List Addr} {X : Cx} {E : XK} {a : Expr} {ma : ME0} {p p2 q pos : Pos} (hc : X.calm = true) (hg : Gl X "len") (hm : X.mg "len" = none) (hg2 : Gl X "set") (hm2 : X.mg "set" = none) (ha : ME T X E a ma)
    (na : starEach [a] X.env = (false, eval a X.env) :: starEach [] X.env := by rfl) : ME T X E (.Call (.Name "len" p) [.Call (.Name "set" p2) [a] [] q] [] pos) (mUn fLenSet ma) := by
  obtain ⟨t, pt, s⟩ := ha
  refine ⟨_, pe_lenSetA hc hg hm hg2 hm2 pt na, fun σ H ρ φ R S rs rn => ?_⟩
  refine Run.bnd (c' := fun (x : V) H1 (Q : VK) => ∃ (l : Addr) (ns : List Int), x = .ref l ∧ (SqL X.K H1 l (ns.map V.int) ∨ SqT X.K H1 l (ns.map V.int)) ∧ ns.length ≤ 4000 ∧ Q (.int (dstn ns).length) H1) (s σ H ρ φ R S rs rn) (fun d S1 φ1 x H1 _ l1 rs1 r1 => ?_) fun Q q => q
  unfold fLenSet
  split
  · rename_i ds hds
    split
    · rename_i ns hns
      split
      · rename_i hl
        obtain ⟨a, vs, rfl, h1, h2⟩ := seq_of rs1 r1 hds
        have ev := ints_v h2 hns
        subst ev
        exact Run.ret rs1 Rv.int fun Q q => ⟨a, ns, rfl, h1, hl, q⟩
      · exact Run.bad
    · exact Run.bad
  · exact Run.bad
end MM

/-! xs[a:b] = ys. -/
namespace MM
open PySem PySem.Spec L2 PyProof.Rows
def gSlV (to ta tb : TE) : TG := fun v σ H Q => to σ H fun o H1 => ta σ H1 fun i H2 => tb σ H2 fun j H3 => ∃ (l b : Addr) (xs ys : List V) (a c : Int), o = .ref l ∧ i = .int a ∧ j = .int c ∧ v = .ref b ∧ H3 l = some (.lst xs) ∧ H3 b = some (.lst ys) ∧ l ≠ b ∧ 0 ≤ a ∧ a ≤ c ∧ c ≤ xs.length ∧ xs.length + ys.length ≤ sizeLine ∧
  Q σ (upd H3 l (.lst (xs.take a.toNat ++ ys ++ xs.drop c.toNat)))
theorem pg_sl {X : Cx} {o a b : Expr} {to ta tb : TE} {pos p2 : Pos} (ho : PE X o to) (ha : PE X a ta) (hb : PE X b tb)
    (hh : ∀ v, assign (.Subscript o (.Slice (some a) (some b) none p2) pos) X.env v = (do
      let ov ← holding [v] (eval o X.env)
      let iv ← holding [v, ov] (eval (.Slice (some a) (some b) none p2) X.env)
      standAt pos
      holding [v, ov, iv] (setItem ov iv v)
      release [iv, v, ov] []) := by intro _; rfl) : PG X (.Subscript o (.Slice (some a) (some b) none p2) pos) (gSlV to ta tb) := by
  refine ⟨fun pins s σ H v u Q I r h => ?_⟩
  rw [hh]
  refine wpAny_bind (wpAny_holding (thn (ho.run pins s σ H _ I h) fun ov s1 ⟨x, H1, I1, r1, q1⟩ => ?_))
  refine wpAny_bind (wpAny_holding (wpAny_Slice ?_))
  rw [evalPart_some]
  refine thn (ha.run pins s1 σ H1 _ I1 q1) fun vl s2 ⟨y, H2, I2, r2, q2⟩ => ?_
  rw [evalPart_some]
  refine thn (hb.run pins s2 σ H2 _ I2 q2) fun vu s3 ⟨z, H3, I3, r3, q3⟩ => ?_
  rw [evalPart_none]
  refine wpAny_pure ?_
  obtain ⟨l, b', xs, ys, i, c, rfl, rfl, rfl, rfl, hl, hb', hne, h0, hac, hc, hz, q⟩ := q3
  obtain rfl : ov = Value.ref l := r1
  obtain rfl : u = Value.ref b' := r
  have I4 : Inv X pins σ H3 { s3 with heap := s3.heap.push { cls := .type "slice", data := .fields #[vl, vu, .none] } } := I3.kept (t' := s3.toks) fun b ob q => Heap.get?_push_of_some _ q
  refine wpAny_bind (wpAny_standAt (wpAny_bind (wpAny_holding ?_)))
  refine set_slice I4 hl hb' hne (Heap.IsSliceOf.new ..) r2 r3 h0 hac hc hz fun s5 I5 => ?_
  exact wpAny_release ⟨σ, _, I5, q⟩
def gSl (mo ma mb : ME0) : MG0 := fun d ρ S => (mo ρ S).bind fun o S1 => (ma ρ S1).bind fun i S2 => (mb ρ S2).bind fun j S3 => match o, i, j, d with
  | .ref n, .int a, .int c, .lst es => match lstAt S3 n with
    | some ds => if 0 ≤ a ∧ a ≤ c ∧ c ≤ ds.length ∧ ds.length + es.length ≤ sizeLine then .ok ρ (S3.set n (.lst (ds.take a.toNat ++ es ++ ds.drop c.toNat))) else .bad
    | none => .bad
  | _, _, _, _ => .bad
section
variable {T : List Addr} {X : Cx} {E : XK} {o a b : Expr} {mo ma mb : ME0} {pos p2 : Pos}
theorem mg_sl (ho : ME T X E o mo) (ha : ME T X E a ma) (hb : ME T X E b mb)
    (hh : ∀ v, assign (.Subscript o (.Slice (some a) (some b) none p2) pos) X.env v = (do
      let ov ← holding [v] (eval o X.env)
      let iv ← holding [v, ov] (eval (.Slice (some a) (some b) none p2) X.env)
      standAt pos
      holding [v, ov, iv] (setItem ov iv v)
      release [iv, v, ov] []) := by intro _; rfl) : MG T X E (.Subscript o (.Slice (some a) (some b) none p2) pos) (gSl mo ma mb) := by
  obtain ⟨to, po, so⟩ := ho
  obtain ⟨ta, pa, sa⟩ := ha
  obtain ⟨tb, pb, sb⟩ := hb
  refine ⟨_, pg_sl po pa pb hh, fun d v σ H ρ φ R S rs rn r => ?_⟩
  refine Run.bnd (c' := fun (o : V) H1 (Q : L2.St → Hp → Prop) => ta σ H1 fun i H2 => tb σ H2 fun j H3 => ∃ (l b : Addr) (xs ys : List V) (a c : Int), o = .ref l ∧ i = .int a ∧ j = .int c ∧ v = .ref b ∧ H3 l = some (.lst xs) ∧ H3 b = some (.lst ys) ∧ l ≠ b ∧ 0 ≤ a ∧ a ≤ c ∧ c ≤ xs.length ∧ xs.length + ys.length ≤ sizeLine ∧
    Q σ (upd H3 l (.lst (xs.take a.toNat ++ ys ++ xs.drop c.toNat)))) (so σ H ρ φ R S rs rn) (fun o S1 φ1 ov H1 _ l1 rs1 r1 => ?_) fun Q q => q
  refine Run.bnd (c' := fun (i : V) H2 (Q : L2.St → Hp → Prop) => tb σ H2 fun j H3 => ∃ (l b : Addr) (xs ys : List V) (a c : Int), ov = .ref l ∧ i = .int a ∧ j = .int c ∧ v = .ref b ∧ H3 l = some (.lst xs) ∧ H3 b = some (.lst ys) ∧ l ≠ b ∧ 0 ≤ a ∧ a ≤ c ∧ c ≤ xs.length ∧ xs.length + ys.length ≤ sizeLine ∧
    Q σ (upd H3 l (.lst (xs.take a.toNat ++ ys ++ xs.drop c.toNat)))) (sa σ H1 ρ φ1 R S1 rs1 (rn.le l1)) (fun i S2 φ2 iv H2 _ l2 rs2 r2 => ?_) fun Q q => q
  refine Run.bnd (c' := fun (j : V) H3 (Q : L2.St → Hp → Prop) => ∃ (l b : Addr) (xs ys : List V) (a c : Int), ov = .ref l ∧ iv = .int a ∧ j = .int c ∧ v = .ref b ∧ H3 l = some (.lst xs) ∧ H3 b = some (.lst ys) ∧ l ≠ b ∧ 0 ≤ a ∧ a ≤ c ∧ c ≤ xs.length ∧ xs.length + ys.length ≤ sizeLine ∧
    Q σ (upd H3 l (.lst (xs.take a.toNat ++ ys ++ xs.drop c.toNat)))) (sb σ H2 ρ φ2 R S2 rs2 (rn.le (l1.trans l2))) (fun j S3 φ3 jv H3 _ l3 rs3 r3 => ?_) fun Q q => q
  have l13 := l1.trans (l2.trans l3)
  cases o with
  | ref n =>
    cases i with
    | int a' =>
      cases j with
      | int c' =>
        cases d with
        | lst es =>
          show Run (X.gd T) E R φ3 H3 _ (match lstAt S3 n with
            | some ds => if 0 ≤ a' ∧ a' ≤ c' ∧ c' ≤ ds.length ∧ ds.length + es.length ≤ sizeLine then .ok ρ (S3.set n (.lst (ds.take a'.toNat ++ es ++ ds.drop c'.toNat))) else .bad
            | none => .bad) _
          split
          · rename_i ds hds
            split
            · rename_i hk
              obtain ⟨k0, k1, k2, k3⟩ := hk
              obtain ⟨x, vs, rfl, ha, h1, h2⟩ := rs3.lst (Rv.le (l2.trans l3) r1) (lstAt_of hds)
              obtain ⟨y, us, rfl, n1, n2, h3, h4⟩ := Rv.lst_of (Rv.le l13 r)
              have hne : x ≠ y := fun z => n1 (by rw [← z]; exact List.mem_iff_getElem?.mpr ⟨n, ha⟩)
              have lw : Le φ3 H3 φ3 (upd H3 x (.lst (vs.take a'.toNat ++ us ++ vs.drop c'.toNat))) := Le.write rs3 ha (nfz h1 (fun _ _ z => nomatch z))
              have rw' := rs3.write (ho := .lst (vs.take a'.toNat ++ us ++ vs.drop c'.toNat)) (o := .lst (ds.take a'.toNat ++ es ++ ds.drop c'.toNat)) ha (nfz h1 (fun _ _ z => nomatch z)) (Ro.mkL upd_same (RvL.append (RvL.append (RvL.take _ (RvL.le lw h2)) (RvL.le lw h4)) (RvL.drop _ (RvL.le lw h2))))
              intro Q hq _ _
              refine ⟨x, y, vs, us, a', c', rfl, Rv.int_of (Rv.le l3 r2), Rv.int_of r3, rfl, h1, h3, hne, k0, k1, by rw [← RvL.length h2]; exact k2, by rw [← RvL.length h2, ← RvL.length h4]; exact k3, ?_⟩
              exact hq ρ _ φ3 σ _ rfl lw rw' (rn.le (l13.trans lw))
            · exact Run.bad
          · exact Run.bad
        | _ => exact Run.bad
      | _ => exact Run.bad
    | _ => exact Run.bad
  | _ => exact Run.bad
end
end MM

/-! Dict comprehensions. -/
namespace MM
open PySem PySem.Spec L2 PyProof.Rows
def dcL (g : MG0) (mt : MT0) (mk mv : ME0) (n0 : Nat) : Nat → Nat → ItD → Rho → Store → Res Unit
  | 0, _, _, _, _ => .bad
  | f + 1, i, it, ρ, S => match it.get i S with
    | none => .bad
    | some none => .ok () S
    | some (some d) => (g d ρ S).calm.bind fun ρ1 S2 => (mt ρ1 S2).calm.bind fun b S3 =>
        if b = true then (mk ρ1 S3).calm.bind fun y S4 => (mv ρ1 S4).calm.bind fun z S5 => match keyOf y, S5[n0]? with
          | some k, some (.dct kvs) => if kvs.length < sizeLine then dcL g mt mk mv n0 f (i + 1) it ρ (S5.set n0 (.dct (aput kvs k z))) else .bad
          | _, _ => .bad
        else dcL g mt mk mv n0 f (i + 1) it ρ S3
def mDc (mi : MI0) (g : MG0) (mt : MT0) (mk mv : ME0) (vs : List Nat) : ME0 := fun ρ S => (mi ρ S).bind fun it S1 => (dcL g mt mk mv S1.length BIG 0 it (wipeD ρ vs) (S1 ++ [.dct []])).bind fun _ S2 => .ok (.ref S1.length) S2
section
variable {G : Gd} {E : XK} {R φ : List Addr} {S : Store} {H : Hp}
theorem Le.at {φ φ' : List Addr} {H H' : Hp} (l : Le φ H φ' H') {n : Nat} {a : Addr} (h : φ[n]? = some a) : φ'[n]? = some a := by
  obtain ⟨r, er⟩ := l.pre
  rw [er, List.getElem?_append_left (List.getElem?_eq_some_iff.mp h).1]
  exact h
theorem dc_run {t : TG} {tt : TT} {tk tv : TE} {g : MG0} {mt : MT0} {mk mv : ME0} {it : ItD} {J : It} {ρ : Rho} {σ : L2.St} {vs : List Nat} (rel : RelI G R φ H it J) (sg : SndG G E0 t g) (wg : WipesG t vs) (st : SndT G E0 tt mt) (sk : SndE G E0 tk mk) (sv : SndE G E0 tv mv) (rs : Rs G R φ S H) (rn : Rn G R φ H ρ σ) (Q : VK)
    (hq : ∀ S' φ' D H', dcL g mt mk mv S.length BIG 0 it (wipeD ρ vs) (S ++ [.dct []]) = .ok () S' → Le φ H φ' H' → Rs G R φ' S' H' → φ'[S.length]? = some D → Q (.ref D) H') (hb : dcL g mt mk mv S.length BIG 0 it (wipeD ρ vs) (S ++ [.dct []]) ≠ .bad) :
    ∀ D, H D = none → ∃ W : Nat → Nat → Hp → Prop, (∃ m, W 0 m (upd H D (.dK []))) ∧ ∀ i m H, W i m H →
      (J.stop i H ∧ Q (.ref D) H) ∨ (J.go i H ∧ ∃ Nx : Hp → Prop, (∀ H', Nx H' → ∃ m', m' < m ∧ W (i + 1) m' H') ∧ ∀ x H', J.yld i H x H' → t x (wipe σ vs) H' fun σ2 H2 => wipe σ2 vs = wipe σ vs ∧ tt σ2 H2 fun b H3 =>
        if b = true then tk σ2 H3 fun y H4 => tv σ2 H4 fun z H5 => ∃ kvs k, y = kV k ∧ H5 D = some (.dK kvs) ∧ kvs.length < sizeLine ∧ Nx (upd H5 D (.dK (putK kvs k z))) else Nx H3) := by
  intro D hD
  have l0 : Le φ H (φ ++ [D]) (upd H D (.dK [])) := Le.alloc rs hD
  have rs0 : Rs G R (φ ++ [D]) (S ++ [.dct []]) (upd H D (.dK [])) := rs.alloc hD ⟨[], _, upd_same, rfl, RvL.nil⟩
  have at0 : (φ ++ [D])[S.length]? = some D := by
    rw [List.getElem?_append_right (by rw [rs.len]; exact Nat.le_refl _), rs.len, Nat.sub_self]
    rfl
  have rn0 : Rn G R φ H (wipeD ρ vs) (wipe σ vs) := rn.wipe vs
  generalize hw : dcL g mt mk mv S.length BIG 0 it (wipeD ρ vs) (S ++ [.dct []]) = whole at hq hb
  refine ⟨fun i m H' => ∃ φ' S', Le (φ ++ [D]) (upd H D (.dK [])) φ' H' ∧ Rs G R φ' S' H' ∧ dcL g mt mk mv S.length m i it (wipeD ρ vs) S' = whole, ⟨BIG, φ ++ [D], S ++ [.dct []], Le.refl, rs0, hw⟩, fun i m H1 hW => ?_⟩
  obtain ⟨φ1, S1, l1, rs1, e⟩ := hW
  cases m with
  | zero => exact (hb e.symm).elim
  | succ f =>
    have l01 := l0.trans l1
    obtain ⟨r0, r1⟩ := rel R (fun _ h => .inl h) i φ1 S1 H1 l01 rs1
    cases hg : it.get i S1 with
    | none =>
      have : dcL g mt mk mv S.length (f + 1) i it (wipeD ρ vs) S1 = .bad := by unfold dcL; rw [hg]
      exact (hb (e.symm.trans this)).elim
    | some o =>
      cases o with
      | none =>
        have z : dcL g mt mk mv S.length (f + 1) i it (wipeD ρ vs) S1 = .ok () S1 := by unfold dcL; rw [hg]
        exact .inl ⟨r0 hg, hq S1 φ1 D H1 (e.symm.trans z) l01 rs1 (l1.at at0)⟩
      | some d =>
        have z : dcL g mt mk mv S.length (f + 1) i it (wipeD ρ vs) S1 = ((g d (wipeD ρ vs) S1).calm.bind fun ρ1 S2 => (mt ρ1 S2).calm.bind fun b S3 =>
            if b = true then (mk ρ1 S3).calm.bind fun y S4 => (mv ρ1 S4).calm.bind fun z S5 => match keyOf y, S5[S.length]? with
              | some k, some (.dct kvs) => if kvs.length < sizeLine then dcL g mt mk mv S.length f (i + 1) it (wipeD ρ vs) (S5.set S.length (.dct (aput kvs k z))) else .bad
              | _, _ => .bad
            else dcL g mt mk mv S.length f (i + 1) it (wipeD ρ vs) S3) := by
          conv => lhs; unfold dcL
          rw [hg]
        rw [e] at z
        obtain ⟨r2, r3⟩ := r1 d hg
        refine .inr ⟨r2, fun H' => ∃ φ' S', Le (φ ++ [D]) (upd H D (.dK [])) φ' H' ∧ Rs G R φ' S' H' ∧ dcL g mt mk mv S.length f (i + 1) it (wipeD ρ vs) S' = whole, fun H' hN => ⟨f, Nat.lt_succ_self f, hN⟩, fun x H2 hy => ?_⟩
        obtain ⟨l2, rs2, rv⟩ := r3 x H2 hy
        have l12 := l1.trans l2
        have g1 := Run.calm (E := fun _ _ _ => True) (sg d x (wipe σ vs) H2 (wipeD ρ vs) φ1 R S1 rs2 (rn0.le (l0.trans l12)) rv)
        refine wg x (wipe σ vs) H2 (fun σ2 H3 => ∃ ρ2 S2 φ2, (g d (wipeD ρ vs) S1).calm = .ok ρ2 S2 ∧ Le φ1 H2 φ2 H3 ∧ Rs G R φ2 S2 H3 ∧ Rn G R φ2 H3 ρ2 σ2) _ (fun σ2 H3 ew hw => ⟨ew.trans wipe_idem, ?_⟩)
          (g1 _ (fun ρ2 S2 φ2 σ2 H3 e2 l3 rs3 rn3 => ⟨ρ2, S2, φ2, e2, l3, rs3, rn3⟩) (fun _ _ _ _ _ _ _ _ _ _ => trivial) (fun e2 => hb (by rw [z, e2]; rfl)))
        obtain ⟨ρ2, S2, φ2, e2, l3, rs3, rn3⟩ := hw
        have z2 := z
        rw [e2, Res.bind_ok] at z2
        refine Run.calm (E := fun _ _ _ => True) (st σ2 H3 ρ2 φ2 R S2 rs3 rn3) _ (fun b S3 φ3 b' H4 e3 l4 rs4 eb => ?_) (fun _ _ _ _ _ _ _ _ _ _ => trivial) (fun e3 => hb (by rw [z2, e3]; rfl))
        have eb' : b = b' := eb
        subst eb'
        have z3 := z2
        rw [e3, Res.bind_ok] at z3
        have l14 := l12.trans (l3.trans l4)
        cases b with
        | false =>
          rw [if_neg Bool.false_ne_true] at z3 ⊢
          exact ⟨φ3, S3, l14, rs4, z3.symm⟩
        | true =>
          rw [if_pos rfl] at z3 ⊢
          refine Run.calm (E := fun _ _ _ => True) (sk σ2 H4 ρ2 φ3 R S3 rs4 (rn3.le l4)) _ (fun y S4 φ4 w H5 e4 l5 rs5 ry => ?_) (fun _ _ _ _ _ _ _ _ _ _ => trivial) (fun e4 => hb (by rw [z3, e4]; rfl))
          rw [e4, Res.bind_ok] at z3
          refine Run.calm (E := fun _ _ _ => True) (sv σ2 H5 ρ2 φ4 R S4 rs5 (rn3.le (l4.trans l5))) _ (fun zz S5 φ5 w5 H6 e5 l6 rs6 rz => ?_) (fun _ _ _ _ _ _ _ _ _ _ => trivial) (fun e5 => hb (by rw [z3, e5]; rfl))
          rw [e5, Res.bind_ok] at z3
          have l16 := l14.trans (l5.trans l6)
          have at6 := l16.at at0
          cases hk : keyOf y with
          | none =>
            rw [hk] at z3
            exact (hb z3).elim
          | some k =>
            cases ho : S5[S.length]? with
            | none =>
              rw [hk, ho] at z3
              exact (hb z3).elim
            | some ob =>
              cases ob with
              | dct kvs =>
                rw [hk, ho] at z3
                dsimp only at z3
                by_cases hl : kvs.length < sizeLine
                · rw [if_pos hl] at z3
                  obtain ⟨us, u, eu, sh, rl⟩ := rs6.obj _ _ D ho at6
                  have sh' : u = .dK _ := sh
                  subst sh'
                  have ev := keyOf_v ry hk
                  have ll : (kvs.map (·.1)).length = us.length := by
                    have := RvL.length rl
                    unfold kids at this
                    rw [List.length_map] at this ⊢
                    exact this
                  have lw : Le φ5 H6 φ5 (upd H6 D (.dK (putK ((kvs.map (·.1)).zip us) k w5))) := Le.write rs6 at6 (nfz eu (fun _ _ z => nomatch z))
                  obtain ⟨ws, u1, u2⟩ := aput_rel (k := k) (Rv.le lw rz) (kvs := kvs) (RvL.le lw rl)
                  refine ⟨_, k, ev, eu, by rw [zip_len ll, List.length_map]; exact hl, φ5, S5.set S.length (.dct (aput kvs k zz)), l16.trans lw, rs6.write (o := .dct (aput kvs k zz)) at6 (nfz eu (fun _ _ z => nomatch z)) ⟨ws, _, upd_same, ?_, u1⟩, z3.symm⟩
                  show HO.dK _ = HO.dK _
                  rw [u2]
                · rw [if_neg hl] at z3
                  exact (hb z3).elim
              | _ =>
                rw [hk, ho] at z3
                exact (hb z3).elim
theorem dc_snd {wi : TI} {t : TG} {tt : TT} {tk tv : TE} {mi : MI0} {g : MG0} {mt : MT0} {mk mv : ME0} {vs : List Nat} (si : SndI G E wi mi) (sg : SndG G E0 t g) (wg : WipesG t vs) (st : SndT G E0 tt mt) (sk : SndE G E0 tk mk) (sv : SndE G E0 tv mv) : SndE G E (tDc wi t tt tk tv vs) (mDc mi g mt mk mv vs) := by
  intro σ H ρ φ R S rs rn Q hq hx hb
  unfold mDc at hq hx hb
  refine si σ H ρ φ R S rs rn _ (fun it S1 φ1 J H1 e1 l1 rs1 r1 => ?_) (fun er S' φ' H' cl d er' => hx er S' φ' H' cl d (by rw [er']; rfl)) (fun e1 => hb (by rw [e1]; rfl))
  rw [e1, Res.bind_ok] at hq hx hb
  refine dc_run r1 sg wg st sk sv rs1 (rn.le l1) Q (fun S2 φ2 D H2 e2 l2 rs2 h2 => ?_) (fun e2 => hb (by rw [e2]; rfl))
  rw [e2, Res.bind_ok] at hq
  refine hq _ S2 φ2 _ H2 rfl (l1.trans l2) rs2 ?_
  show Rv G R φ2 H2 (.ref S1.length) (.ref D)
  unfold Rv
  exact ⟨D, rfl, h2⟩
end
section
variable {T : List Addr} {X : Cx} {E : XK} {kx vx tg iter : Expr} {ifs : List Expr} {scope : Scope} {own : List (Str × Nat)} {pos : Pos} {mi : MI0} {g : MG0} {mt : MT0} {mk mv : ME0} {t : TG}
structure DcOk (T : List Addr) (X : Cx) (kx vx tg : Expr) (ifs : List Expr) (scope : Scope) (own : List (Str × Nat)) (t : TG) (g : MG0) (mt : MT0) (mk mv : ME0) : Prop where
  tg : ∀ (s : Shared) (H : Hp) (C : Addr) (cl : List (Str × Addr)) (fp : List Addr), MGc T (X.blk s H scope (compEnvC scope cl C X.env) fp) E0 tg (own.map (·.2)) t g
  ifs : ∀ (s : Shared) (H : Hp) (C : Addr) (cl : List (Str × Addr)) (fp : List Addr), MTs T (X.blk s H scope (compEnvC scope cl C X.env) fp) E0 ifs mt
  k : ∀ (s : Shared) (H : Hp) (C : Addr) (cl : List (Str × Addr)) (fp : List Addr), ME T (X.blk s H scope (compEnvC scope cl C X.env) fp) E0 kx mk
  v : ∀ (s : Shared) (H : Hp) (C : Addr) (cl : List (Str × Addr)) (fp : List Addr), ME T (X.blk s H scope (compEnvC scope cl C X.env) fp) E0 vx mv
theorem me_dc (hc : X.calm = true) (hN : X.N.Nodup) (hi : MI T X E tg iter mi) (ok : blkC X.N X.env.scope scope own = true) (h : DcOk T X kx vx tg ifs scope own t g mt mk mv) (hs : ∀ x, foldedSetIterable iter X.env x = pure x := by intro _; rfl) :
    ME T X E (.DictComp kx vx [⟨tg, iter, ifs, 0⟩] scope pos) (mDc mi g mt mk mv (own.map (·.2))) := by
  obtain ⟨wi, pi, si⟩ := hi
  obtain ⟨tt, pt, st⟩ := all_T (ι := Shared × Hp × Addr × List (Str × Addr) × List Addr) (XX := fun i => X.blk i.1 i.2.1 scope (compEnvC scope i.2.2.2.1 i.2.2.1 X.env) i.2.2.2.2) (G := (X.gd T)) (E := E0) (es := ifs) (m := mt) fun i => h.ifs i.1 i.2.1 i.2.2.1 i.2.2.2.1 i.2.2.2.2
  obtain ⟨tk, pk, sk⟩ := all_E (ι := Shared × Hp × Addr × List (Str × Addr) × List Addr) (XX := fun i => X.blk i.1 i.2.1 scope (compEnvC scope i.2.2.2.1 i.2.2.1 X.env) i.2.2.2.2) (G := (X.gd T)) (E := E0) (e := kx) (m := mk) fun i => h.k i.1 i.2.1 i.2.2.1 i.2.2.2.1 i.2.2.2.2
  obtain ⟨tv, pv, sv⟩ := all_E (ι := Shared × Hp × Addr × List (Str × Addr) × List Addr) (XX := fun i => X.blk i.1 i.2.1 scope (compEnvC scope i.2.2.2.1 i.2.2.1 X.env) i.2.2.2.2) (G := (X.gd T)) (E := E0) (e := vx) (m := mv) fun i => h.v i.1 i.2.1 i.2.2.1 i.2.2.2.1 i.2.2.2.2
  exact ⟨_, pe_dc hc hN pi (blkOk_by ok) (fun s H C cl fp => (h.tg s H C cl fp).pg) (fun s H C cl fp => pt (s, H, C, cl, fp)) (fun s H C cl fp => pk (s, H, C, cl, fp)) (fun s H C cl fp => pv (s, H, C, cl, fp)) hs,
    dc_snd si (h.tg {} (fun _ => none) 0 [] []).snd (h.tg {} (fun _ => none) 0 [] []).wip st sk sv⟩
end
end MM

/-! name = {..: .. for ..} on one line. -/
namespace MM
open PySem PySem.Spec PyProof.Rows L2
section
variable {X : Cx}
theorem ps_setDc {n : Nat} {z : Str} {zp : Pos} {ke ve t it : Expr} {cs : List Expr} {sc : Scope} {mine : List (Str × Nat)} {cp sp : Pos} {iw : TI} {gt : TG} {tt : TT} {kt vt : TE} (calm : X.calm = true) (nd : X.N.Nodup) (hz : X.N[n]? = some z) (hl : X.env.scope.names.lookup z = some .local)
    (sw : swapsWith (.DictComp ke ve [⟨t, it, cs, 0⟩] sc cp) (some (.Name z zp)) sp.line X.env = pure true) (pi : PI X t it iw) (ok : BlkOk X.N X.env.scope sc mine)
    (pg : ∀ (s : Shared) (H : Hp) (C : Addr) (cl : List (Str × Addr)) (fp : List Addr), PG (X.blk s H sc (compEnvC sc cl C X.env) fp) t gt) (pt : ∀ (s : Shared) (H : Hp) (C : Addr) (cl : List (Str × Addr)) (fp : List Addr), PTs (X.blk s H sc (compEnvC sc cl C X.env) fp) cs tt)
    (pk : ∀ (s : Shared) (H : Hp) (C : Addr) (cl : List (Str × Addr)) (fp : List Addr), PE (X.blk s H sc (compEnvC sc cl C X.env) fp) ke kt) (pv : ∀ (s : Shared) (H : Hp) (C : Addr) (cl : List (Str × Addr)) (fp : List Addr), PE (X.blk s H sc (compEnvC sc cl C X.env) fp) ve vt)
    (fs : ∀ x, foldedSetIterable it X.env x = pure x := by intro _; rfl) :
    PS X (.Assign [.Name z zp] (.DictComp ke ve [⟨t, it, cs, 0⟩] sc cp) sp) (tAsg (tDc iw gt tt kt vt (mine.map (·.2))) (gName n)) := by
  refine ⟨fun pins s σ H D I hd => ?_⟩
  rw [exec_Assign_Name_used _ _ _ _ sw]
  refine wpAny_bind (wpAny_standAt (wpAny_bind ?_))
  show wpAny _ X.A (do let _ ← comprehension (.DictComp ke ve [⟨t, it, cs, 0⟩] sc cp) sc X.env (firstIterPos [⟨t, it, cs, 0⟩] cp) newDict false (eval it X.env) (some (assign (.Name z zp) X.env))) _ _ s
  have hd' : tDc iw gt tt kt vt (mine.map (·.2)) σ H (fun x H1 => gName n x σ H1 D.nx) := hd
  refine wpAny_bind (thn (dc_core (Qf := fun _ s' => SP X pins D .next s') calm nd I pi ok pg pt pk pv fs hd' fun L C s1 m H1 J q hn f => ?_) fun _ s1 hq => wpAny_pure (wpAny_pure hq))
  show wpAny _ _ (assign (.Name z zp) X.env (.ref L)) _ _ _
  refine wpAny_assign_Name (store_ok2 (v := V.ref L) J nd hz (.inl hl) rfl (fun s2 J2 ⟨a, sb, ha⟩ => ?_) (.inr hl))
  obtain ⟨g0, g1, g2, g3, g4, g5⟩ := f
  have ne : C ≠ a := ha.elim (fun e => by rw [e]; exact g1) fun e k => g4 z a e k.symm
  refine ⟨m, hn.sameBut sb ne, fun h3 sb3 => ⟨_, H1, J2.turned (t' := s2.toks) (fun b o hb e => (sb3.2 b hb).trans e) g0 g1 g3 g4 g5, q⟩⟩
theorem sw_trueD {ke ve : Expr} {gs : List Comprehension} {sc : Scope} {cp zp : Pos} {z : Str} {l : Nat} {env : Env} (hk : env.scope.kind = .function) (hz : env.scope.names.lookup z = some .local) (hl : (zp.line == cp.line) = true)
    (ha : (sc.names.any fun (n, k) => n == z && (k == .local || k == .cell)) = false) : swapsWith (.DictComp ke ve gs sc cp) (some (.Name z zp)) l env = pure true := by
  have e1 : env.kindOf z = some .local := hz
  have e2 : env.blockKind = .function := by unfold Env.blockKind; rw [hk]; rfl
  unfold swapsWith
  simp only [e2, e1, ha, Expr.pos, hl]
  rfl
end
section
variable {T : List Addr} {X : Cx} {E : XK} {kx vx tg iter : Expr} {ifs : List Expr} {scope : Scope} {own : List (Str × Nat)} {pos : Pos} {mi : MI0} {t : TG} {g : MG0} {mt : MT0} {mk mv : ME0}
theorem ms_setDc {i : Nat} {y : Str} {py spos : Pos} (hc : X.calm = true) (hN : X.N.Nodup) (hy : X.N[i]? = some y) (hyl : X.env.scope.names.lookup y = some .local) (hsw : swapsWith (.DictComp kx vx [⟨tg, iter, ifs, 0⟩] scope pos) (some (.Name y py)) spos.line X.env = pure true)
    (hi : MI T X E tg iter mi) (ok : blkC X.N X.env.scope scope own = true) (h : DcOk T X kx vx tg ifs scope own t g mt mk mv) (hs : ∀ x, foldedSetIterable iter X.env x = pure x := by intro _; rfl) :
    MS T X E (.Assign [.Name y py] (.DictComp kx vx [⟨tg, iter, ifs, 0⟩] scope pos) spos) (sAsg (mDc mi g mt mk mv (own.map (·.2))) (gN i)) := by
  obtain ⟨wi, pi, si⟩ := hi
  obtain ⟨tt, pt, st⟩ := all_T (ι := Shared × Hp × Addr × List (Str × Addr) × List Addr) (XX := fun i => X.blk i.1 i.2.1 scope (compEnvC scope i.2.2.2.1 i.2.2.1 X.env) i.2.2.2.2) (G := (X.gd T)) (E := E0) (es := ifs) (m := mt) fun i => h.ifs i.1 i.2.1 i.2.2.1 i.2.2.2.1 i.2.2.2.2
  obtain ⟨tk, pk, sk⟩ := all_E (ι := Shared × Hp × Addr × List (Str × Addr) × List Addr) (XX := fun i => X.blk i.1 i.2.1 scope (compEnvC scope i.2.2.2.1 i.2.2.1 X.env) i.2.2.2.2) (G := (X.gd T)) (E := E0) (e := kx) (m := mk) fun i => h.k i.1 i.2.1 i.2.2.1 i.2.2.2.1 i.2.2.2.2
  obtain ⟨tv, pv, sv⟩ := all_E (ι := Shared × Hp × Addr × List (Str × Addr) × List Addr) (XX := fun i => X.blk i.1 i.2.1 scope (compEnvC scope i.2.2.2.1 i.2.2.1 X.env) i.2.2.2.2) (G := (X.gd T)) (E := E0) (e := vx) (m := mv) fun i => h.v i.1 i.2.1 i.2.2.1 i.2.2.2.1 i.2.2.2.2
  exact ⟨_, ps_setDc hc hN hy hyl hsw pi (blkOk_by ok) (fun s H C cl fp => (h.tg s H C cl fp).pg) (fun s H C cl fp => pt (s, H, C, cl, fp)) (fun s H C cl fp => pk (s, H, C, cl, fp)) (fun s H C cl fp => pv (s, H, C, cl, fp)) hs,
    SndS.asg (dc_snd si (h.tg {} (fun _ => none) 0 [] []).snd (h.tg {} (fun _ => none) 0 [] []).wip st sk sv) SndG.name⟩
end
end MM

/-! {k: v, ..}. -/
namespace MM
open PySem PySem.Spec L2 PyProof.Rows
def mPairs : List (ME0 × ME0) → Rho → Store → Res (List (D × D))
  | [], _, S => .ok [] S
  | (k, v) :: r, ρ, S => (k ρ S).bind fun x S1 => (v ρ S1).bind fun y S2 => (mPairs r ρ S2).bind fun ps S3 => .ok ((x, y) :: ps) S3
def pkeys : List (D × D) → Option (List (Key × D))
  | [] => some []
  | (x, y) :: r => match keyOf x, pkeys r with
    | some k, some s => some ((k, y) :: s)
    | _, _ => none
def putAll (acc kvs : List (Key × D)) : List (Key × D) := kvs.foldl (fun a kv => aput a kv.1 kv.2) acc
def mDisp (ps : List (ME0 × ME0)) : ME0 := fun ρ S => (mPairs ps ρ (S ++ [.dct []])).bind fun qs S1 => match pkeys qs, S1[S.length]? with
  | some kvs, some (.dct []) => if kvs.length ≤ 15 then .ok (.ref S.length) (S1.set S.length (.dct (putAll [] kvs))) else .bad
  | _, _ => .bad
abbrev RelPs (G : Gd) (R : List Addr) : List Addr → Hp → List (D × D) → List (V × V) → Prop := fun φ H qs vs => RvL G R φ H (qs.map (·.1)) (vs.map (·.1)) ∧ RvL G R φ H (qs.map (·.2)) (vs.map (·.2))
def SndPs (G : Gd) (E : XK) (trs : List (TE × TE)) (ps : List (ME0 × ME0)) : Prop := ∀ σ H ρ φ R S, Rs G R φ S H → Rn G R φ H ρ σ → Run G E R φ H (RelPs G R) (mPairs ps ρ S) (fun Q => tPairs trs σ H Q)
def MPs (T : List Addr) (X : Cx) (E : XK) (pos : Pos) (ks : List (Option Expr)) (vs : List Expr) (ps : List (ME0 × ME0)) : Prop := ∃ trs, PPs X pos ks vs trs ∧ SndPs (X.gd T) E trs ps
section
variable {G : Gd} {E : XK} {R φ : List Addr} {S : Store} {H : Hp}
theorem merge_rel : ∀ {kvs : List (Key × D)} {ws : List V} {acc : List (Key × D)} {us : List V}, RvL G R φ H (kvs.map (·.2)) ws → RvL G R φ H (acc.map (·.2)) us →
    ∃ zs, RvL G R φ H ((putAll acc kvs).map (·.2)) zs ∧ mergeK ((acc.map (·.1)).zip us) ((kvs.map (·.1)).zip ws) = ((putAll acc kvs).map (·.1)).zip zs
  | [], ws, acc, us, h1, h2 => ⟨us, h2, rfl⟩
  | (k, d) :: kvs, ws, acc, us, h1, h2 => by
    rw [List.map_cons] at h1
    unfold RvL at h1
    obtain ⟨v, r, rfl, a1, a2⟩ := h1
    obtain ⟨us', b1, b2⟩ := aput_rel (k := k) a1 h2
    obtain ⟨zs, c1, c2⟩ := merge_rel a2 b1
    refine ⟨zs, c1, ?_⟩
    show mergeK (putK ((acc.map (·.1)).zip us) k v) ((kvs.map (·.1)).zip r) = _
    rw [b2, c2]
    rfl
theorem pkeys_rel : ∀ {qs : List (D × D)} {vs : List (V × V)} {kvs : List (Key × D)}, RvL G R φ H (qs.map (·.1)) (vs.map (·.1)) → RvL G R φ H (qs.map (·.2)) (vs.map (·.2)) → pkeys qs = some kvs →
    ∃ ws, vs = ((kvs.map (·.1)).zip ws).map (fun kv => (kV kv.1, kv.2)) ∧ RvL G R φ H (kvs.map (·.2)) ws ∧ kvs.length = ws.length
  | [], vs, kvs, h1, h2, e => by
    cases e
    rw [List.map_nil] at h1
    unfold RvL at h1
    have : vs = [] := List.map_eq_nil_iff.mp h1
    subst this
    exact ⟨[], rfl, RvL.nil, rfl⟩
  | (x, y) :: qs, vs, kvs, h1, h2, e => by
    rw [List.map_cons] at h1 h2
    unfold RvL at h1 h2
    obtain ⟨v, r, e1, a1, a2⟩ := h1
    obtain ⟨v', r', e2, b1, b2⟩ := h2
    cases vs with
    | nil => cases e1
    | cons p vs =>
      rw [List.map_cons] at e1 e2
      cases e1
      cases e2
      unfold pkeys at e
      cases hk : keyOf x with
      | none => rw [hk] at e; cases e
      | some k =>
        cases hp : pkeys qs with
        | none => rw [hk, hp] at e; cases e
        | some s =>
          rw [hk, hp] at e
          cases e
          obtain ⟨ws, c1, c2, c3⟩ := pkeys_rel a2 b2 hp
          have ev := keyOf_v a1 hk
          refine ⟨p.2 :: ws, ?_, RvL.cons b1 c2, by rw [List.length_cons, List.length_cons, c3]⟩
          rw [List.map_cons, List.zip_cons_cons, List.map_cons, ← c1]
          obtain ⟨p1, p2⟩ := p
          have ev' : p1 = kV k := ev
          rw [ev']
end
section
variable {T : List Addr} {X : Cx} {E : XK} {pos : Pos} {k v : Expr} {ks : List (Option Expr)} {vs : List Expr} {ps : List (ME0 × ME0)} {mk mv : ME0}
theorem mps_nil : MPs T X E pos [] [] [] := ⟨_, pps_nil, fun σ H ρ φ R S rs rn => Run.ret rs ⟨RvL.nil, RvL.nil⟩ fun Q q => q⟩
theorem mps_cons (hk : ME T X E k mk) (hv : ME T X E v mv) (hr : MPs T X E pos ks vs ps) : MPs T X E pos (some k :: ks) (v :: vs) ((mk, mv) :: ps) := by
  obtain ⟨tk, pk, sk⟩ := hk
  obtain ⟨tv, pv, sv⟩ := hv
  obtain ⟨tr, pr, sr⟩ := hr
  refine ⟨_, pps_cons pk pv pr, fun σ H ρ φ R S rs rn => ?_⟩
  refine Run.bnd (c' := fun (x : V) H1 (Q : List (V × V) → Hp → Prop) => tv σ H1 fun y H2 => tPairs tr σ H2 fun ps H3 => Q ((x, y) :: ps) H3) (sk σ H ρ φ R S rs rn) (fun d S1 φ1 x H1 _ l1 rs1 r1 => ?_) fun Q q => q
  refine Run.bnd (c' := fun (y : V) H2 (Q : List (V × V) → Hp → Prop) => tPairs tr σ H2 fun ps H3 => Q ((x, y) :: ps) H3) (sv σ H1 ρ φ1 R S1 rs1 (rn.le l1)) (fun d2 S2 φ2 y H2 _ l2 rs2 r2 => ?_) fun Q q => q
  refine Run.bnd (c' := fun (qs : List (V × V)) H3 (Q : List (V × V) → Hp → Prop) => Q ((x, y) :: qs) H3) (sr σ H2 ρ φ2 R S2 rs2 (rn.le (l1.trans l2))) (fun qs S3 φ3 us H3 _ l3 rs3 r3 => ?_) fun Q q => q
  exact Run.ret (v := (x, y) :: us) rs3 ⟨RvL.cons (Rv.le (l2.trans l3) r1) r3.1, RvL.cons (Rv.le l3 r2) r3.2⟩ fun Q q => q
theorem me_disp (h : MPs T X E pos ks vs ps) (hall : ks.all (·.isSome) = true := by rfl) (hl : ks.length = vs.length := by rfl) (h0 : ks ≠ [] := by exact List.cons_ne_nil _ _) (h15 : ks.length ≤ 15 := by decide) : ME T X E (.Dict ks vs pos) (mDisp ps) := by
  obtain ⟨tr, pr, sr⟩ := h
  refine ⟨_, pe_disp pr hall hl h0 h15, fun σ H ρ φ R S rs rn => ?_⟩
  intro Q hq he hb D hD
  unfold mDisp at hq he hb
  have l0 : Le φ H (φ ++ [D]) (upd H D (.dK [])) := Le.alloc rs hD
  have rs0 : Rs (X.gd T) R (φ ++ [D]) (S ++ [.dct []]) (upd H D (.dK [])) := rs.alloc hD ⟨[], _, upd_same, rfl, RvL.nil⟩
  have at0 : (φ ++ [D])[S.length]? = some D := by
    rw [List.getElem?_append_right (by rw [rs.len]; exact Nat.le_refl _), rs.len, Nat.sub_self]
    rfl
  refine sr σ _ ρ _ R _ rs0 (rn.le l0) _ (fun qs S1 φ1 us H1 e1 l1 rs1 r1 => ?_) (fun er S' φ' H' cl d e1 l1 rs1 xq => he er S' φ' H' cl d (by rw [e1]; rfl) (l0.trans l1) rs1 xq) (fun e1 => hb (by rw [e1]; rfl))
  rw [e1, Res.bind_ok] at hq he hb
  have at1 := l1.at at0
  cases hk : pkeys qs with
  | none => rw [hk] at hb; exact (hb rfl).elim
  | some kvs =>
    cases ho : S1[S.length]? with
    | none => rw [hk, ho] at hb; exact (hb rfl).elim
    | some ob =>
      cases ob with
      | dct zs =>
        cases zs with
        | cons a b => rw [hk, ho] at hb; exact (hb rfl).elim
        | nil =>
          rw [hk, ho] at hq hb
          dsimp only at hq hb
          by_cases hl15 : kvs.length ≤ 15
          · rw [if_pos hl15] at hq
            obtain ⟨us0, u, eu, sh, rl⟩ := rs1.obj _ _ D ho at1
            have sh' : u = .dK _ := sh
            subst sh'
            obtain ⟨ws, c1, c2, c3⟩ := pkeys_rel r1.1 r1.2 hk
            have lw : Le φ1 H1 φ1 (upd H1 D (.dK (mergeK [] ((kvs.map (·.1)).zip ws)))) := Le.write rs1 at1 (nfz eu (fun _ _ z => nomatch z))
            obtain ⟨zs, z1, z2⟩ := merge_rel (acc := []) (us := []) (RvL.le lw c2) RvL.nil
            have rw' := rs1.write (ho := .dK (mergeK [] ((kvs.map (·.1)).zip ws))) (o := .dct (putAll [] kvs)) at1 (nfz eu (fun _ _ z => nomatch z)) ⟨zs, _, upd_same, by rw [show mergeK [] ((kvs.map (·.1)).zip ws) = _ from z2]; rfl, z1⟩
            refine ⟨eu, _, c1, by rw [List.length_zip, List.length_map]; omega, ?_⟩
            refine hq (.ref S.length) _ φ1 (.ref D) _ rfl (l0.trans (l1.trans lw)) rw' ?_
            show Rv _ R φ1 _ (.ref S.length) (.ref D)
            unfold Rv
            exact ⟨D, rfl, at1⟩
          · rw [if_neg hl15] at hb
            exact (hb rfl).elim
      | _ => rw [hk, ho] at hb; exact (hb rfl).elim
end
end MM

/-! Defs with defaults; making by keywords. -/
namespace MM
open PySem PySem.Spec L2 PyProof.Rows
/-- a def with defaults as it stands behind the top -/
structure FnD (K : PySem.W.Frag) (x qual : Str) (st : Stmt) (dvs : List V) (f : Addr) (fd : FuncData) : Prop where
  ex : ∃ (oc : Value) (od : Option Addr) (kV doc pm : Value) (an : Option Addr) (cdv ct : Value) (osl : Array (Option Value)) (T : Addr) (o : Obj) (its : List Value) (n : Nat),
    fd = PySem.W.fnOf x qual (defArgs st) (defBody st) (defScope st) (.ref T) kV doc pm an cdv ct ∧ K.lookup f = some ⟨oc, od, .func fd, osl⟩ ∧ PySem.W.codeIn K cdv qual = true ∧ K.lookup T = some o ∧ o.data = .seq its.toArray n ∧ Vals dvs its
  kp : PySem.W.keepIn K (.ref f) = true
section
variable {T : List Addr} {P : Program} {w : World} {K : PySem.W.Frag} {mg : Str → Option Value} {base : Heap} {x qual : Str} {st : Stmt} {f : Addr} {fd : FuncData} {dvs : List V}
theorem fnD_mk {oc : Value} {od an : Option Addr} {osl : Array (Option Value)} {kV doc pm cdv ct : Value} {T : Addr} {e : Value} {dd : Option Addr} {its : Array Value} {n : Nat} {sl : Array (Option Value)}
    (l : K.lookup f = some ⟨oc, od, .func (PySem.W.fnOf x qual (defArgs st) (defBody st) (defScope st) (.ref T) kV doc pm an cdv ct), osl⟩) (c : PySem.W.codeIn K cdv qual = true) (k : PySem.W.keepIn K (.ref f) = true)
    (lT : K.lookup T = some ⟨e, dd, .seq its n, sl⟩) (r : Vals dvs its.toList) : FnD K x qual st dvs f (PySem.W.fnOf x qual (defArgs st) (defBody st) (defScope st) (.ref T) kV doc pm an cdv ct) :=
  ⟨⟨oc, od, kV, doc, pm, an, cdv, ct, osl, T, _, its.toList, n, rfl, l, c, lT, by rw [Array.toArray_toList], r⟩, k⟩
theorem fn_okD {N ps : List Str} {k n : Nat} {m : MS0} (F : FnD K x qual st dvs f fd) (S : FnScope N ps (defScope st)) (hn : ps.length = n)
    (hbody : ∀ (cdv : Value) (A : Around) (outer : List Env) (s : Shared) (H : Hp) (E : XK), Room k (A.deeper (envOfC qual (defScope st) s.heap.objs.size f cdv)) →
      MSs T (cxOf (L2.CX P w) P w K mg base N qual (defScope st) f cdv A outer s H E) E (defBody st) m) : FnOk P w K mg base (L2.CX P w) (k + 1) f fd ps (spM ⟨K, mg, T⟩ n (mDef N.length m)) := by
  obtain ⟨oc, od, kV, doc, pm, an, cdv, ct, osl, T0, o, its, n0, rfl, lk, hcd, _, _, _⟩ := F.ex
  refine fn_of lk hcd S (fun vs H Q E h => ?_) fun A outer s H vs Q E hr h => ?_
  · obtain ⟨φ, R, S, ds, _, h1, h2, _⟩ := h
    rw [← RvL.length h1, h2, hn]
  · obtain ⟨φ, R, S, ds, rs, rv, hl, hb, hq, hx⟩ := h
    obtain ⟨t, pt, st⟩ := hbody cdv A outer s H E hr
    refine ⟨t, pt, ?_⟩
    have e0 : mDef N.length m ds S = (m (ds.map some ++ List.replicate (N.length - ds.length) none) S).bind fun x S1 => match x.1 with
      | .nx => .ok .non S1
      | .rt d => .ok d S1
      | _ => .bad := rfl
    rw [e0] at hb hq hx
    refine st (L2.start N vs) H _ φ R S rs (start_rn rv) (fun o H' => match o with
      | .nx _ => Q .non H'
      | .rt v => Q v H'
      | _ => False) (fun y S' φ' o H' e1 l1 rs1 ro => ?_) (fun er S' φ' H' cl d e1 l1 rs1 xq => hx er S' φ' H' cl d (by rw [e1]; rfl) l1 rs1 xq) (fun e1 => hb (by rw [e1]; rfl))
    obtain ⟨fl, ρ'⟩ := y
    rw [e1, Res.bind_ok] at hb hq
    cases fl with
    | nx =>
      cases o with
      | nx σ => exact hq .non S' φ' .non H' rfl l1 rs1 Rv.non
      | _ => exact False.elim ro
    | rt d =>
      cases o with
      | rt v => exact hq d S' φ' v H' rfl l1 rs1 ro
      | _ => exact False.elim ro
    | bk => exact (hb rfl).elim
    | ct => exact (hb rfl).elim
/-- n values are given, the defaults behind the first j fill up -/
theorem FnD.binds {ps : List Str} (F : FnD K x qual st dvs f fd) (n j : Nat) (hn : n + (dvs.length - j) = ps.length)
    (h : ∀ (T : Addr) (kV doc pm : Value) (an : Option Addr) (cdv ct : Value) (us its : List Value), us.length = n → its.length = dvs.length →
      ∃ k, bindArgs (PySem.W.fnOf x qual (defArgs st) (defBody st) (defScope st) (.ref T) kV doc pm an cdv ct) ⟨us, []⟩ = seqItems? (.ref T) >>= k ∧ k (some its.toArray) = pure (ps.zip (us ++ its.drop j))) : ∃ ds, Vals (dvs.drop j) ds ∧ Binds K fd ps ds := by
  obtain ⟨oc, od, kV, doc, pm, an, cdv, ct, osl, T, o, its, m, rfl, lk, hcd, lT, oT, rT⟩ := F.ex
  refine ⟨its.drop j, rT.drop j, fun s us X hlen => ?_⟩
  have l1 : its.length = dvs.length := rT.length.symm
  have l2 : us.length = n := by
    rw [List.length_append, List.length_drop, l1] at hlen
    omega
  obtain ⟨k, e1, e2⟩ := h T kV doc pm an cdv ct us its l2 l1
  refine BindsTo.of_looks fun M => ?_
  rw [e1]
  exact looks_items X lT oT (.of_pure e2)
/-- by place and by keywords; ix: where each parameter's value stands among those by place, by name, the defaults -/
def KTd (K : PySem.W.Frag) (fd : FuncData) (ps ks : List Str) (n1 : Nat) (ix : List Nat) (dvs : List V) : Prop :=
  ∃ its : List Value, Vals dvs its ∧ KBn K fd ps n1 ks (fun us ws => perm n1 (ks.length + its.length) ix us (ws ++ its)) (fun vs zs => perm n1 (ks.length + its.length) ix vs (zs ++ dvs))
theorem FnD.kto {ps ks : List Str} {ix : List Nat} (F : FnD K x qual st dvs f fd) (n1 : Nat)
    (h : ∀ (T : Addr) (kV doc pm : Value) (an : Option Addr) (cdv ct : Value) (us ws its : List Value), us.length = n1 → ws.length = ks.length → its.length = dvs.length →
      ∃ k, bindArgs (PySem.W.fnOf x qual (defArgs st) (defBody st) (defScope st) (.ref T) kV doc pm an cdv ct) ⟨us, ks.zip ws⟩ = seqItems? (.ref T) >>= k ∧ k (some its.toArray) = pure (ps.zip (ix.filterMap fun i => (us ++ (ws ++ its))[i]?))) : KTd K fd ps ks n1 ix dvs := by
  obtain ⟨oc, od, kV, doc, pm, an, cdv, ct, osl, T, o, its, m, rfl, lk, hcd, lT, oT, rT⟩ := F.ex
  refine ⟨its, rT, ⟨fun s us ws X l1 l2 => ?_, fun {vs us zs ws} r rz => ?_⟩⟩
  · obtain ⟨k, e1, e2⟩ := h T kV doc pm an cdv ct us ws its l1 l2 rT.length.symm
    refine BindsTo.of_looks fun M => ?_
    rw [e1]
    have e3 : perm n1 (ks.length + its.length) ix us (ws ++ its) = ix.filterMap fun i => (us ++ (ws ++ its))[i]? := by
      unfold perm
      rw [if_pos ⟨l1, by rw [List.length_append, l2]⟩]
    show PySem.W.Looks M s.heap (seqItems? (.ref T) >>= k) (ps.zip (perm n1 (ks.length + its.length) ix us (ws ++ its)))
    rw [e3]
    exact looks_items X lT oT (.of_pure e2)
  · unfold perm
    rw [Vals.length r, Vals.length (Vals.append rz rT)]
    split
    · exact Vals.pick (Vals.append r (Vals.append rz rT)) ix
    · exact .nil
end
def mMakeK (c : Str) (m : List D → Store → Res D) (cds : List D) (n1 n2 : Nat) (ix : List Nat) (ma mk : MA0) : ME0 := fun ρ S => (ma ρ S).bind fun us S1 => (mk ρ S1).bind fun ws S2 => (m (perm n1 n2 ix (.ref S2.length :: us) (ws ++ cds)) (S2 ++ [.ins c []])).bind fun r S3 => match r with
  | .non => .ok (.ref S2.length) S3
  | _ => .bad
section
variable {T : List Addr} {X : Cx} {E : XK} {e o : Expr} {es : List Expr} {kws : List Keyword} {c x : Str} {C f : Addr} {fd : FuncData} {ps ks : List Str} {k n n1 n2 : Nat} {ix : List Nat} {m : List D → Store → Res D} {dvs : List V} {cds : List D} {pos p apos : Pos} {mo : ME0} {ma mk : MA0}
theorem me_makeE (A : ClsAt X.K X.mg c C) (M : Mk X.K C f) (F : FnOk X.prog X.w X.K X.mg X.base (L2.CX X.prog X.w) k f fd ps (spM (X.gd T) n m)) (hr : Room (k + 1) X.A) (hg : Gl X c) (hb : ∃ ds, Vals dvs ds ∧ Binds X.K fd ps ds) (hcd : Consts cds dvs) (hx : Passes (L2.CX X.prog X.w) X E)
    (ha : MAn T X E (e :: es) ma) (hn : (e :: es).length + cds.length + 1 = n := by rfl) (hdb : (c == ("__debug__" : Str)) = false := by decide) (he : starEach (e :: es) X.env = (false, eval e X.env) :: starEach es X.env := by rfl) (hpl : (backTo pos (starEach es X.env)).any (·.1) = false := by rfl) :
    ME T X E (.Call (.Name c p) (e :: es) [] pos) (mMake c m cds ma) := by
  obtain ⟨ds, hd, hb⟩ := hb
  exact me_make A M F hr hg hb hd hcd hx ha hn hdb he hpl
theorem SndE.makeK {g : List V → List V → List V} {ta tk : TA} (hm : X.mg c = some (.ref C)) (hcd : Consts cds dvs) (ha : SndA (X.gd T) E ta ma) (hk : SndA (X.gd T) E tk mk) (hn : ∀ ρ S ds S', ma ρ S = .ok ds S' → ds.length + 1 = n1) (hn2 : ∀ ρ S ds S', mk ρ S = .ok ds S' → ds.length = ks.length)
    (hg : g = fun vs zs => perm n1 (ks.length + cds.length) ix vs (zs ++ dvs)) (hn0 : n1 = n2 + 1) (hix : ∀ us ws : List D, us.length = n1 → ws.length = ks.length + cds.length → (perm n1 (ks.length + cds.length) ix us ws).length = n) :
    SndE (X.gd T) E (tMakeK C n2 ks.length (spM (X.gd T) n m) g E ta tk) (mMakeK c m cds n1 (ks.length + cds.length) ix ma mk) := by
  subst hg
  intro σ H ρ φ R S rs rn
  refine Run.bnd (c' := fun vs H1 (Q : VK) => tk σ H1 fun zs H2 => vs.length = n2 ∧ zs.length = ks.length ∧ ∀ x dx, H2 x = none → H2 dx = none → dx ≠ x → spM (X.gd T) n m (perm n1 (ks.length + cds.length) ix (.ref x :: vs) (zs ++ dvs)) (upd (upd H2 dx (.own x)) x (.ins C dx [])) (fun v H3 => v = .non ∧ Q (.ref x) H3) E) (ha σ H ρ φ R S rs rn) (fun us S1 φ1 vs H1 e0 l1 rs1 r1 => ?_) fun Q q => q
  refine Run.bnd (c' := fun zs H2 (Q : VK) => vs.length = n2 ∧ zs.length = ks.length ∧ ∀ x dx, H2 x = none → H2 dx = none → dx ≠ x → spM (X.gd T) n m (perm n1 (ks.length + cds.length) ix (.ref x :: vs) (zs ++ dvs)) (upd (upd H2 dx (.own x)) x (.ins C dx [])) (fun v H3 => v = .non ∧ Q (.ref x) H3) E) (hk σ H1 ρ φ1 R S1 rs1 (rn.le l1)) (fun ws S2 φ2 zs H2 e1 l2 rs2 r2 => ?_) fun Q q => q
  intro Q hq he hb
  have lu := hn _ _ _ _ e0
  have lw := hn2 _ _ _ _ e1
  refine ⟨by rw [← RvL.length r1]; omega, by rw [← RvL.length r2]; exact lw, fun x dx hx hd hne => ?_⟩
  obtain ⟨l3, rs3, rx⟩ := made (c := c) (C := C) rs2 hm hx hd hne
  have hc := hcd (X.gd T) R (φ2 ++ [x]) (upd (upd H2 dx (.own x)) x (.ins C dx []))
  have lc := RvL.length hc
  refine ⟨φ2 ++ [x], R, S2 ++ [.ins c []], perm n1 (ks.length + cds.length) ix (.ref S2.length :: us) (ws ++ cds), rs3, ?_, ?_, fun z => hb (by rw [z]; rfl), fun d S' φ' v H' e2 l4 rs4 r4 => ?_, fun er S' φ' H' cl d e2 l4 rs4 xq => he er S' φ' H' cl d (by rw [e2]; rfl) (l3.trans l4) rs4 xq⟩
  · have ra : RvL (X.gd T) R (φ2 ++ [x]) (upd (upd H2 dx (.own x)) x (.ins C dx [])) (.ref S2.length :: us) (.ref x :: vs) := RvL.cons rx (RvL.le (l2.trans l3) r1)
    have rb := RvL.append (RvL.le l3 r2) hc
    unfold perm
    rw [RvL.length ra, RvL.length rb]
    split
    · exact RvL.pick (RvL.append ra rb) ix
    · exact RvL.nil
  · exact hix _ _ (by rw [List.length_cons]; exact lu) (by rw [List.length_append, lw])
  · rw [e2, Res.bind_ok] at hb hq
    cases d with
    | non => exact ⟨Rv.non_of r4, hq (.ref S2.length) S' φ' (.ref x) H' rfl (l3.trans l4) rs4 (Rv.le l4 rx)⟩
    | _ => exact (hb rfl).elim
theorem KTd.dv {K : PySem.W.Frag} {fd : FuncData} {ps ks : List Str} {n1 : Nat} {ix : List Nat} {dvs : List V} (h : KTd K fd ps ks n1 ix dvs) : ∃ its : List Value, Vals dvs its ∧ KBn K fd ps n1 ks (fun us ws => perm n1 (ks.length + its.length) ix us (ws ++ its)) (fun vs zs => perm n1 (ks.length + dvs.length) ix vs (zs ++ dvs)) := by
  obtain ⟨its, r, kb⟩ := h
  refine ⟨its, r, ?_⟩
  rw [show dvs.length = its.length from r.length]
  exact kb
theorem me_makeK0 (A : ClsAt X.K X.mg c C) (M : Mk X.K C f) (F : FnOk X.prog X.w X.K X.mg X.base (L2.CX X.prog X.w) k f fd ps (spM (X.gd T) n m)) (hr : Room (k + 1) X.A) (hg : Gl X c) (hb : KTd X.K fd ps ks 1 ix dvs) (hcd : Consts cds dvs) (hx : Passes (L2.CX X.prog X.w) X E)
    (hkw : MKn T X E kws mk) (hix : ∀ us ws : List D, us.length = 1 → ws.length = ks.length + cds.length → (perm 1 (ks.length + cds.length) ix us ws).length = n) (hn2 : kws.length = ks.length := by rfl)
    (hall : (backToKw pos (keywordEach kws X.env)).all (·.1.isSome) = true := by rfl) (hks : (backToKw pos (keywordEach kws X.env)).filterMap (·.1) = ks := by rfl) (hdb : (c == ("__debug__" : Str)) = false := by decide)
    (hpl : ((backTo pos (starEach [] X.env)).any (·.1) || (backToKw pos (keywordEach kws X.env)).any (·.1.isNone)) = false := by rfl) :
    ME T X E (.Call (.Name c p) [] kws pos) (mMakeK c m cds 1 (ks.length + cds.length) ix mNil mk) := by
  obtain ⟨⟨tk, pk, sk⟩, hl2⟩ := hkw
  obtain ⟨its, r, kb⟩ := hb.dv
  have lc : cds.length = dvs.length := RvL.length (hcd (X.gd T) [] [] fun _ => none)
  exact ⟨_, pe_makeK0 M F hr hg A.m kb hx pk hall hks hdb hpl, SndE.makeK (ta := tNil) A.m hcd (fun σ H ρ φ R S rs rn => Run.ret rs RvL.nil fun Q q => q) sk (fun ρ S ds S' h => by cases h; rfl) (fun ρ S ds S' h => (hl2 ρ S ds S' h).trans hn2) (by rw [lc]) rfl hix⟩
theorem me_makeK (A : ClsAt X.K X.mg c C) (M : Mk X.K C f) (F : FnOk X.prog X.w X.K X.mg X.base (L2.CX X.prog X.w) k f fd ps (spM (X.gd T) n m)) (hr : Room (k + 1) X.A) (hg : Gl X c) (hb : KTd X.K fd ps ks (n2 + 1) ix dvs) (hcd : Consts cds dvs) (hx : Passes (L2.CX X.prog X.w) X E)
    (ha : MAn T X E (e :: es) ma) (hkw : MKn T X E kws mk) (hix : ∀ us ws : List D, us.length = n2 + 1 → ws.length = ks.length + cds.length → (perm (n2 + 1) (ks.length + cds.length) ix us ws).length = n) (hn : (e :: es).length = n2 := by rfl) (hn2 : kws.length = ks.length := by rfl)
    (hall : (backToKw pos (keywordEach kws X.env)).all (·.1.isSome) = true := by rfl) (hks : (backToKw pos (keywordEach kws X.env)).filterMap (·.1) = ks := by rfl) (hdb : (c == ("__debug__" : Str)) = false := by decide)
    (he : starEach (e :: es) X.env = (false, eval e X.env) :: starEach es X.env := by rfl) (hpl : ((backTo pos (starEach (e :: es) X.env)).any (·.1) || (backToKw pos (keywordEach kws X.env)).any (·.1.isNone)) = false := by rfl) :
    ME T X E (.Call (.Name c p) (e :: es) kws pos) (mMakeK c m cds (n2 + 1) (ks.length + cds.length) ix ma mk) := by
  obtain ⟨⟨ta, pa, sa⟩, hl⟩ := ha
  obtain ⟨⟨tk, pk, sk⟩, hl2⟩ := hkw
  obtain ⟨its, r, kb⟩ := hb.dv
  have lc : cds.length = dvs.length := RvL.length (hcd (X.gd T) [] [] fun _ => none)
  exact ⟨_, pe_makeK M F hr hg A.m kb hx pa pk hall hks hdb he hpl, SndE.makeK A.m hcd sa sk (fun ρ S ds S' h => by rw [hl ρ S ds S' h, hn]) (fun ρ S ds S' h => (hl2 ρ S ds S' h).trans hn2) (by rw [lc]) rfl hix⟩
end
end MM
namespace MM
open PySem PySem.Spec L2 PyProof.Rows
/-! ### the text's classes -/
section
variable (T : List Addr) (P : Program) (w : World) (K : PySem.W.Frag) (mg : Str → Option Value) (base : Heap)
structure DefM (C : Addr) (x qual : Str) (st : Stmt) (f : Addr) (fd : FuncData) : Prop where
  F : Fun K x qual st f fd
  M : Meth K C x f
structure ClM (k : Nat) (C : Addr) (x : Str) (ps : List Str) (f : Addr) (fd : FuncData) (n : Nat) (m : List D → Store → Res D) : Prop where
  ok : FnOk P w K mg base (L2.CX P w) k f fd ps (spM ⟨K, mg, T⟩ n m)
  M : Meth K C x f
  b : Binds K fd ps []
structure DefP (C : Addr) (x qual : Str) (st : Stmt) (f : Addr) (fd : FuncData) : Prop where
  F : Fun K x qual st f fd
  M : ∃ pr, PropOf K C x pr f
structure ClP (k : Nat) (C : Addr) (x : Str) (f : Addr) (fd : FuncData) (m : List D → Store → Res D) : Prop where
  ok : FnOk P w K mg base (L2.CX P w) k f fd ["self"] (spM ⟨K, mg, T⟩ 1 m)
  M : ∃ pr, PropOf K C x pr f
  b : Binds K fd ["self"] []
structure DefI (C : Addr) (qual : Str) (st : Stmt) (f : Addr) (fd : FuncData) : Prop where
  F : Fun K "__init__" qual st f fd
  M : Mk K C f
structure DefID (C : Addr) (qual : Str) (st : Stmt) (dvs : List V) (f : Addr) (fd : FuncData) : Prop where
  F : FnD K "__init__" qual st dvs f fd
  M : Mk K C f
structure ClI (k : Nat) (C : Addr) (ps : List Str) (f : Addr) (fd : FuncData) (n : Nat) (m : List D → Store → Res D) : Prop where
  ok : FnOk P w K mg base (L2.CX P w) k f fd ps (spM ⟨K, mg, T⟩ n m)
  M : Mk K C f
end
def mPropC (c : Str) (m : List D → Store → Res D) (mo : ME0) : ME0 := fun ρ S => (mo ρ S).bind fun o S1 => match o with
  | .ref n => match insAt S1 c n with
    | some _ => (m [o] S1).calm
    | none => .bad
  | _ => .bad
section
variable {T : List Addr} {X : Cx} {E : XK} {o : Expr} {c x : Str} {C f : Addr} {fd : FuncData} {k : Nat} {m : List D → Store → Res D} {pos : Pos} {mo : ME0}
theorem me_propC (A : ClsAt X.K X.mg c C) (F : ClP T X.prog X.w X.K X.mg X.base k C x f fd m) (hr : Room (k + 1) X.A)
    (ho : ME T X E o mo) (hab : attributeBase o x X.env (eval o X.env) = eval o X.env := by rfl) : ME T X E (.Attribute o x pos) (mPropC c m mo) := by
  obtain ⟨to, po, so⟩ := ho
  obtain ⟨pr, hp⟩ := F.M
  refine ⟨_, pe_prop po A.cls hp F.ok hr F.b .nil (E := E0) passL hab, fun σ H ρ φ R S rs rn => ?_⟩
  refine Run.bnd (c' := fun (y : V) H1 (Q : VK) => ∃ a dx fs, y = V.ref a ∧ H1 a = some (.ins C dx fs) ∧ spM (X.gd T) 1 m [.ref a] H1 Q E0) (so σ H ρ φ R S rs rn) (fun d S1 φ1 y H1 e0 l1 rs1 r1 => ?_) fun Q q => q
  split
  · rename_i i
    split
    · rename_i fs hfs
      obtain ⟨a, dx, vs, rfl, hai, h1, h2⟩ := rs1.ins r1 hfs A.m
      refine Run.calm (r := m [.ref i] S1) (c := fun Q => ∃ a_1 dx fs, V.ref a = V.ref a_1 ∧ H1 a_1 = some (.ins C dx fs) ∧ spM (X.gd T) 1 m [.ref a_1] H1 Q E0) ?_
      intro Q hq he hb
      exact ⟨a, dx, _, rfl, h1, φ1, R, S1, [.ref i], rs1, RvL.cons r1 RvL.nil, rfl, hb, hq, he⟩
    · exact Run.bad
  · exact Run.bad
end
end MM

/-! Objects that are locked while they are walked: dicts by keys, values, items. -/
namespace MM
open PySem L2
def unD {α : Type} (n : Nat) (x : α) (S' : Store) : Res α := match S'[n]? with
  | some (.lk (.dct k2)) => .ok x (S'.set n (.dct k2))
  | _ => .bad
def unT {α : Type} (n : Nat) (x : α) (S' : Store) : Res α := match S'[n]? with
  | some (.lk (.dcT k2)) => .ok x (S'.set n (.dcT k2))
  | _ => .bad
def lockR {α : Type} (h : Option Nat) (m : Store → Res α) : Store → Res α := fun S => match h with
  | some n => match S[n]? with
    | some (.dct kvs) => (m (S.set n (.lk (.dct kvs)))).bind (unD n)
    | some (.dcT kvs) => (m (S.set n (.lk (.dcT kvs)))).bind (unT n)
    | _ => m S
  | none => m S
def sLock (h : Rho → Store → Option Nat) (m : MS0) : MS0 := fun ρ S => lockR (h ρ S) (fun S' => m ρ S') S
def mLock (h : Rho → Store → Option Nat) (m : ME0) : ME0 := fun ρ S => lockR (h ρ S) (fun S' => m ρ S') S
section
variable {G : Gd} {R φ φ' : List Addr} {S S' : Store} {H H' : Hp}
mutual
/-- the lock at a is taken away -/
theorem Rv.upF {a : Addr} {ob : Obj} {u w : HO} (ha : a ∈ φ) (h2 : H a = some (.frz ob u)) : ∀ {d : D} {v : V}, Rv G R φ H d v → Rv G R φ (upd H a w) d v
  | .non, v, h => by unfold Rv at h ⊢; exact h
  | .bl b, v, h => by unfold Rv at h ⊢; exact h
  | .int i, v, h => by unfold Rv at h ⊢; exact h
  | .str s, v, h => by unfold Rv at h ⊢; exact h
  | .tup ds, v, h => by
    unfold Rv at h ⊢
    obtain ⟨b, vs, e, q1, q2⟩ := h
    exact ⟨b, vs, e, by rw [upd_ne (ne_of q1 h2 (fun z => nomatch z))]; exact q1, RvL.upF ha h2 q2⟩
  | .lst ds, v, h => by
    unfold Rv at h ⊢
    obtain ⟨b, vs, e, n1, n2, q1, q2⟩ := h
    exact ⟨b, vs, e, n1, n2, by rw [upd_ne (show b ≠ a from fun z => n1 (z ▸ ha))]; exact q1, RvL.upF ha h2 q2⟩
  | .frz ds, v, h => by
    unfold Rv at h ⊢
    obtain ⟨b, vs, e, q1, q2⟩ := h
    refine ⟨b, vs, e, ?_, RvL.upF ha h2 q2⟩
    rcases q1 with ⟨n1, n2, q1 | ⟨o, q1⟩⟩ | q1
    · exact .inl ⟨n1, n2, .inl (by rw [upd_ne (show b ≠ a from fun z => n1 (z ▸ ha))]; exact q1)⟩
    · exact .inl ⟨n1, n2, .inr ⟨o, by rw [upd_ne (show b ≠ a from fun z => n1 (z ▸ ha))]; exact q1⟩⟩
    · exact .inr q1
  | .ref n, v, h => by unfold Rv at h ⊢; exact h
  | .err c f ds, v, h => by
    unfold Rv at h ⊢
    obtain ⟨vs, e1, e2⟩ := h
    exact ⟨vs, e1.mono fun b o e n1 n2 q _ => ⟨by rw [upd_ne (show b ≠ a from fun z => n1 (z ▸ ha))]; exact e, n1, n2⟩, RvL.upF ha h2 e2⟩
theorem RvL.upF {a : Addr} {ob : Obj} {u w : HO} (ha : a ∈ φ) (h2 : H a = some (.frz ob u)) : ∀ {ds : List D} {vs : List V}, RvL G R φ H ds vs → RvL G R φ (upd H a w) ds vs
  | [], vs, h => by unfold RvL at h ⊢; exact h
  | d :: ds, vs, h => by
    unfold RvL at h ⊢
    obtain ⟨v, r, e, q1, q2⟩ := h
    exact ⟨v, r, e, Rv.upF ha h2 q1, RvL.upF ha h2 q2⟩
end
theorem Rn.upF {a : Addr} {ob : Obj} {u w : HO} (ha : a ∈ φ) (h2 : H a = some (.frz ob u)) {ρ : Rho} {σ : L2.St} (r : Rn G R φ H ρ σ) : Rn G R φ (upd H a w) ρ σ := ⟨r.len, fun i d e => by
  obtain ⟨v, e1, e2⟩ := r.get i d e
  exact ⟨v, e1, Rv.upF ha h2 e2⟩⟩
theorem RelO.upF {a : Addr} {ob : Obj} {u w : HO} (ha : a ∈ φ) (h2 : H a = some (.frz ob u)) {x : Fl × Rho} {o : Out} (r : RelO G R φ H x o) : RelO G R φ (upd H a w) x o := by
  obtain ⟨fl, ρ⟩ := x
  cases fl <;> cases o <;> first | exact False.elim r | exact Rn.upF ha h2 r | exact Rv.upF ha h2 r
theorem Le.unlock {n : Nat} {a : Addr} {ob : Obj} {u : HO} (ha : φ[n]? = some a) (e : H a = some u) (mu : Mut (some u)) (l : Le φ (upd H a (.frz ob u)) φ' H') : Le φ H φ' (upd H' a u) := by
  have hm : a ∈ φ := List.mem_iff_getElem?.mpr ⟨n, ha⟩
  refine ⟨l.pre, fun b o eb nb q => ?_, fun b vs eb => ?_, fun b eb => ?_, fun b tb => ?_, fun b o2 u2 eb => ?_⟩
  · have hb : b ≠ a := fun z => nb (z ▸ hm)
    obtain ⟨k1, k2⟩ := l.keep b o (by rw [upd_ne hb]; exact eb) nb q
    exact ⟨by rw [upd_ne hb]; exact k1, k2⟩
  · have hb : b ≠ a := by
      rintro rfl
      rw [e] at eb
      cases eb
      exact mu
    rw [upd_ne hb]
    exact l.tups b vs (by rw [upd_ne hb]; exact eb)
  · by_cases hb : b = a
    · rw [hb, upd_same]
      exact fun z => nomatch z
    · rw [upd_ne hb]
      exact l.ne b (by rw [upd_ne hb]; exact eb)
  · obtain ⟨ps, et, t⟩ := tb
    have hb : b ≠ a := by
      rintro rfl
      rw [e] at et
      cases et
      exact mu
    obtain ⟨qs, et2, t2⟩ := l.tab b ⟨ps, by rw [upd_ne hb]; exact et, t⟩
    exact ⟨qs, by rw [upd_ne hb]; exact et2, t2⟩
  · have hb : b ≠ a := by
      rintro rfl
      rw [e] at eb
      cases eb
      exact mu
    rw [upd_ne hb]
    exact l.frz b o2 u2 (by rw [upd_ne hb]; exact eb)
theorem Rs.unlock {n : Nat} {a : Addr} {ob : Obj} {u : HO} {o : O} (r : Rs G R φ S H) (ha : φ[n]? = some a) (e : H a = some (.frz ob u)) (hs : S[n]? = some (.lk o)) : Rs G R φ (S.set n o) (upd H a u) := by
  have hm : a ∈ φ := List.mem_iff_getElem?.mpr ⟨n, ha⟩
  refine ⟨r.nd, by rw [List.length_set]; exact r.len, r.apart, fun i x b e1 e2 => ?_, fun b hb => ?_, fun b hb => ?_⟩
  · by_cases hi : n = i
    · subst hi
      rw [ha] at e2
      cases e2
      rw [List.getElem?_set_self (List.getElem?_eq_some_iff.mp hs).1] at e1
      cases e1
      obtain ⟨vs, u0, eu, sh, rl⟩ := r.obj n _ a hs ha
      obtain ⟨ob', u', rfl, sh'⟩ := sh
      rw [e] at eu
      cases eu
      exact ⟨vs, u, upd_same, sh', RvL.upF hm e rl⟩
    · rw [List.getElem?_set_ne hi] at e1
      obtain ⟨vs, u0, eu, sh, rl⟩ := r.obj i _ b e1 e2
      have hb : b ≠ a := by
        rintro rfl
        exact hi ((List.getElem?_inj (List.getElem?_eq_some_iff.mp ha).1 r.nd).mp (ha.trans e2.symm))
      exact ⟨vs, u0, by rw [upd_ne hb]; exact eu, sh, RvL.upF hm e rl⟩
  · have hb' : b ≠ a := fun z => r.apart a hm (z ▸ hb)
    rw [upd_ne hb']
    exact r.res b hb
  · obtain ⟨ps, et, t⟩ := r.tabs b hb
    exact ⟨ps, by rw [upd_ne (ne_of et e (fun z => nomatch z))]; exact et, t⟩
/-- what is frozen stands in the store as locked -/
theorem Rs.lkAt {n : Nat} {a : Addr} {ob : Obj} {u : HO} (r : Rs G R φ S H) (ha : φ[n]? = some a) (e : H a = some (.frz ob u)) : ∃ o vs, S[n]? = some (.lk o) ∧ Sh G o vs u ∧ RvL G R φ H (kids o) vs := by
  have hl : n < S.length := by
    rw [← r.len]
    exact (List.getElem?_eq_some_iff.mp ha).1
  have hs := List.getElem?_eq_getElem hl
  obtain ⟨vs, u0, eu, sh, rl⟩ := r.obj n _ a hs ha
  rw [e] at eu
  cases eu
  generalize S[n] = x at hs sh rl
  cases x with
  | lk o =>
    obtain ⟨ob', u', e', sh'⟩ := sh
    cases e'
    exact ⟨o, vs, hs, sh', rl⟩
  | lst ds => exact nomatch (show HO.frz ob u = .lst vs from sh)
  | dct ds => exact nomatch (show HO.frz ob u = .dK ((ds.map (·.1)).zip vs) from sh)
  | dcT ds => exact nomatch (show HO.frz ob u = .dT ((ds.map (·.1)).zip vs) from sh)
  | ins c fs => obtain ⟨C, dx, _, e'⟩ := sh; cases e'
theorem lock_run {α β : Type} {E : XK} {rel : List Addr → Hp → β → α → Prop} {m : Store → Res β} {c : (α → Hp → Prop) → Hp → Prop} {n : Nat} {a : Addr} {u : HO} {vs : List V} {o : O} (rs : Rs G R φ S H) (ha : φ[n]? = some a) (hs : S[n]? = some o) (e : H a = some u) (sh : Sh G o vs u) (rl : RvL G R φ H (kids o) vs) (mu : Mut (some u))
    {k : β → Store → Res β} (hk : ∀ (o' : O) (vs' : List V) (x : β) (S' : Store), Sh G o' vs' u → S'[n]? = some (.lk o') → k x S' = .ok x (S'.set n o'))
    (hrel : ∀ (φ' : List Addr) (H' : Hp) (ob : Obj) (b : β) (v : α), a ∈ φ' → H' a = some (.frz ob u) → rel φ' H' b v → rel φ' (upd H' a u) b v)
    (hm : ∀ ob : Obj, Le φ H φ (upd H a (.frz ob u)) → Rs G R φ (S.set n (.lk o)) (upd H a (.frz ob u)) → Run G E R φ (upd H a (.frz ob u)) rel (m (S.set n (.lk o))) (fun Q => c Q (upd H a (.frz ob u)))) :
    Run G E R φ H rel ((m (S.set n (.lk o))).bind k) (fun Q => ∀ ob, c (fun v H' => H' a = some (.frz ob u) ∧ Q v (upd H' a u)) (upd H a (.frz ob u))) := by
  intro Q hq he hb ob
  have nf : ∀ o2 u2, H a ≠ some (.frz o2 u2) := nfz e fun o2 u2 z => by subst z; exact mu
  have lw : Le φ H φ (upd H a (.frz ob u)) := Le.write rs ha nf
  have rw' : Rs G R φ (S.set n (.lk o)) (upd H a (.frz ob u)) := rs.write (ho := .frz ob u) (o := .lk o) ha nf ⟨vs, _, upd_same, ⟨ob, u, rfl, sh⟩, RvL.le lw rl⟩
  refine hm ob lw rw' _ (fun b S' φ' v H' er l rs' r' => ?_) (fun er S' φ' H' cl d e1 l rs' x => he er S' φ' H' cl d (by rw [e1]; rfl) (lw.trans l) rs' x) (fun z => hb (by rw [z]; rfl))
  have e' : H' a = some (.frz ob u) := l.frz a ob u upd_same
  obtain ⟨rr, er'⟩ := l.pre
  have ha' : φ'[n]? = some a := by
    rw [er', List.getElem?_append_left (List.getElem?_eq_some_iff.mp ha).1]
    exact ha
  obtain ⟨o', vs', hs', sh', rl'⟩ := rs'.lkAt ha' e'
  refine ⟨e', hq b (S'.set n o') φ' v (upd H' a u) ?_ (Le.unlock ha e mu l) (rs'.unlock ha' e' hs') (hrel φ' H' ob b v (List.mem_iff_getElem?.mpr ⟨n, ha'⟩) e' r')⟩
  rw [er, Res.bind_ok]
  exact hk o' vs' b S' sh' hs'
theorem up_dct {β : Type} {n : Nat} {ks : List (Key × V)} (o' : O) (vs' : List V) (x : β) (S' : Store) (sh : Sh G o' vs' (.dK ks)) (h : S'[n]? = some (.lk o')) : unD n x S' = .ok x (S'.set n o') := by
  unfold unD
  rw [h]
  cases o' with
  | dct k2 => rfl
  | lst ds => exact nomatch (show HO.dK ks = .lst vs' from sh)
  | dcT k2 => exact nomatch (show HO.dK ks = .dT ((k2.map (·.1)).zip vs') from sh)
  | ins c fs => obtain ⟨C, dx, _, e'⟩ := sh; cases e'
  | lk o => obtain ⟨ob, u, e', _⟩ := sh; cases e'
theorem up_dcT {β : Type} {n : Nat} {ks : List (List Key × V)} (o' : O) (vs' : List V) (x : β) (S' : Store) (sh : Sh G o' vs' (.dT ks)) (h : S'[n]? = some (.lk o')) : unT n x S' = .ok x (S'.set n o') := by
  unfold unT
  rw [h]
  cases o' with
  | dcT k2 => rfl
  | lst ds => exact nomatch (show HO.dT ks = .lst vs' from sh)
  | dct k2 => exact nomatch (show HO.dT ks = .dK ((k2.map (·.1)).zip vs') from sh)
  | ins c fs => obtain ⟨C, dx, _, e'⟩ := sh; cases e'
  | lk o => obtain ⟨ob, u, e', _⟩ := sh; cases e'
/-- with the lock or without -/
theorem lockR_run {α β : Type} {E : XK} {rel : List Addr → Hp → β → α → Prop} {m : Store → Res β} {c : (α → Hp → Prop) → Hp → Prop} {h : Option Nat} (rs : Rs G R φ S H)
    (hrel : ∀ (a : Addr) (u : HO) (φ' : List Addr) (H' : Hp) (ob : Obj) (b : β) (v : α), a ∈ φ' → H' a = some (.frz ob u) → rel φ' H' b v → rel φ' (upd H' a u) b v)
    (hm : ∀ S1 H1, Le φ H φ H1 → Rs G R φ S1 H1 → Run G E R φ H1 rel (m S1) (fun Q => c Q H1)) :
    Run G E R φ H rel (lockR h m S) (fun Q => c Q H ∨ ∃ d u, H d = some u ∧ Mut (some u) ∧ ∀ ob, c (fun v H' => H' d = some (.frz ob u) ∧ Q v (upd H' d u)) (upd H d (.frz ob u))) := by
  have plain : Run G E R φ H rel (m S) (fun Q => c Q H ∨ ∃ d u, H d = some u ∧ Mut (some u) ∧ ∀ ob, c (fun v H' => H' d = some (.frz ob u) ∧ Q v (upd H' d u)) (upd H d (.frz ob u))) :=
    Run.conv (hm S H Le.refl rs) fun Q q => .inl q
  unfold lockR
  cases h with
  | none => exact plain
  | some n =>
    dsimp only
    cases hs : S[n]? with
    | none => exact plain
    | some o =>
      have hl : n < φ.length := by
        rw [rs.len]
        exact (List.getElem?_eq_some_iff.mp hs).1
      have ha := List.getElem?_eq_getElem hl
      obtain ⟨vs, u, eu, sh, rl⟩ := rs.obj n _ _ hs ha
      cases o with
      | dct kvs =>
        have sh' : u = .dK _ := sh
        subst sh'
        exact Run.conv (lock_run (m := m) (c := c) rs ha hs eu sh rl trivial up_dct (fun φ' H' ob b v => hrel _ _ φ' H' ob b v) fun ob l r => hm _ _ l r) fun Q q => .inr ⟨_, _, eu, trivial, q⟩
      | dcT kvs =>
        have sh' : u = .dT _ := sh
        subst sh'
        exact Run.conv (lock_run (m := m) (c := c) rs ha hs eu sh rl trivial up_dcT (fun φ' H' ob b v => hrel _ _ φ' H' ob b v) fun ob l r => hm _ _ l r) fun Q q => .inr ⟨_, _, eu, trivial, q⟩
      | _ => exact plain
end
section
variable {T : List Addr} {X : Cx} {E : XK} {st : Stmt} {e tg : Expr} {me : ME0} {m : MS0} {pos apos cpos : Pos}
theorem ms_lock {h : Rho → Store → Option Nat} (hm : MS T X E st m) : MS T X E st (sLock h m) := by
  obtain ⟨t, pt, s⟩ := hm
  refine ⟨fun D σ H => t D σ H ∨ tLock t D σ H, ⟨fun pins s σ H D I q => q.elim (pt.run pins s σ H D I) ((ps_lock pt).run pins s σ H D I)⟩, fun σ H ρ φ R S rs rn => ?_⟩
  exact lockR_run (m := fun S' => m ρ S') (c := fun Q H1 => t (endsOf Q) σ H1) rs (fun a u φ' H' ob b v ha e r => RelO.upF ha e r) fun S1 H1 l r => s σ H1 ρ φ R S1 r (rn.le l)
theorem me_lock {h : Rho → Store → Option Nat} (hm : ME T X E e me) : ME T X E e (mLock h me) := by
  obtain ⟨t, pt, s⟩ := hm
  refine ⟨fun σ H Q => t σ H Q ∨ tLockE t σ H Q, ⟨fun pins s σ H D I q => q.elim (pt.run pins s σ H D I) ((pe_lock pt).run pins s σ H D I)⟩, fun σ H ρ φ R S rs rn => ?_⟩
  exact lockR_run (m := fun S' => me ρ S') (c := fun Q H1 => t σ H1 Q) rs (fun a u φ' H' ob b v ha e r => Rv.upF ha e r) fun S1 H1 l r => s σ H1 ρ φ R S1 r (rn.le l)
end
end MM

/-! Walks over locked dicts. -/
namespace MM
open PySem L2
def itK (n : Nat) : ItD := ⟨fun i S => match S[n]? with
  | some (.lk (.dct kvs)) => some (kvs[i]?.map fun kv => keyD kv.1)
  | _ => none⟩
def itKT (n : Nat) : ItD := ⟨fun i S => match S[n]? with
  | some (.lk (.dcT kvs)) => some (kvs[i]?.map fun kv => .tup (kv.1.map keyD))
  | _ => none⟩
def itV (n : Nat) : ItD := ⟨fun i S => match S[n]? with
  | some (.lk (.dct kvs)) => some (kvs[i]?.map fun kv => kv.2)
  | _ => none⟩
def itP (n : Nat) : ItD := ⟨fun i S => match S[n]? with
  | some (.lk (.dct kvs)) => some (kvs[i]?.map fun kv => .tup [keyD kv.1, kv.2])
  | _ => none⟩
section
variable {G : Gd} {R φ φ' : List Addr} {S S' : Store} {H H' : Hp}
theorem zip_at {κ : Type} : ∀ {kvs : List (κ × D)} {vs : List V} (i : Nat), RvL G R φ H (kvs.map (·.2)) vs →
    (kvs[i]? = none ∧ ((kvs.map (·.1)).zip vs)[i]? = none) ∨ ∃ k d v, kvs[i]? = some (k, d) ∧ ((kvs.map (·.1)).zip vs)[i]? = some (k, v) ∧ Rv G R φ H d v
  | [], vs, i, h => .inl ⟨by simp, by simp⟩
  | (k, d) :: r, vs, i, h => by
    rw [List.map_cons] at h
    unfold RvL at h
    obtain ⟨v, t, rfl, h1, h2⟩ := h
    cases i with
    | zero => exact .inr ⟨k, d, v, rfl, rfl, h1⟩
    | succ i =>
      rcases zip_at i h2 with ⟨a, b⟩ | ⟨k', d', v', a, b, c⟩
      · exact .inl ⟨by simpa using a, by simpa using b⟩
      · exact .inr ⟨k', d', v', by simpa using a, by simpa using b, c⟩
theorem none_len {α : Type} {xs : List α} {i : Nat} (h : xs[i]? = none) : xs.length ≤ i := List.getElem?_eq_none_iff.mp h
theorem some_len {α : Type} {xs : List α} {i : Nat} {x : α} (h : xs[i]? = some x) : i < xs.length := (List.getElem?_eq_some_iff.mp h).1
/-- what stands at a locked dict, later too -/
theorem lk_dct {n : Nat} {a : Addr} {ob : Obj} {ks : List (Key × V)} (ha : φ[n]? = some a) (e : H a = some (.frz ob (.dK ks))) {R' φ1 : List Addr} {S1 : Store} {H1 : Hp} (l : Le φ H φ1 H1) (rs : Rs G R' φ1 S1 H1) :
    H1 a = some (.frz ob (.dK ks)) ∧ ∃ kvs vs, S1[n]? = some (.lk (.dct kvs)) ∧ ks = (kvs.map (·.1)).zip vs ∧ RvL G R' φ1 H1 (kvs.map (·.2)) vs := by
  obtain ⟨r, er⟩ := l.pre
  have ha' : φ1[n]? = some a := by
    rw [er, List.getElem?_append_left (List.getElem?_eq_some_iff.mp ha).1]
    exact ha
  have e' := l.frz a ob _ e
  obtain ⟨o, vs, hs, sh, rl⟩ := rs.lkAt ha' e'
  refine ⟨e', ?_⟩
  cases o with
  | dct kvs => exact ⟨kvs, vs, hs, HO.dK.inj (show HO.dK ks = .dK _ from sh), rl⟩
  | lst ds => exact nomatch (show HO.dK ks = .lst vs from sh)
  | dcT k2 => exact nomatch (show HO.dK ks = .dT ((k2.map (·.1)).zip vs) from sh)
  | ins c fs => obtain ⟨C, dx, _, e'⟩ := sh; cases e'
  | lk o => obtain ⟨ob, u, e', _⟩ := sh; cases e'
theorem lk_dcT {n : Nat} {a : Addr} {ob : Obj} {ks : List (List Key × V)} (ha : φ[n]? = some a) (e : H a = some (.frz ob (.dT ks))) {R' φ1 : List Addr} {S1 : Store} {H1 : Hp} (l : Le φ H φ1 H1) (rs : Rs G R' φ1 S1 H1) :
    H1 a = some (.frz ob (.dT ks)) ∧ ∃ kvs vs, S1[n]? = some (.lk (.dcT kvs)) ∧ ks = (kvs.map (·.1)).zip vs ∧ RvL G R' φ1 H1 (kvs.map (·.2)) vs := by
  obtain ⟨r, er⟩ := l.pre
  have ha' : φ1[n]? = some a := by
    rw [er, List.getElem?_append_left (List.getElem?_eq_some_iff.mp ha).1]
    exact ha
  have e' := l.frz a ob _ e
  obtain ⟨o, vs, hs, sh, rl⟩ := rs.lkAt ha' e'
  refine ⟨e', ?_⟩
  cases o with
  | dcT kvs => exact ⟨kvs, vs, hs, HO.dT.inj (show HO.dT ks = .dT _ from sh), rl⟩
  | lst ds => exact nomatch (show HO.dT ks = .lst vs from sh)
  | dct k2 => exact nomatch (show HO.dT ks = .dK ((k2.map (·.1)).zip vs) from sh)
  | ins c fs => obtain ⟨C, dx, _, e'⟩ := sh; cases e'
  | lk o => obtain ⟨ob, u, e', _⟩ := sh; cases e'
theorem key_rv : ∀ k : Key, Rv G R φ H (keyD k) (kV k)
  | .inl i => Rv.int
  | .inr s => Rv.str
theorem relI_K {n : Nat} {a : Addr} {ob : Obj} {ks : List (Key × V)} (ha : φ[n]? = some a) (e : H a = some (.frz ob (.dK ks))) : RelI G R φ H (itK n) (Itk a ob ks) := by
  intro R' hR i φ1 S1 H1 l rs
  obtain ⟨e', kvs, vs, hs, hk, rl⟩ := lk_dct ha e l rs
  have hg : (itK n).get i S1 = some (kvs[i]?.map fun (kv : Key × D) => keyD kv.1) := by
    show (match S1[n]? with
      | some (.lk (.dct kvs)) => some (kvs[i]?.map fun (kv : Key × D) => keyD kv.1)
      | _ => none) = _
    rw [hs]
  rw [hg]
  rcases zip_at i rl with ⟨z1, z2⟩ | ⟨k, d, v, z1, z2, z3⟩
  · rw [z1, Option.map_none]
    refine ⟨fun _ => ⟨e', by rw [hk]; exact none_len z2⟩, fun d q => nomatch q⟩
  · rw [z1, Option.map_some]
    refine ⟨fun q => (nomatch q), fun d' q => ?_⟩
    cases q
    refine ⟨⟨e', by rw [hk]; exact some_len z2⟩, fun x H' hy => ?_⟩
    obtain ⟨rfl, k', v', q1, rfl⟩ := hy
    rw [hk, z2] at q1
    cases q1
    exact ⟨Le.refl, rs, key_rv k⟩
theorem relI_KT {n : Nat} {a : Addr} {ob : Obj} {ks : List (List Key × V)} (ha : φ[n]? = some a) (e : H a = some (.frz ob (.dT ks))) : RelI G R φ H (itKT n) (Itkt a ob ks) := by
  intro R' hR i φ1 S1 H1 l rs
  obtain ⟨e', kvs, vs, hs, hk, rl⟩ := lk_dcT ha e l rs
  have hg : (itKT n).get i S1 = some (kvs[i]?.map fun (kv : List Key × D) => D.tup (kv.1.map keyD)) := by
    show (match S1[n]? with
      | some (.lk (.dcT kvs)) => some (kvs[i]?.map fun (kv : List Key × D) => D.tup (kv.1.map keyD))
      | _ => none) = _
    rw [hs]
  rw [hg]
  rcases zip_at i rl with ⟨z1, z2⟩ | ⟨k, d, v, z1, z2, z3⟩
  · rw [z1, Option.map_none]
    refine ⟨fun _ => ⟨e', by rw [hk]; exact none_len z2⟩, fun d q => nomatch q⟩
  · rw [z1, Option.map_some]
    refine ⟨fun q => (nomatch q), fun d' q => ?_⟩
    cases q
    refine ⟨⟨e', by rw [hk]; exact some_len z2⟩, fun x H' hy => ?_⟩
    obtain ⟨rfl, k', v', p, q1, rfl, q2⟩ := hy
    rw [hk, z2] at q1
    cases q1
    refine ⟨Le.refl, rs, ?_⟩
    unfold Rv
    exact ⟨p, _, rfl, q2, keys_rv k⟩
theorem relI_V {n : Nat} {a : Addr} {ob : Obj} {ks : List (Key × V)} (ha : φ[n]? = some a) (e : H a = some (.frz ob (.dK ks))) : RelI G R φ H (itV n) (Itd a ob ks) := by
  intro R' hR i φ1 S1 H1 l rs
  obtain ⟨e', kvs, vs, hs, hk, rl⟩ := lk_dct ha e l rs
  have hg : (itV n).get i S1 = some (kvs[i]?.map fun (kv : Key × D) => kv.2) := by
    show (match S1[n]? with
      | some (.lk (.dct kvs)) => some (kvs[i]?.map fun (kv : Key × D) => kv.2)
      | _ => none) = _
    rw [hs]
  rw [hg]
  rcases zip_at i rl with ⟨z1, z2⟩ | ⟨k, d, v, z1, z2, z3⟩
  · rw [z1, Option.map_none]
    refine ⟨fun _ => ⟨e', by rw [hk]; exact none_len z2⟩, fun d q => nomatch q⟩
  · rw [z1, Option.map_some]
    refine ⟨fun q => (nomatch q), fun d' q => ?_⟩
    cases q
    refine ⟨⟨e', by rw [hk]; exact some_len z2⟩, fun x H' hy => ?_⟩
    obtain ⟨rfl, k', q1⟩ := hy
    rw [hk, z2] at q1
    cases q1
    exact ⟨Le.refl, rs, z3⟩
theorem relI_P {n : Nat} {a : Addr} {ob : Obj} {ks : List (Key × V)} (ha : φ[n]? = some a) (e : H a = some (.frz ob (.dK ks))) : RelI G R φ H (itP n) (Iti a ob ks) := by
  intro R' hR i φ1 S1 H1 l rs
  obtain ⟨e', kvs, vs, hs, hk, rl⟩ := lk_dct ha e l rs
  have hg : (itP n).get i S1 = some (kvs[i]?.map fun (kv : Key × D) => D.tup [keyD kv.1, kv.2]) := by
    show (match S1[n]? with
      | some (.lk (.dct kvs)) => some (kvs[i]?.map fun (kv : Key × D) => D.tup [keyD kv.1, kv.2])
      | _ => none) = _
    rw [hs]
  rw [hg]
  rcases zip_at i rl with ⟨z1, z2⟩ | ⟨k, d, v, z1, z2, z3⟩
  · rw [z1, Option.map_none]
    refine ⟨fun _ => ⟨e', by rw [hk]; exact none_len z2⟩, fun d q => nomatch q⟩
  · rw [z1, Option.map_some]
    refine ⟨fun q => (nomatch q), fun d' q => ?_⟩
    cases q
    refine ⟨⟨e', by rw [hk]; exact some_len z2⟩, fun x H' hy => ?_⟩
    obtain ⟨t, k', v', q1, rfl, q2, rfl⟩ := hy
    rw [hk, z2] at q1
    cases q1
    have ln := Le.new rs (o := .tup [kV k, v]) q2
    refine ⟨ln, rs.new q2, ?_⟩
    unfold Rv
    exact ⟨t, _, rfl, upd_same, RvL.cons (key_rv k) (RvL.cons (Rv.le ln z3) RvL.nil)⟩
end
/-! ### the rules -/
def miK (me : ME0) : MI0 := fun ρ S => (me ρ S).bind fun d S1 => match d with
  | .ref n => match S1[n]? with
    | some (.lk (.dct _)) => .ok (itK n) S1
    | some (.lk (.dcT _)) => .ok (itKT n) S1
    | _ => .bad
  | _ => .bad
def miKM (me : ME0) : MI0 := fun ρ S => (me ρ S).bind fun d S1 => match d with
  | .ref n => match S1[n]? with
    | some (.lk (.dct _)) => .ok (itK n) S1
    | _ => .bad
  | _ => .bad
def miV (me : ME0) : MI0 := fun ρ S => (me ρ S).bind fun d S1 => match d with
  | .ref n => match S1[n]? with
    | some (.lk (.dct _)) => .ok (itV n) S1
    | _ => .bad
  | _ => .bad
def miP (me : ME0) : MI0 := fun ρ S => (me ρ S).bind fun d S1 => match d with
  | .ref n => match S1[n]? with
    | some (.lk (.dct _)) => .ok (itP n) S1
    | _ => .bad
  | _ => .bad
/-- the object that an expression points at -/
def atRef (me : ME0) : Rho → Store → Option Nat := fun ρ S => match me ρ S with
  | .ok (.ref n) _ => some n
  | _ => none
section
variable {T : List Addr} {X : Cx} {E : XK} {e tg : Expr} {me : ME0} {pos apos cpos : Pos}
theorem lk_at {G : Gd} {R φ : List Addr} {S : Store} {H : Hp} {n : Nat} {v : V} {kvs : List (Key × D)} (rs : Rs G R φ S H) (r : Rv G R φ H (.ref n) v) (h : S[n]? = some (.lk (.dct kvs))) : ∃ a ob ks, v = .ref a ∧ φ[n]? = some a ∧ H a = some (.frz ob (.dK ks)) := by
  obtain ⟨a, rfl, ha⟩ := Rv.ref_of r
  obtain ⟨vs, u, eu, sh, rl⟩ := rs.obj n _ a h ha
  obtain ⟨ob, u', rfl, sh'⟩ := sh
  have sh2 : u' = .dK _ := sh'
  subst sh2
  exact ⟨a, ob, _, rfl, ha, eu⟩
theorem lk_atT {G : Gd} {R φ : List Addr} {S : Store} {H : Hp} {n : Nat} {v : V} {kvs : List (List Key × D)} (rs : Rs G R φ S H) (r : Rv G R φ H (.ref n) v) (h : S[n]? = some (.lk (.dcT kvs))) : ∃ a ob ks, v = .ref a ∧ φ[n]? = some a ∧ H a = some (.frz ob (.dT ks)) := by
  obtain ⟨a, rfl, ha⟩ := Rv.ref_of r
  obtain ⟨vs, u, eu, sh, rl⟩ := rs.obj n _ a h ha
  obtain ⟨ob, u', rfl, sh'⟩ := sh
  have sh2 : u' = .dT _ := sh'
  subst sh2
  exact ⟨a, ob, _, rfl, ha, eu⟩
theorem mi_keys (h : ME T X E e me) : MI T X E tg e (miK me) := by
  obtain ⟨t, pt, s⟩ := h
  refine ⟨_, pi_keys pt, fun σ H ρ φ R S rs rn => Run.bnd (c' := fun (x : V) H1 (Q : It → Hp → Prop) => ∃ d o, x = .ref d ∧ ((∃ kvs, H1 d = some (.frz o (.dK kvs)) ∧ Q (Itk d o kvs) H1) ∨ ∃ kvs, H1 d = some (.frz o (.dT kvs)) ∧ Q (Itkt d o kvs) H1)) (s σ H ρ φ R S rs rn) (fun d S1 φ1 v H1 _ l1 rs1 r1 => ?_) fun Q q => q⟩
  cases d with
  | ref n =>
    dsimp only
    split
    · rename_i kvs hs
      obtain ⟨a, ob, ks, rfl, ha, eu⟩ := lk_at rs1 r1 hs
      exact Run.ret (v := Itk a ob ks) rs1 (relI_K ha eu) fun Q q => ⟨a, ob, rfl, .inl ⟨ks, eu, q⟩⟩
    · rename_i kvs hs
      obtain ⟨a, ob, ks, rfl, ha, eu⟩ := lk_atT rs1 r1 hs
      exact Run.ret (v := Itkt a ob ks) rs1 (relI_KT ha eu) fun Q q => ⟨a, ob, rfl, .inr ⟨ks, eu, q⟩⟩
    · exact Run.bad
  | _ => exact Run.bad
theorem mi_keysM (h : ME T X E e me) (hbase : attributeBase e "keys" X.env (eval e X.env) = eval e X.env := by rfl) (hline : (apos.endLine == cpos.line) = true := by rfl) : MI T X E tg (.Call (.Attribute e "keys" apos) [] [] cpos) (miKM me) := by
  obtain ⟨t, pt, s⟩ := h
  refine ⟨_, pi_keysM pt hbase hline, fun σ H ρ φ R S rs rn => Run.bnd (c' := fun (x : V) H1 (Q : It → Hp → Prop) => ∃ d o kvs, x = .ref d ∧ H1 d = some (.frz o (.dK kvs)) ∧ Q (Itk d o kvs) H1) (s σ H ρ φ R S rs rn) (fun d S1 φ1 v H1 _ l1 rs1 r1 => ?_) fun Q q => q⟩
  cases d with
  | ref n =>
    dsimp only
    split
    · rename_i kvs hs
      obtain ⟨a, ob, ks, rfl, ha, eu⟩ := lk_at rs1 r1 hs
      exact Run.ret (v := Itk a ob ks) rs1 (relI_K ha eu) fun Q q => ⟨a, ob, ks, rfl, eu, q⟩
    · exact Run.bad
  | _ => exact Run.bad
theorem mi_values (h : ME T X E e me) (hbase : attributeBase e "values" X.env (eval e X.env) = eval e X.env := by rfl) (hline : (apos.endLine == cpos.line) = true := by rfl) : MI T X E tg (.Call (.Attribute e "values" apos) [] [] cpos) (miV me) := by
  obtain ⟨t, pt, s⟩ := h
  refine ⟨_, pi_values pt hbase hline, fun σ H ρ φ R S rs rn => Run.bnd (c' := fun (x : V) H1 (Q : It → Hp → Prop) => ∃ d o kvs, x = .ref d ∧ H1 d = some (.frz o (.dK kvs)) ∧ Q (Itd d o kvs) H1) (s σ H ρ φ R S rs rn) (fun d S1 φ1 v H1 _ l1 rs1 r1 => ?_) fun Q q => q⟩
  cases d with
  | ref n =>
    dsimp only
    split
    · rename_i kvs hs
      obtain ⟨a, ob, ks, rfl, ha, eu⟩ := lk_at rs1 r1 hs
      exact Run.ret (v := Itd a ob ks) rs1 (relI_V ha eu) fun Q q => ⟨a, ob, ks, rfl, eu, q⟩
    · exact Run.bad
  | _ => exact Run.bad
theorem mi_items {elts : List Expr} {kk : Nat} {tpos : Pos} (h : ME T X E e me) (hbase : attributeBase e "items" X.env (eval e X.env) = eval e X.env := by rfl) (hline : (apos.endLine == cpos.line) = true := by rfl) : MI T X E (.Tuple elts kk tpos) (.Call (.Attribute e "items" apos) [] [] cpos) (miP me) := by
  obtain ⟨t, pt, s⟩ := h
  refine ⟨_, pi_items pt hbase hline, fun σ H ρ φ R S rs rn => Run.bnd (c' := fun (x : V) H1 (Q : It → Hp → Prop) => ∃ d o kvs, x = .ref d ∧ H1 d = some (.frz o (.dK kvs)) ∧ Q (Iti d o kvs) H1) (s σ H ρ φ R S rs rn) (fun d S1 φ1 v H1 _ l1 rs1 r1 => ?_) fun Q q => q⟩
  cases d with
  | ref n =>
    dsimp only
    split
    · rename_i kvs hs
      obtain ⟨a, ob, ks, rfl, ha, eu⟩ := lk_at rs1 r1 hs
      exact Run.ret (v := Iti a ob ks) rs1 (relI_P ha eu) fun Q q => ⟨a, ob, ks, rfl, eu, q⟩
    · exact Run.bad
  | _ => exact Run.bad
end
end MM

/-! name += number, zip, d.setdefault, dict(..), d.clear(). -/
namespace MM
open PySem L2
/-! ### name += e, numbers -/
def sAug (i : Nat) (g : Int → Int → Int) (me : ME0) : MS0 := fun ρ S => match ρ[i]? with
  | some (some (.int a)) => (me ρ S).bind fun d S1 => match d with
    | .int b => .ok (.nx, ρ.set i (some (.int (g a b)))) S1
    | _ => .bad
  | _ => .bad
section
variable {T : List Addr} {X : Cx} {E : XK} {e : Expr} {me : ME0} {pos : Pos}
theorem aug_snd {G : Gd} {i : Nat} {g : Int → Int → Int} {te : TE} (s : SndE G E te me) : SndS G E (tAug i te (ipI g)) (sAug i g me) := by
  intro σ H ρ φ R S rs rn
  unfold sAug
  split
  · rename_i a hi
    obtain ⟨v, e1, e2⟩ := rn.get i _ hi
    refine Run.bnd (c' := fun (y : V) H1 (Q : Out → Hp → Prop) => ipI g v y H1 fun z H2 => Q (.nx (σ.set i (some z))) H2) (s σ H ρ φ R S rs rn) (fun d S1 φ1 y H1 _ l1 rs1 r1 => ?_) fun Q q => ⟨v, e1, q⟩
    cases d with
    | int b =>
      refine Run.ret (v := Out.nx (σ.set i (some (.int (g a b))))) rs1 (show RelO G R φ1 H1 (.nx, ρ.set i (some (.int (g a b)))) (.nx (σ.set i (some (.int (g a b))))) from (rn.le l1).set Rv.int) fun Q q => ⟨a, b, Rv.int_of e2, Rv.int_of r1, q⟩
    | _ => exact Run.bad
  · exact Run.bad
theorem ms_augAdd {i : Nat} {x : Str} {pos' : Pos} (hN : X.N.Nodup) (hi : X.N[i]? = some x) (he : ME T X E e me) (hx : Loc X.env.scope x := by first | exact Or.inl rfl | exact Or.inr rfl) (hf : X.fn x = true ∨ X.env.scope.names.lookup x = some .local := by first | exact .inl rfl | exact .inr rfl | assumption) :
    MS T X E (.AugAssign (.Name x pos') .Add e pos) (sAug i (fun a b => a + b) me) := by
  obtain ⟨t, pt, s⟩ := he
  exact ⟨_, ps_aug hN hi hx pt ip_add hf, aug_snd s⟩
theorem ms_augSub {i : Nat} {x : Str} {pos' : Pos} (hN : X.N.Nodup) (hi : X.N[i]? = some x) (he : ME T X E e me) (hx : Loc X.env.scope x := by first | exact Or.inl rfl | exact Or.inr rfl) (hf : X.fn x = true ∨ X.env.scope.names.lookup x = some .local := by first | exact .inl rfl | exact .inr rfl | assumption) :
    MS T X E (.AugAssign (.Name x pos') .Sub e pos) (sAug i (fun a b => a - b) me) := by
  obtain ⟨t, pt, s⟩ := he
  exact ⟨_, ps_aug hN hi hx pt ip_sub hf, aug_snd s⟩
end
/-! ### zip -/
def isTup : D → Bool
  | .tup _ => true
  | _ => false
def zipAt (xs ys : List D) (i : Nat) : Option D := match xs[i]?, ys[i]? with
  | some p, some q => some (.tup [p, q])
  | _, _ => none
def itZ (x y : D) : ItD := ⟨fun i S => match seqOf S x, seqOf S y with
  | some xs, some ys => some (zipAt xs ys i)
  | _, _ => none⟩
def miZ (ma : MA0) : MI0 := fun ρ S => (ma ρ S).bind fun ds S1 => match ds with
  | [x, y] => match seqOf S1 x, seqOf S1 y with
    | some _, some _ => if isTup x = isTup y then .ok (itZ x y) S1 else .bad
    | _, _ => .bad
  | _ => .bad
section
variable {G : Gd} {R φ : List Addr} {S : Store} {H : Hp}
theorem seq_kind (rs : Rs G R φ S H) {d : D} {v : V} {ds : List D} (r : Rv G R φ H d v) (e : seqOf S d = some ds) : ∃ a vs, v = .ref a ∧ (if isTup d then SqT G.K H a vs else SqL G.K H a vs) ∧ RvL G R φ H ds vs := by
  cases d with
  | tup xs =>
    cases e
    obtain ⟨a, vs, rfl, h1, h2⟩ := Rv.tup_at r
    exact ⟨a, vs, rfl, by show SqT G.K H a vs; exact .inl (.inl h1), h2⟩
  | lst xs =>
    cases e
    obtain ⟨a, vs, rfl, _, _, h1, h2⟩ := Rv.lst_of r
    exact ⟨a, vs, rfl, by show SqL G.K H a vs; exact .inl (.inl h1), h2⟩
  | frz xs =>
    cases e
    obtain ⟨a, vs, rfl, h1, h2⟩ := Rv.frz_of r
    exact ⟨a, vs, rfl, by show SqL G.K H a vs; exact h1.sq, h2⟩
  | ref n =>
    obtain ⟨a, vs, rfl, _, h1, h2⟩ := rs.lst r (lstAt_of e)
    exact ⟨a, vs, rfl, by show SqL G.K H a vs; exact .inl (.inl h1), h2⟩
  | _ => cases e
theorem relI_Z {x y : D} {a b : Addr} (rx : Rv G R φ H x (.ref a)) (ry : Rv G R φ H y (.ref b)) (hk : isTup x = isTup y) : RelI G R φ H (itZ x y) (if isTup x then RZ.ItzT G.K a b else Itz G.K a b) := by
  intro R' hR i φ1 S1 H1 l rs
  cases hx : seqOf S1 x with
  | none =>
    have : (itZ x y).get i S1 = none := by
      show (match seqOf S1 x, seqOf S1 y with
        | some xs, some ys => some (zipAt xs ys i)
        | _, _ => none) = none
      rw [hx]
    rw [this]
    exact ⟨fun z => (nomatch z), fun d z => (nomatch z)⟩
  | some xs =>
    cases hy : seqOf S1 y with
    | none =>
      have : (itZ x y).get i S1 = none := by
        show (match seqOf S1 x, seqOf S1 y with
          | some xs, some ys => some (zipAt xs ys i)
          | _, _ => none) = none
        rw [hx, hy]
      rw [this]
      exact ⟨fun z => (nomatch z), fun d z => (nomatch z)⟩
    | some ys =>
      have hg : (itZ x y).get i S1 = some (zipAt xs ys i) := by
        show (match seqOf S1 x, seqOf S1 y with
          | some xs, some ys => some (zipAt xs ys i)
          | _, _ => none) = _
        rw [hx, hy]
      rw [hg]
      obtain ⟨a', vs, ea, h1, h2⟩ := seq_kind rs (Rv.le l (Rv.reR hR rx)) hx
      obtain ⟨b', us, eb, h3, h4⟩ := seq_kind rs (Rv.le l (Rv.reR hR ry)) hy
      cases ea
      cases eb
      rw [← hk] at h3
      have lx := RvL.length h2
      have ly := RvL.length h4
      have key : ∀ (d : D), zipAt xs ys i = some d → ∃ p q v u, d = .tup [p, q] ∧ vs[i]? = some v ∧ us[i]? = some u ∧ Rv G R' φ1 H1 p v ∧ Rv G R' φ1 H1 q u := fun d e => by
        unfold zipAt at e
        cases hp : xs[i]? with
        | none => rw [hp] at e; cases e
        | some p =>
          cases hq : ys[i]? with
          | none => rw [hp, hq] at e; cases e
          | some q =>
            rw [hp, hq] at e
            cases e
            obtain ⟨v, e1, e2⟩ := RvL.get h2 hp
            obtain ⟨u, e3, e4⟩ := RvL.get h4 hq
            exact ⟨p, q, v, u, rfl, e1, e3, e2, e4⟩
      have stop : zipAt xs ys i = none → vs.length ≤ i ∨ us.length ≤ i := fun e => by
        unfold zipAt at e
        cases hp : xs[i]? with
        | none => exact .inl (by rw [← lx]; exact none_len hp)
        | some p =>
          cases hq : ys[i]? with
          | none => exact .inr (by rw [← ly]; exact none_len hq)
          | some q => rw [hp, hq] at e; cases e
      cases ht : isTup x with
      | true =>
        rw [ht] at h1 h3
        refine ⟨fun z => ⟨vs, us, h1, h3, stop (Option.some.inj z)⟩, fun d z => ?_⟩
        obtain ⟨p, q, v, u, rfl, e1, e3, e2, e4⟩ := key d (Option.some.inj z)
        refine ⟨⟨vs, us, v, u, h1, h3, e1, e3⟩, fun x H' hy => ?_⟩
        obtain ⟨t, v', u', rfl, ht', rfl, k1, k2⟩ := hy
        have q1 := k1 vs h1
        have q2 := k2 us h3
        rw [e1] at q1
        rw [e3] at q2
        cases q1
        cases q2
        have ln := Le.new rs (o := .tup [v, u]) ht'
        refine ⟨ln, rs.new ht', ?_⟩
        unfold Rv
        exact ⟨t, _, rfl, upd_same, RvL.cons (Rv.le ln e2) (RvL.cons (Rv.le ln e4) RvL.nil)⟩
      | false =>
        rw [ht] at h1 h3
        refine ⟨fun z => ⟨vs, us, h1, h3, stop (Option.some.inj z)⟩, fun d z => ?_⟩
        obtain ⟨p, q, v, u, rfl, e1, e3, e2, e4⟩ := key d (Option.some.inj z)
        refine ⟨⟨vs, us, v, u, h1, h3, e1, e3⟩, fun x H' hy => ?_⟩
        obtain ⟨t, v', u', rfl, ht', rfl, k1, k2⟩ := hy
        have q1 := k1 vs h1
        have q2 := k2 us h3
        rw [e1] at q1
        rw [e3] at q2
        cases q1
        cases q2
        have ln := Le.new rs (o := .tup [v, u]) ht'
        refine ⟨ln, rs.new ht', ?_⟩
        unfold Rv
        exact ⟨t, _, rfl, upd_same, RvL.cons (Rv.le ln e2) (RvL.cons (Rv.le ln e4) RvL.nil)⟩
end
section
variable {T : List Addr} {X : Cx} {E : XK} {e e2 o f : Expr} {ma : MA0} {mo mk mx : ME0} {p pos apos cpos : Pos}
theorem mi_zip {elts : List Expr} {kk : Nat} {tpos : Pos} (hg : Gl X "zip") (hm : X.mg "zip" = none) (ha : MA T X E [e, e2] ma)
    (hs : starEach [e, e2] X.env = (false, eval e X.env) :: starEach [e2] X.env := by rfl) (hpl : (backTo pos (starEach [e2] X.env)).any (·.1) = false := by rfl) :
    MI T X E (.Tuple elts kk tpos) (.Call (.Name "zip" p) [e, e2] [] pos) (miZ ma) := by
  obtain ⟨t, pt, s⟩ := ha
  refine ⟨_, RZ.pi_zipA hg hm pt hs hpl, fun σ H ρ φ R S rs rn => Run.bnd (c' := fun (vs : List V) H1 (Q : It → Hp → Prop) => ∃ a b xs ys, vs = [.ref a, .ref b] ∧ ((SqL X.K H1 a xs ∧ SqL X.K H1 b ys ∧ Q (Itz X.K a b) H1) ∨ (SqT X.K H1 a xs ∧ SqT X.K H1 b ys ∧ Q (RZ.ItzT X.K a b) H1))) (s σ H ρ φ R S rs rn) (fun ds S1 φ1 vs H1 _ l1 rs1 r1 => ?_) fun Q q => q⟩
  split
  · rename_i x y _
    obtain ⟨v, r, rfl, r2, r3⟩ := (show ∃ v r, vs = v :: r ∧ Rv (X.gd T) R φ1 H1 x v ∧ RvL (X.gd T) R φ1 H1 [y] r by unfold RvL at r1; exact r1)
    obtain ⟨u, rfl, r4⟩ := RvL.one_of r3
    split
    · rename_i xs ys hx hy
      split
      · rename_i hk
        obtain ⟨a, vs, rfl, h1, h2⟩ := seq_kind rs1 r2 hx
        obtain ⟨b, us, rfl, h3, h4⟩ := seq_kind rs1 r4 hy
        have rel := relI_Z r2 r4 hk
        rw [← hk] at h3
        cases ht : isTup x with
        | true =>
          rw [ht] at h1 h3 rel
          exact Run.ret (v := RZ.ItzT X.K a b) rs1 rel fun Q q => ⟨a, b, vs, us, rfl, .inr ⟨h1, h3, q⟩⟩
        | false =>
          rw [ht] at h1 h3 rel
          exact Run.ret (v := Itz X.K a b) rs1 rel fun Q q => ⟨a, b, vs, us, rfl, .inl ⟨h1, h3, q⟩⟩
      · exact Run.bad
    · exact Run.bad
  · exact Run.bad
/-! ### d.setdefault(k, x) -/
def dK (S : Store) : D → Option (List (Key × D))
  | .ref n => match S[n]? with
    | some (.dct kvs) => some kvs
    | _ => none
  | _ => none
theorem dK_of {G : Gd} {R φ : List Addr} {S : Store} {H : Hp} {d : D} {v : V} {kvs : List (Key × D)} (rs : Rs G R φ S H) (r : Rv G R φ H d v) (h : dK S d = some kvs) : ∃ n a vs, d = .ref n ∧ v = .ref a ∧ φ[n]? = some a ∧ S[n]? = some (.dct kvs) ∧ H a = some (.dK ((kvs.map (·.1)).zip vs)) ∧ RvL G R φ H (kvs.map (·.2)) vs := by
  cases d with
  | ref n =>
    unfold dK at h
    dsimp only at h
    cases hs : S[n]? with
    | none => rw [hs] at h; cases h
    | some o =>
      rw [hs] at h
      cases o with
      | dct k =>
        cases h
        obtain ⟨a, rfl, ha⟩ := Rv.ref_of r
        obtain ⟨vs, u, eu, sh, rl⟩ := rs.obj n _ a hs ha
        have sh' : u = .dK _ := sh
        subst sh'
        exact ⟨n, a, vs, rfl, rfl, ha, hs, eu, rl⟩
      | _ => cases h
  | _ => cases h
def mSetd (mo mk mx : ME0) : ME0 := fun ρ S => (mo ρ S).bind fun o S1 => match dK S1 o with
  | none => .bad
  | some _ => (mk ρ S1).bind fun y S2 => (mx ρ S2).bind fun z S3 => match o, dK S3 o, keyOf y with
    | .ref n, some kvs, some k => if kvs.length < sizeLine then match alook kvs k with
        | some d => .ok d S3
        | none => .ok z (S3.set n (.dct (aput kvs k z)))
      else .bad
    | _, _, _ => .bad
theorem me_setd (ho : ME T X E o mo) (hk : ME T X E e mk) (hx : ME T X E f mx) (m : M2 X o "setdefault" apos e f cpos) : ME T X E (.Call (.Attribute o "setdefault" apos) [e, f] [] cpos) (mSetd mo mk mx) := by
  obtain ⟨to, po, so⟩ := ho
  obtain ⟨tk, pk, sk⟩ := hk
  obtain ⟨tx, px, sx⟩ := hx
  refine ⟨_, pe_dsetd po pk px m, fun σ H ρ φ R S rs rn => ?_⟩
  refine Run.bnd (c' := fun (x : V) H1 (Q : VK) => ∃ a, x = .ref a ∧ IsD H1 a ∧ tk σ H1 fun y H2 => tx σ H2 fun z H3 => ∃ (kvs : List (Key × V)) (k : Key), H3 a = some (.dK kvs) ∧ y = kV k ∧ kvs.length < sizeLine ∧
    (∀ v, valV kvs k = some v → Q v H3) ∧ (valV kvs k = none → Q z (upd H3 a (.dK (putK kvs k z))))) (so σ H ρ φ R S rs rn) (fun d S1 φ1 x H1 _ l1 rs1 r1 => ?_) fun Q q => q
  split
  · exact Run.bad
  · rename_i kv0 h0
    obtain ⟨n, a, vs0, rfl, rfl, ha, hs0, e0, _⟩ := dK_of rs1 r1 h0
    refine Run.bnd (c' := fun (y : V) H2 (Q : VK) => tx σ H2 fun z H3 => ∃ (kvs : List (Key × V)) (k : Key), H3 a = some (.dK kvs) ∧ y = kV k ∧ kvs.length < sizeLine ∧
      (∀ v, valV kvs k = some v → Q v H3) ∧ (valV kvs k = none → Q z (upd H3 a (.dK (putK kvs k z))))) (sk σ H1 ρ φ1 R S1 rs1 (rn.le l1)) (fun y S2 φ2 yv H2 _ l2 rs2 r2 => ?_) fun Q q => ⟨a, rfl, .inl ⟨_, .inl e0⟩, q⟩
    refine Run.bnd (c' := fun (z : V) H3 (Q : VK) => ∃ (kvs : List (Key × V)) (k : Key), H3 a = some (.dK kvs) ∧ yv = kV k ∧ kvs.length < sizeLine ∧
      (∀ v, valV kvs k = some v → Q v H3) ∧ (valV kvs k = none → Q z (upd H3 a (.dK (putK kvs k z))))) (sx σ H2 ρ φ2 R S2 rs2 (rn.le (l1.trans l2))) (fun z S3 φ3 zv H3 _ l3 rs3 r3 => ?_) fun Q q => q
    split
    · rename_i n' kvs k eo hd hk
      cases eo
      obtain ⟨n2, a2, vs, en, ea, ha3, hs3, eu, rl⟩ := dK_of rs3 (Rv.le (l2.trans l3) r1) hd
      cases en
      cases ea
      have ek := keyOf_v (Rv.le l3 r2) hk
      subst ek
      have ll : (kvs.map (·.1)).length = vs.length := by
        have := RvL.length rl
        rw [List.length_map] at this ⊢
        exact this
      split
      · rename_i hl
        have hl' : ((kvs.map (·.1)).zip vs).length < sizeLine := by rw [zip_len ll, List.length_map]; exact hl
        rcases alook_rel k rl with ⟨h1, h2⟩ | ⟨d, v, h1, h2, h3⟩
        · rw [h1]
          intro Q hq _ _
          have lw : Le φ3 H3 φ3 (upd H3 a (.dK (putK ((kvs.map (·.1)).zip vs) k zv))) := Le.write rs3 ha3 (nfz eu (fun _ _ z => nomatch z))
          obtain ⟨us, u1, u2⟩ := aput_rel (k := k) (Rv.le lw r3) (kvs := kvs) (RvL.le lw rl)
          refine ⟨_, k, eu, rfl, hl', fun v e => ?_, fun _ => ?_⟩
          · rw [h2] at e
            cases e
          · refine hq z (S3.set n (.dct (aput kvs k z))) φ3 zv _ rfl lw (rs3.write (o := .dct (aput kvs k z)) ha3 (nfz eu (fun _ _ z => nomatch z)) ⟨us, _, upd_same, ?_, u1⟩) (Rv.le lw r3)
            show HO.dK _ = HO.dK _
            rw [u2]
        · rw [h1]
          intro Q hq _ _
          refine ⟨_, k, eu, rfl, hl', fun v' e => ?_, fun e => ?_⟩
          · rw [h2] at e
            cases e
            exact hq d S3 φ3 v H3 rfl Le.refl rs3 h3
          · rw [h2] at e
            cases e
      · exact Run.bad
    · exact Run.bad
/-! ### d.clear() -/
def fClear : D → Store → Res D := fun d S => match d, dK S d with
  | .ref n, some _ => .ok .non (S.set n (.dct []))
  | _, _ => .bad
theorem me_clear (ho : ME T X E o mo) (hbase : attributeBase o "clear" X.env (eval o X.env) = eval o X.env := by rfl) (hline : (apos.endLine == cpos.line) = true := by rfl) : ME T X E (.Call (.Attribute o "clear" apos) [] [] cpos) (mUn fClear mo) := by
  obtain ⟨to, po, so⟩ := ho
  refine ⟨_, pe_dclear po hbase hline, fun σ H ρ φ R S rs rn => Run.bnd (c' := fun (x : V) H1 (Q : VK) => tyV X.K "dict" x H1 ∧ rDClear x [] H1 Q) (so σ H ρ φ R S rs rn) (fun d S1 φ1 x H1 _ l1 rs1 r1 => ?_) fun Q q => q⟩
  unfold fClear
  split
  · rename_i n kvs _ hd
    obtain ⟨n2, a, vs, en, rfl, ha, hs, eu, rl⟩ := dK_of rs1 r1 hd
    cases en
    intro Q hq _ _
    have nf := nfz eu (fun _ _ z => nomatch z)
    exact ⟨.inr (.inr (.inl ⟨rfl, .inl ⟨_, eu⟩⟩)), a, _, rfl, rfl, eu, hq .non (S1.set n (.dct [])) φ1 .non _ rfl (Le.write rs1 ha nf) (rs1.write (o := .dct []) ha nf ⟨[], _, upd_same, rfl, RvL.nil⟩) Rv.non⟩
  · exact Run.bad
end
end MM

/-! list(d.values()), dict(..). -/
namespace MM
open PySem PySem.Spec PyProof.Rows L2
theorem vals_at : ∀ {us : List Value} {xs : List V}, us.length = xs.length → (∀ (j : Nat) (v : Value), us[j]? = some v → ∃ x, xs[j]? = some x ∧ RelV x v) → Vals xs us
  | [], [], _, _ => .nil
  | [], x :: xs, h, _ => by cases h
  | u :: us, [], h, _ => by cases h
  | u :: us, x :: xs, h, g => by
    obtain ⟨y, e, r⟩ := g 0 u rfl
    cases e
    exact .cons r (vals_at (by simpa using h) fun j v e => by
      obtain ⟨x', e1, e2⟩ := g (j + 1) v (by simpa using e)
      exact ⟨x', by simpa using e1, e2⟩)
def tListVals (td : TE) : TE := fun σ H Q => td σ H fun x H1 => ∃ (a : Addr) (kvs : List (Key × V)), [x] = [V.ref a] ∧ Rd H1 a (.dK kvs) ∧ ∀ p, H1 p = none → Q (.ref p) (upd H1 p (.lst (kvs.map (·.2))))
section
variable {X : Cx} {o : Expr} {td : TE} {p pos apos mpos : Pos}
theorem pe_listVals (hc : X.calm = true) (hg : Gl X "list") (hm : X.mg "list" = none) (hd : PE X o td) (hbase : attributeBase o "values" X.env (eval o X.env) = eval o X.env := by rfl) (hline : (apos.endLine == mpos.line) = true := by rfl)
    (hse : starEach [Expr.Call (.Attribute o "values" apos) [] [] mpos] X.env = [(false, eval (Expr.Call (.Attribute o "values" apos) [] [] mpos) X.env)] := by rfl) :
    PE X (.Call (.Name "list" p) [.Call (.Attribute o "values" apos) [] [] mpos] [] pos) (tListVals td) := by
  refine ⟨fun pins s σ H Q I h => ?_⟩
  refine wpAny_Call_Name_kw (ld_blt I hg hm (u := .type "list") (by first | rfl | decide +kernel) ?_ (by first | decide +kernel | decide) (by first | decide +kernel | decide))
  rw [hse]
  refine PySem.callWith_type1 (wpAny_Call_method0_late hbase hline (thn (hd.run pins s σ H _ I h) fun v s1 ⟨x, H1, I1, r1, a, kvs, ex, ha, q⟩ => ?_))
  obtain rfl := (List.cons.inj ex).1
  obtain rfl : v = Value.ref a := r1
  obtain ⟨hz, hsys, vs, rel, dof⟩ := dk_rd I1.hok ha
  obtain ⟨ep, dat⟩ := dof.dictAt
  have dat' := dat
  obtain ⟨ob, es, ho, ex, hdat, hko, hpr, hnd⟩ := dat'
  refine ⟨"dict", "dict.values", F.plainAttrs_dict, F.slot_dict_values, F.type_dict_values, ⟨ob, ho, ex.1⟩, fun b e => ?_, Calls.callWith_builtin rfl (PySem.evalArgs_none ?_)⟩
  · cases e
    exact ⟨ob, ho, ex.2.1⟩
  refine call_meetsIn F.slot_dict_values ⟨ob, ho, ex.1⟩ F.entry_dict_values (F.args_dict_values_1 _) (meets_dict_values (mixKind X.prog X.w) a hsys) ⟨⟨vs, dof⟩, ?_⟩
  have k1 : ∀ b u, s1.heap.get? b = some u → (s1.heap.push { cls := .type "dict_values", data := .fields #[.ref a] }).get? b = some u := fun b u e => Heap.get?_push_of_some _ e
  have dat1 : (s1.heap.push { cls := .type "dict_values", data := .fields #[.ref a] }).DictAt (mixKind X.prog X.w) a vs ep := dat.keep k1
  have I2 : Inv X pins σ H1 { s1 with heap := s1.heap.push { cls := .type "dict_values", data := .fields #[.ref a] } } := I1.kept (t' := s1.toks) k1
  refine PySem.W.kdl_call (s := { s1 with heap := s1.heap.push { cls := .type "dict_values", data := .fields #[.ref a] } }) (PySem.W.kdl_values (r := s1.heap.objs.size) (d := a) (knd := mixKind X.prog X.w) (kvs := vs) (ep := ep)) (I.ok.hd hc) ⟨⟨_, Heap.get?_push_size _ rfl, rfl, rfl⟩, dat1⟩ (by rw [← rel.length]; exact hz) fun h' tk acc c' hk hD hacc => ?_
  have hv : Vals (kvs.map (·.2)) acc.toList := vals_at (by rw [Array.length_toList, hacc.1, List.length_map]; exact rel.length.symm) fun j v e => by
    obtain ⟨k, hk'⟩ := hacc.2 j v (by rw [← Array.getElem?_toList]; exact e)
    obtain ⟨x, h1, h2⟩ := KV.at' rel hk'
    exact ⟨x, by rw [List.getElem?_map, h1]; rfl, h2⟩
  refine ⟨.ref _, upd H1 _ (.lst (kvs.map (·.2))), I2.laid (t' := tk) hk (Nat.le_refl _)
    (show ObjOk X.prog X.w _ _ _ (.lst (kvs.map (·.2))) from ⟨by rw [List.length_map]; exact hz, acc.toList, c', hv, by rw [Array.toArray_toList]; exact hD⟩), rfl, q _ (I2.hok.fresh (Nat.le_refl _))⟩
end
/-! ### the mirrors -/
def lVals : List D → Store → Option (List D) := fun ds S => match ds with
  | [d] => (dctAt S d).map fun kvs => kvs.map fun kv => kv.2
  | _ => none
section
variable {G : Gd} {E : XK} {R φ : List Addr} {S : Store} {H : Hp}
theorem snd_zip {κ : Type} : ∀ {kvs : List (κ × D)} {vs : List V}, kvs.length = vs.length → ((kvs.map (·.1)).zip vs).map (·.2) = vs
  | [], vs, h => by
    cases vs with
    | nil => rfl
    | cons v r => cases h
  | p :: r, [], h => by cases h
  | p :: r, v :: vs, h => by
    rw [List.map_cons, List.zip_cons_cons, List.map_cons, snd_zip (by simpa using h)]
theorem fr_vals : Fresh G (fun xs H Q => ∃ (a : Addr) (kvs : List (Key × V)), xs = [V.ref a] ∧ Rd H a (.dK kvs) ∧ ∀ p, H p = none → Q (.ref p) (upd H p (.lst (kvs.map (·.2))))) lVals := by
  intro R φ S H ds xs es rs rv he
  unfold lVals at he
  split at he
  · obtain ⟨kvs, e1, e2⟩ := Option.map_eq_some_iff.mp he
    obtain ⟨v, rfl, h1⟩ := RvL.one_of rv
    obtain ⟨n, a, vs, rfl, rfl, ha, h2, h3⟩ := dct_of rs h1 e1
    have hl : kvs.length = vs.length := by
      have := RvL.length h3
      rw [List.length_map] at this
      exact this
    subst e2
    refine ⟨vs, h3, fun Q q => ⟨a, _, rfl, h2, ?_⟩⟩
    rw [snd_zip hl]
    exact q
  · cases he
/-- a new dict -/
def fDict : List D → Store → Res D := fun ds S => match ds with
  | [d] => match dctAt S d with
    | some kvs => .ok (.ref S.length) (S ++ [.dct kvs])
    | none => .bad
  | _ => .bad
theorem o_dictD : OpL G E (fun xs H Q => ∃ (a : Addr) (kvs : List (Key × V)), xs = [V.ref a] ∧ Rd H a (.dK kvs) ∧ ∀ p, H p = none → Q (.ref p) (upd H p (.dK kvs))) fDict := by
  intro R φ S H ds xs rs rv
  unfold fDict
  split
  · split
    · rename_i d kvs e1
      obtain ⟨v, rfl, h1⟩ := RvL.one_of rv
      obtain ⟨n, a, vs, rfl, rfl, ha, h2, h3⟩ := dct_of rs h1 e1
      exact Run.alloc (o := HO.dK ((kvs.map fun (p : Key × D) => p.1).zip vs)) (o' := .dct kvs) rs (fun p hp => ⟨vs, _, upd_same, rfl, RvL.le (Le.alloc rs hp) h3⟩) fun Q q => ⟨a, _, rfl, h2, q⟩
    · exact Run.bad
  · exact Run.bad
def prsOf : List D → Option (List (D × D))
  | [] => some []
  | .tup [x, y] :: r => (prsOf r).map fun s => (x, y) :: s
  | _ => none
theorem prs_rel : ∀ {ds : List D} {vs : List V} {qs : List (D × D)}, RvL G R φ H ds vs → prsOf ds = some qs → ∃ (ps : List Addr) (us : List (V × V)), vs = ps.map V.ref ∧ Paired (fun p u => SqT G.K H p [u.1, u.2]) ps us ∧ RvL G R φ H (qs.map (·.1)) (us.map (·.1)) ∧ RvL G R φ H (qs.map (·.2)) (us.map (·.2))
  | [], vs, qs, h, e => by
    cases e
    unfold RvL at h
    subst h
    exact ⟨[], [], rfl, .nil, RvL.nil, RvL.nil⟩
  | d :: ds, vs, qs, h, e => by
    unfold RvL at h
    obtain ⟨v, r, rfl, h1, h2⟩ := h
    unfold prsOf at e
    split at e
    · cases ‹_ = []›
    · rename_i x y r' he
      obtain ⟨rfl, rfl⟩ := List.cons.inj he
      obtain ⟨s, e1, rfl⟩ := Option.map_eq_some_iff.mp e
      obtain ⟨ps, us, rfl, b1, b2, b3⟩ := prs_rel h2 e1
      obtain ⟨a, ws, rfl, c1, c2⟩ := Rv.tup_at h1
      obtain ⟨w1, t1, rfl, d1, d2⟩ := (show ∃ v t, ws = v :: t ∧ Rv G R φ H x v ∧ RvL G R φ H [y] t by unfold RvL at c2; exact c2)
      obtain ⟨w2, rfl, d3⟩ := RvL.one_of d2
      exact ⟨a :: ps, (w1, w2) :: us, rfl, .cons (.inl (.inl c1)) b1, RvL.cons d1 b2, RvL.cons d3 b3⟩
    · cases e
def fDictP : List D → Store → Res D := fun ds S => match ds with
  | [d] => match lstOf S d with
    | some es => match prsOf es with
      | some qs => match pkeys qs with
        | some kvs => .ok (.ref S.length) (S ++ [.dct (putAll [] kvs)])
        | none => .bad
      | none => .bad
    | none => .bad
  | _ => .bad
theorem paired_map {α β γ : Type} {P : α → γ → Prop} {f : β → γ} : ∀ {xs : List α} {ys : List β}, Paired P xs (ys.map f) → Paired (fun x y => P x (f y)) xs ys
  | [], [], _ => .nil
  | [], y :: ys, h => by cases h
  | x :: xs, [], h => by cases h
  | x :: xs, y :: ys, h => by
    cases h with
    | cons h1 h2 => exact .cons h1 (paired_map h2)
theorem o_dictP : OpL G E (fun xs H Q => ∃ (a : Addr) (ps : List Addr) (kvs : List (Key × V)), xs = [V.ref a] ∧ SqL G.K H a (ps.map V.ref) ∧ Paired (fun p kv => SqT G.K H p [kV kv.1, kv.2]) ps kvs ∧
    ∀ p, H p = none → Q (.ref p) (upd H p (.dK (mergeK [] kvs)))) fDictP := by
  intro R φ S H ds xs rs rv
  unfold fDictP
  split
  · rename_i d
    split
    · rename_i es he
      split
      · rename_i qs hq
        split
        · rename_i kvs hk
          obtain ⟨v, rfl, h1⟩ := RvL.one_of rv
          obtain ⟨a, vs, rfl, h2, h3⟩ := lst_of rs h1 he
          obtain ⟨ps, us, rfl, b1, b2, b3⟩ := prs_rel h3 hq
          obtain ⟨ws, c1, c2, c3⟩ := pkeys_rel b2 b3 hk
          subst c1
          obtain ⟨zs, z1, z2⟩ := merge_rel (kvs := kvs) (ws := ws) (acc := []) (us := []) c2 RvL.nil
          have z2' : mergeK [] ((kvs.map (·.1)).zip ws) = ((putAll [] kvs).map (·.1)).zip zs := z2
          exact Run.alloc (o := .dK (mergeK [] ((kvs.map (·.1)).zip ws))) (o' := .dct (putAll [] kvs)) rs (fun p hp => ⟨zs, _, upd_same, by rw [z2']; rfl, RvL.le (Le.alloc rs hp) z1⟩) fun Q q => ⟨a, ps, _, rfl, h2, paired_map (P := fun (p : Addr) (u : V × V) => SqT G.K H p [u.1, u.2]) b1, q⟩
        · exact Run.bad
      · exact Run.bad
    · exact Run.bad
  · exact Run.bad
end
section
variable {T : List Addr} {X : Cx} {E : XK} {e o : Expr} {mo : ME0} {mr : MA0} {p pos apos mpos : Pos}
theorem me_listVals (hc : X.calm = true) (hg : Gl X "list") (hm : X.mg "list" = none) (ho : ME T X E o mo) (hbase : attributeBase o "values" X.env (eval o X.env) = eval o X.env := by rfl) (hline : (apos.endLine == mpos.line) = true := by rfl)
    (hse : starEach [Expr.Call (.Attribute o "values" apos) [] [] mpos] X.env = [(false, eval (Expr.Call (.Attribute o "values" apos) [] [] mpos) X.env)] := by rfl) :
    ME T X E (.Call (.Name "list" p) [.Call (.Attribute o "values" apos) [] [] mpos] [] pos) (mUn (fun d S => frL lVals [d] S) mo) := by
  obtain ⟨t, pt, s⟩ := ho
  refine ⟨_, pe_listVals hc hg hm pt hbase hline hse, fun σ H ρ φ R S rs rn => ?_⟩
  refine Run.bnd (c' := fun (x : V) H1 (Q : VK) => ∃ (a : Addr) (kvs : List (Key × V)), [x] = [V.ref a] ∧ Rd H1 a (.dK kvs) ∧ ∀ p, H1 p = none → Q (.ref p) (upd H1 p (.lst (kvs.map fun (p : Key × V) => p.2)))) (s σ H ρ φ R S rs rn) (fun d S1 φ1 x H1 _ l1 rs1 r1 => fr_vals.l R φ1 S1 H1 [d] [x] rs1 (RvL.cons r1 RvL.nil)) fun Q q => q
theorem me_listValsS (hc : X.calm = true) (hg : Gl X "list") (hm : X.mg "list" = none) (ho : ME T X E o mo) (hbase : attributeBase o "values" X.env (eval o X.env) = eval o X.env := by rfl) (hline : (apos.endLine == mpos.line) = true := by rfl)
    (hse : starEach [Expr.Call (.Attribute o "values" apos) [] [] mpos] X.env = [(false, eval (Expr.Call (.Attribute o "values" apos) [] [] mpos) X.env)] := by rfl) :
    ME T X E (.Call (.Name "list" p) [.Call (.Attribute o "values" apos) [] [] mpos] [] pos) (mUn (fun d S => frS lVals [d] S) mo) := by
  obtain ⟨t, pt, s⟩ := ho
  refine ⟨_, pe_listVals hc hg hm pt hbase hline hse, fun σ H ρ φ R S rs rn => ?_⟩
  refine Run.bnd (c' := fun (x : V) H1 (Q : VK) => ∃ (a : Addr) (kvs : List (Key × V)), [x] = [V.ref a] ∧ Rd H1 a (.dK kvs) ∧ ∀ p, H1 p = none → Q (.ref p) (upd H1 p (.lst (kvs.map fun (p : Key × V) => p.2)))) (s σ H ρ φ R S rs rn) (fun d S1 φ1 x H1 _ l1 rs1 r1 => fr_vals.s R φ1 S1 H1 [d] [x] rs1 (RvL.cons r1 RvL.nil)) fun Q q => q
theorem me_dict (hg : Gl X "dict") (hm : X.mg "dict" = none) (ha : MAn T X E [e] mr) (he : starEach [e] X.env = (false, eval e X.env) :: starEach [] X.env := by rfl) (hpl : (backTo pos (starEach [] X.env)).any (·.1) = false := by rfl) :
    ME T X E (.Call (.Name "dict" p) [e] [] pos) (mCall fDict mr) := me_cty call_dictD o_dictD hg hm (by decide +kernel) ha (by decide) (by decide) he hpl
theorem me_dictP (hc : X.calm = true) (hg : Gl X "dict") (hm : X.mg "dict" = none) (ha : MAn T X E [e] mr) (he : starEach [e] X.env = (false, eval e X.env) :: starEach [] X.env := by rfl) (hpl : (backTo pos (starEach [] X.env)).any (·.1) = false := by rfl) :
    ME T X E (.Call (.Name "dict" p) [e] [] pos) (mCall fDictP mr) := me_cty (call_dictP hc) o_dictP hg hm (by decide +kernel) ha (by decide) (by decide) he hpl
end
end MM

/-! list(d.items()). -/
namespace MM
open PySem PySem.Spec PyProof.Rows L2
def fItems : D → Store → Res D := fun d S => match d with
  | .ref n => match S[n]? with
    | some (.dct kvs) => .ok (.lst (kvs.map fun kv => D.tup [keyD kv.1, kv.2])) S
    | _ => .bad
  | _ => .bad
section
variable {G : Gd} {R φ : List Addr} {S : Store} {H H' : Hp}
theorem Le.grow (k : ∀ b o, H b = some o → H' b = some o) : Le φ H φ H' where
  pre := ⟨[], (List.append_nil _).symm⟩
  keep := fun a o h n _ => ⟨k a o h, n⟩
  tups := fun a vs h => k a _ h
  ne := fun a h z => by
    cases e : H a with
    | none => exact h e
    | some o =>
      rw [k a o e] at z
      cases z
  tab := fun a ⟨ps, e, t⟩ => ⟨ps, k a _ e, t⟩
  frz := fun a ob u h => k a _ h
theorem Rs.grow (r : Rs G R φ S H) (k : ∀ b o, H b = some o → H' b = some o) : Rs G R φ S H' := by
  have l : Le φ H φ H' := Le.grow k
  refine ⟨r.nd, r.len, r.apart, fun i o a e1 e2 => ?_, fun a ha => l.ne a (r.res a ha), fun a ha => l.tab a (r.tabs a ha)⟩
  have ro := r.obj i o a e1 e2
  obtain ⟨u, hu⟩ := Ro.there ro
  exact Ro.le l ro (by rw [k a u hu, hu])
theorem pair_rv {H0 : Hp} : ∀ {ts : List Addr} {kvs : List (Key × D)} {vs : List V}, RvL G R φ H' (kvs.map (·.2)) vs → Paired (fun (t : Addr) (q : Key × V) => H' t = some (.tup [kV q.1, q.2])) ts ((kvs.map (·.1)).zip vs) →
    RvL G R φ H' (kvs.map fun kv => D.tup [keyD kv.1, kv.2]) (ts.map V.ref)
  | ts, [], vs, h, p => by
    cases p
    exact RvL.nil
  | ts, kv :: kvs, vs, h, p => by
    rw [List.map_cons] at h
    unfold RvL at h
    obtain ⟨v, r, rfl, h1, h2⟩ := h
    rw [List.map_cons, List.zip_cons_cons] at p
    cases p with
    | cons e t =>
      rw [List.map_cons, List.map_cons]
      refine RvL.cons ?_ (pair_rv (H0 := H0) h2 t)
      refine Rv.tup e (RvL.cons ?_ (RvL.cons h1 RvL.nil))
      cases kv.1 with
      | inl i => exact Rv.int
      | inr s => exact Rv.str
end
section
variable {T : List Addr} {X : Cx} {E : XK} {o : Expr} {mo : ME0} {p pos apos mpos : Pos}
theorem me_listItems (hc : X.calm = true) (hg : Gl X "list") (hm : X.mg "list" = none) (ho : ME T X E o mo) (hbase : attributeBase o "items" X.env (eval o X.env) = eval o X.env := by rfl) (hline : (apos.endLine == mpos.line) = true := by rfl)
    (hs : starEach [.Call (.Attribute o "items" apos) [] [] mpos] X.env = (false, eval (.Call (.Attribute o "items" apos) [] [] mpos) X.env) :: starEach [] X.env := by rfl) :
    ME T X E (.Call (.Name "list" p) [.Call (.Attribute o "items" apos) [] [] mpos] [] pos) (mUn fItems mo) := by
  obtain ⟨t, pt, s⟩ := ho
  refine ⟨_, LiI.pe_listItems hc pt hg hm (by decide +kernel) hbase hline hs, fun σ H ρ φ R S rs rn => ?_⟩
  refine Run.bnd (c' := fun (x : V) H1 (Q : VK) => LiI.rItemsL x H1 Q) (s σ H ρ φ R S rs rn) (fun d S1 φ1 x H1 e0 l1 rs1 r1 => ?_) fun Q q => q
  unfold fItems
  split
  · rename_i n
    split
    · rename_i kvs hn
      obtain ⟨a, rfl, ha⟩ := Rv.ref_of r1
      obtain ⟨vs, u, e, sh, r⟩ := rs1.obj n _ a hn ha
      have sh' : u = .dK ((kvs.map (·.1)).zip vs) := sh
      subst sh'
      intro Q hq _ _
      refine ⟨a, _, rfl, e, fun H' p ts k hp hts hpn hl hpr => ?_⟩
      have lg : Le φ1 H1 φ1 H' := Le.grow k
      have rg := rs1.grow k
      have fr := rs1.fresh hp
      exact hq _ S1 φ1 (.ref p) H' rfl lg rg (Rv.lst fr.1 fr.2 hl (pair_rv (H0 := H') (RvL.le lg r) hpr))
    · exact Run.bad
  · exact Run.bad
end
end MM

/-! try: .. except X as n: kept = n (the error is kept as a tracked object). -/
namespace MM
open PySem PySem.Spec PyProof.Rows L2
theorem exK_ok {P : Program} {w : World} {H : Hp} {h : Heap} {a : Addr} {cls : Value} {d : Option Addr} {oe : Obj} {vs : Array Value} (e : h.get? a = some oe) (z : Zc cls d oe) (q : oe.data = .fields vs) : ObjOk P w H h a (exK a cls d) :=
  ⟨⟨oe, vs, e, z, q⟩, ⟨oe, e⟩, fun _ _ ⟨o, v, e', r⟩ k => ⟨o, v, k o e', r⟩⟩
section
variable {X : Cx} {pins : List (Addr × Obj)} {σ : L2.St} {H : Hp} {s : Shared}
theorem inv_adopt {a : Addr} {cls : Value} {d : Option Addr} {oe : Obj} {vs : Array Value} (I : Inv X pins σ H s) (ha : s.heap.get? a = some oe) (hz : Zc cls d oe) (hd : oe.data = .fields vs) (na : H a = none) (nL : a ≠ X.env.locals) (n0 : X.s_0.heap.get? a = none)
    (np : ∀ p ∈ X.pn ++ pins, p.1 ≠ a) : Inv X pins σ (upd H a (exK a cls d)) s := by
  have up : ∀ {b : Addr} {o : HO}, H b = some o → upd H a (exK a cls d) b = some o := fun {b o} e => by
    rw [upd_ne (fun z => by rw [z, na] at e; cases e)]
    exact e
  refine ⟨I.ok, I.os, I.bare, ⟨I.base.keep, I.base.slot, fun b o e n hx => ?_, I.base.there, fun b xs e => up (I.base.tups b xs e), fun b o u e => up (I.base.frzs b o u e), fun b ps e => ?_⟩, I.loc, I.cell, ?_, fun x c e => ?_, fun p hp => ?_, fun b o q => ?_, I.len⟩
  · rw [upd_ne (fun z => by rw [z, n0] at e; cases e)]
    exact I.base.free b o e n hx
  · obtain ⟨more, e'⟩ := I.base.tbls b ps e
    exact ⟨more, up e'⟩
  · rw [upd_ne (Ne.symm nL)]
    exact I.free
  · have hc : c ≠ a := fun z => by
      obtain ⟨v, o, e1, e3⟩ := I.cell x c e
      rw [z, ha] at e1
      obtain rfl := Option.some.inj e1
      rw [hd] at e3
      exact nomatch e3
    rw [upd_ne hc]
    exact I.freeC x c e
  · obtain ⟨e, n, r⟩ := I.pin p hp
    exact ⟨e, by rw [upd_ne (np p hp)]; exact n, r⟩
  · by_cases hb : b = a
    · subst hb
      rw [upd_same] at q
      cases q
      exact exK_ok ha hz hd
    · rw [upd_ne hb] at q
      exact (I.hok b o q).stay (fun _ _ _ e => e) (fun c e => up e) fun c xs e => up e
end
/-- what the clause 'except x as n: y = n' wishes -/
def wKeep (K : PySem.W.Frag) (c : Value) (i j : Nat) (Wout : WX) (D : Ends) : WX := fun cls d σ H =>
  ∃ b, PySem.W.exmOne K cls c = some b ∧ (b = true → ∀ a, H a = none → D.nx (((σ.set i (some (.ref a))).set j (some (.ref a))).set i none) (upd H a (exK a cls d))) ∧ (b = false → Wout cls d σ H)
section
variable {X : Cx} {x n y : Str} {c : Value} {i j : Nat} {body : List Stmt} {np py pn2 pos pos' pos2 : Pos} {tb : WX → TS} {Wout : WX}
theorem ps_try_keep (hs : X.stack = X.env :: X.outer) (hf : X.env.frame = some X.env.locals) (hex : X.ex = []) (hN : X.N.Nodup) (hi : X.N[i]? = some n) (hj : X.N[j]? = some y) (hln : X.env.kindOf n = some .local) (hly : X.env.kindOf y = some .local) (hc : Names X x c) (tk : Takes X Wout) (hdn : (n == ("__debug__" : Str)) = false := by decide) (hcn : (n == ("__classdict__" : Str)) = false := by decide)
    (hb : ∀ (W : WX) (pn : List (Addr × Obj)) (xe : Value → Shared → Prop), Takes (X.tr pn xe) W → PassesOwn (model X.prog X.w) X.A X.env xe → PSs (X.tr pn xe) body (tb W))
    (hsw : swapsWith (.Name n pn2) (some (.Name y py)) pos2.line X.env = pure false := by rfl) :
    PS X (.Try body [.ExceptHandler (some (.Name x np)) (some n) [.Assign [.Name y py] (.Name n pn2) pos2] pos'] [] [] pos) (fun D σ H => tb (wKeep X.K c i j Wout D) D σ H) := by
  refine ⟨fun pins s σ H D I h => ?_⟩
  have ok := I.ok
  have hfr : X.A.frames = some (X.env :: X.outer) := by rw [ok.frames, hs]
  have hloc : Loc X.env.scope n := .inl hln
  refine wpAny_Try_except ?_
  refine wpAny_mono ((hb (wKeep X.K c i j Wout D) (X.pn ++ pins) (fun e s₁ => wpAny (model X.prog X.w) X.A (noteFrame e X.env) (fun _ s₂ => wpAny (model X.prog X.w) X.A (setFlight e none) (fun _ s₃ =>
    wpAny (model X.prog X.w) X.A (handleBy e X.env [.ExceptHandler (some (.Name x np)) (some n) [.Assign [.Name y py] (.Name n pn2) pos2] pos']) (SP X pins D) X.xe s₃) X.xe s₂) X.xe s₁) (fun u s' xx => ?_) PassesOwn.looking).run [] s σ H D (I.toTry _) h) (fun f s1 hsp => ?_) (fun e s1 he => he)
  · -- the catch
    obtain ⟨a, B, sI, pins', σ', H', cls, d, rfl, J', nb, up, sky, na, os, ag, b, hb1, hyes, hno⟩ := xx
    have J : Inv X pins σ' H' sI := J'.ofTry ok
    have sky' : Sky B (X.env :: X.outer) a (Zc cls d) X.env.locals s'.heap := by rw [← hs]; exact sky
    show wpAny (model X.prog X.w) X.A (noteFrame (.ref a) X.env) _ _ _
    refine Sky.land Zc.steady hfr hf sky' fun h3 fl3 up3 => ?_
    have J3 : Inv X pins σ' H' { s' with heap := h3 } := J.landed nb fl3.1 (up.trans up3) os ag
    obtain ⟨oe3, vs3, he3, hz3, hd3⟩ := fl3.there
    have notFr : ∀ {h : Heap} {o : Obj} {vs : Array Value}, h.FunFrames B (X.env :: X.outer) → h.get? a = some o → o.data = .fields vs → a ∉ frs (X.env :: X.outer) := fun {h o vs} ff e dd hm => by
      obtain ⟨_, o', e', hnf⟩ := ff.mem hm
      rw [e] at e'; cases e'
      exact hnf _ dd
    have nfr := notFr fl3.2.2.1 he3 hd3
    have nB : B.get? a = none := fl3.2.1
    have nL : a ≠ X.env.locals := fun z => nfr (List.mem_filterMap.mpr ⟨X.env, List.mem_cons_self, by rw [hf, z]⟩)
    have nF : a ∉ X.fs := fun hm => by
      obtain ⟨e, he, q⟩ := List.mem_filterMap.mp hm
      exact nfr (List.mem_filterMap.mpr ⟨e, List.mem_cons_of_mem _ he, q⟩)
    have inB : ∀ b o, sI.heap.get? b = some o → b ∉ frs X.stack → b ≠ a := fun b o e hm z => by
      have := nb b o e hm
      rw [z, nB] at this
      cases this
    have nstk : a ∉ frs X.stack := by rw [hs]; exact nfr
    have n0 : X.s_0.heap.get? a = none := by
      cases e : X.s_0.heap.get? a with
      | none => rfl
      | some o =>
        obtain ⟨o', e'⟩ := J.base.there a o e (by rw [hex]; exact List.not_mem_nil)
        exact (inB a o' e' nstk rfl).elim
    have nps : ∀ p ∈ X.pn ++ pins, p.1 ≠ a := fun p hp => by
      obtain ⟨e, _, k1, k2, _⟩ := J.pin p hp
      refine inB p.1 p.2 e fun hm => ?_
      rw [hs] at hm
      obtain ⟨env, he, q⟩ := List.mem_filterMap.mp hm
      rcases List.mem_cons.mp he with z | z
      · rw [z, hf] at q
        exact k1 (Option.some.inj q).symm
      · exact k2 (List.mem_filterMap.mpr ⟨env, z, q⟩)
    have S3 := J3.suite he3 hd3 na nL nF
    refine wpAny_handleBy_cons (codeAny_handlers_test ?_) (by intro q; cases q)
    have LT : PySem.W.Looks (model X.prog X.w) h3 (typeOf (.ref a)) cls := fun A Q E s k q => wpAny_typeOf_ref (k _ _ he3) (by rw [hz3.1]; exact q)
    have LM := PySem.W.exm_one (M := model X.prog X.w) (J3.kIn) LT hb1
    have test : ∀ {Q : Value → Shared → Prop} {E : Value → Shared → Prop}, Q c { s' with heap := h3 } → wpAny (model X.prog X.w) (X.A.mark (some (.ref a))) (eval (.Name x np) X.env) Q E { s' with heap := h3 } := fun {Q E} q => by
      obtain ⟨hg, hdbg, hm | ⟨hm, hv, hnn⟩⟩ := hc
      · exact ld_glob (X := X.suite a ((a, oe3) :: (X.pn ++ pins))) S3 hg hm q hdbg
      · exact ld_blt (X := X.suite a ((a, oe3) :: (X.pn ++ pins))) S3 hg hm hv q hnn hdbg
    refine test (LM.here ?_)
    cases b with
    | true =>
      refine codeAny_handlers_suite_as ?_
      refine HandSPX.lands_againZ fl3 fun h4 fl4 up4 => ?_
      have J4 : Inv X pins σ' H' { s' with heap := h4 } := J.landed nb fl4.1 ((up.trans up3).trans up4) os ag
      obtain ⟨oe4, vs4, he4, hz4, hd4⟩ := fl4.there
      have S4 := J4.suite he4 hd4 na nL nF
      refine store_ok (X := X.suite a ((a, oe4) :: (X.pn ++ pins))) (v := .ref a) S4 hN hi hloc rfl (fun s5 S5 => ?_) (.inr hln)
      have hil : i < σ'.length := by
        rw [J.len]
        exact (List.getElem?_eq_some_iff.mp hi).1
      have su : PSs (X.suite a ((a, oe4) :: (X.pn ++ pins))) [.Assign [.Name y py] (.Name n pn2) pos2] _ := pss_one (ps_set (X := X.suite a ((a, oe4) :: (X.pn ++ pins))) hN hj (.inl hly) (pe_var (X := X.suite a ((a, oe4) :: (X.pn ++ pins))) hi (.inl hln) hdn hcn) hsw (.inr hly))
      refine wpAny_mono (su.run [] s5 _ H' ⟨fun σ6 H6 => σ6 = (σ'.set i (some (.ref a))).set j (some (.ref a)) ∧ H6 = H', fun _ _ => False, fun _ _ => False, fun _ _ => False⟩ S5 ⟨.ref a, List.getElem?_set_self hil, rfl, rfl⟩) (fun f s6 hsp => ?_) (fun _ _ z => False.elim z)
      cases f with
      | next =>
        obtain ⟨σ6, H6, S6, rfl, rfl⟩ := hsp
        refine gone_ok (X := X.suite a ((a, oe4) :: (X.pn ++ pins))) S6 hN hi hln fun s7 S7 => ?_
        obtain ⟨e7, n7, _⟩ := S7.pin (a, oe4) (List.mem_append_left _ List.mem_cons_self)
        exact ⟨_, _, inv_adopt (S7.unsuite ok) e7 hz4 hd4 n7 nL n0 nps, hyes rfl a na⟩
      | brk => obtain ⟨σ6, H6, S6, q6⟩ := hsp; exact q6.elim
      | cont => obtain ⟨σ6, H6, S6, q6⟩ := hsp; exact q6.elim
      | ret u => obtain ⟨v6, σ6, H6, S6, r6, q6⟩ := hsp; exact q6.elim
    | false =>
      show wpAny _ X.A (handleBy (.ref a) X.env []) _ _ _
      refine wpAny_handleBy_nil ?_
      obtain ⟨k1, k2, k3, oe, vs, T, oT, ts', he, hz, hd, h1, hr⟩ := id fl3
      unfold PySem.passOn
      refine wpAny_bind (wpAny_field he hd h1 ?_)
      rw [if_neg (show ¬ ((Value.ref T == Value.none) = true) from by simp)]
      have fin : wpAny (model X.prog X.w) X.A (setFlight (.ref a) X.env.frame) (fun _ s4 => wpAny (model X.prog X.w) X.A (throw (.ref a) : Sem Flow) (SP X pins D) X.xe s4) X.xe { s' with heap := h3 } := by
        rw [hf]
        refine HandSPX.setFlight_upZ fl3 fun h4 hh4 up4 => wpAny_throw (tk _ _ ?_)
        exact ⟨a, B, sI, pins, σ', H', cls, d, rfl, J, nb, (up.trans up3).trans up4, .inr (.inr (by rw [hs]; exact hh4)), na, os, ag, hno rfl⟩
      first
        | exact wpAny_bind (wpAny_pure (wpAny_bind fin))
        | exact wpAny_bind fin
  · cases f with
    | next =>
      obtain ⟨σ', H', J', q⟩ := hsp
      exact wpAny_execs_nil ⟨σ', H', J'.ofTry ok, q⟩
    | brk =>
      obtain ⟨σ', H', J', q⟩ := hsp
      exact ⟨σ', H', J'.ofTry ok, q⟩
    | cont =>
      obtain ⟨σ', H', J', q⟩ := hsp
      exact ⟨σ', H', J'.ofTry ok, q⟩
    | ret u =>
      obtain ⟨v, σ', H', J', r, q⟩ := hsp
      exact ⟨v, σ', H', J'.ofTry ok, r, q⟩
end
end MM

/-! Errors that were caught and kept: isinstance, their fields. -/
namespace MM
open PySem PySem.Spec PyProof.Rows L2
/-- what an own class of errors says of itself -/
structure ErrC (K : PySem.W.Frag) (C : Addr) : Prop where
  cl : (PySem.W.clsIn K C).isSome = true
  ga : PySem.W.findIn K (.ref C) "__getattribute__" = some (some (.builtin "BaseException.__getattribute__"))
  gg : PySem.W.findIn K (.ref C) "__getattr__" = some none
  ex : PySem.W.subIn K (.ref C) (.type "BaseException") = some true
  hd : PySem.W.hasDictIn K C = true
  ha : PySem.W.findIn K (.ref C) "__class__" = some (some (.builtin "object.__class__"))
  hn : PySem.W.specialIn K (.builtin "object.__class__") "__get__" = some (some (.builtin "getset_descriptor.__get__"))
  ht : PySem.W.takesIn K (.builtin "object.__class__") = some true
  hm : PySem.W.mroIn K C (.type "object") = some true
def XdH (H : Hp) (d : Option Addr) : Prop := d = none ∨ ∃ p fs, d = some p ∧ H p = some (.xd fs)
theorem inst_kept {X : Cx} {pins : List (Addr × Obj)} {σ : L2.St} {H : Hp} {s : Shared} {a C : Addr} {d : Option Addr} (I : Inv X pins σ H s) (h : H a = some (exK a (.ref C) d)) (hd : XdH H d) : ∃ oe od, PySem.W.InstAt s.heap a oe C od := by
  have x : ObjOk X.prog X.w H s.heap a (exK a (.ref C) d) := I.hok a _ h
  obtain ⟨⟨oe, vs, e1, z, e2⟩, _⟩ := x
  rcases hd with rfl | ⟨p, fs, rfl, hp⟩
  · exact ⟨oe, none, ⟨e1, z.1, by unfold PySem.W.notCls; rw [e2] <;> rfl, by rw [z.2]; trivial⟩⟩
  · have y : ObjOk X.prog X.w H s.heap p (.xd fs) := I.hok p _ hp
    obtain ⟨mA, hns, hr⟩ := y
    obtain ⟨od, ho, hl⟩ := lookIn_ns hns
    exact ⟨oe, some od, ⟨e1, z.1, by unfold PySem.W.notCls; rw [e2] <;> rfl, by rw [z.2]; exact ho⟩⟩
def rIsK (K : PySem.W.Frag) : List V → Hp → VK → Prop := fun xs H Q => ∃ (a C : Addr) (d : Option Addr) (c : V) (cv : Value) (b : Bool), xs = [.ref a, c] ∧ (∀ u, RelV c u → u = cv) ∧ H a = some (exK a (.ref C) d) ∧ XdH H d ∧ ErrC K C ∧ PySem.W.kitOne K (.ref C) cv = some b ∧ Q (.bl b) H
theorem call_isK {X : Cx} : CallR X (.builtin "isinstance") (rIsK X.K) := by
  intro pins s σ H xs us Q I r h
  obtain ⟨a, C, d, c, cv, b, rfl, hcv, ha, hd, T, e, q⟩ := h
  cases r with
  | cons rx rr =>
    cases rr with
    | cons rt rr =>
      cases rr
      cases rx
      have ec := hcv _ rt
      subst ec
      obtain ⟨oe, od, J⟩ := inst_kept I ha hd
      exact PySem.W.kia_one (PySem.W.kitx_exc T.cl T.ga T.gg T.ex T.ha T.hn T.ht T.hm) I.kIn J e (fun z => nomatch z) fun tk => ⟨.bl b, H, I.kept (t' := tk) fun _ _ z => z, rfl, q⟩
/-- kept.f -/
def tKf (K : PySem.W.Frag) (n : Str) (te : TE) : TE := fun σ H Q => te σ H fun x H1 => ∃ (a C dd : Addr) (fs : List (Str × V)) (v : V), x = .ref a ∧ H1 a = some (exK a (.ref C) (some dd)) ∧ H1 dd = some (.xd fs) ∧ fs.lookup n = some v ∧ ErrC K C ∧ PySem.W.findIn K (.ref C) n = some none ∧ Q v H1
theorem pe_kf {X : Cx} {e : Expr} {te : TE} {pos : Pos} {n : Str} (he : PE X e te) (hb : attributeBase e n X.env (eval e X.env) = eval e X.env := by rfl) : PE X (.Attribute e n pos) (tKf X.K n te) := by
  refine ⟨fun pins s σ H Q I h => ?_⟩
  refine attr_of hb (thn (he.run pins s σ H _ I h) fun u s1 hh => ?_)
  obtain ⟨x, H1, I1, rx, a, C, dd, fs, v, ex, ea, ed, l, T, hno, q⟩ := hh
  subst ex
  obtain rfl : u = Value.ref a := rx
  have x : ObjOk X.prog X.w H1 s1.heap a (exK a (.ref C) (some dd)) := I1.hok a _ ea
  obtain ⟨⟨oe, vs, e1, z, e2⟩, _⟩ := x
  have hx : ObjOk X.prog X.w H1 s1.heap dd (.xd fs) := I1.hok dd _ ed
  obtain ⟨mA, hns, hr⟩ := hx
  obtain ⟨od, ho, hl⟩ := lookIn_ns hns
  obtain ⟨u, hu, ru⟩ := RelO.some_of (v := v) (o := mA n) (by rw [← l]; exact hr n)
  have J : PySem.W.InstAt s1.heap a oe C (some od) := ⟨e1, z.1, by unfold PySem.W.notCls; rw [e2] <;> rfl, by rw [z.2]; exact ho⟩
  exact HandSPX.exc_get I1.kIn J T.ga T.gg T.ex (PySem.W.findObj_own T.hd hno rfl (by rw [hl, hu])) (handed_of ru) ⟨v, H1, I1.tok _, ru, q⟩
/-! ### the mirrors -/
/-- a class of errors: where it stands -/
structure ErrK (K : PySem.W.Frag) (mg : Str → Option Value) (c : Str) (C : Addr) : Prop where
  m : mg c = some (.ref C)
  T : ErrC K C
/-- of which classes of errors we know whether they are below c -/
def fIsiE (c : Str) (tab : List (Str × Bool)) : D → Store → Res D := fun x S => match x with
  | .err k _ _ => match tab.lookup k with
    | some b => .ok (.bl b) S
    | none => .bad
  | _ => match tyD S x with
    | some _ => .ok (.bl false) S
    | none => .bad
/-- an own class of errors, asked of what is none -/
structure IsiE (K : PySem.W.Frag) (mg : Str → Option Value) (c : Str) (C : Addr) (tab : List (Str × Bool)) : Prop where
  m : mg c = some (.ref C)
  non : PySem.W.kitOne K (.type "NoneType") (.ref C) = some false
  bl : PySem.W.kitOne K (.type "bool") (.ref C) = some false
  int : PySem.W.kitOne K (.type "int") (.ref C) = some false
  str : PySem.W.kitOne K (.type "str") (.ref C) = some false
  tup : PySem.W.kitOne K (.type "tuple") (.ref C) = some false
  lst : PySem.W.kitOne K (.type "list") (.ref C) = some false
  dct : PySem.W.kitOne K (.type "dict") (.ref C) = some false
  errs : ∀ k b, tab.lookup k = some b → ∃ D, ErrK K mg k D ∧ PySem.W.kitOne K (.ref D) (.ref C) = some b
theorem IsiE.ty {K : PySem.W.Frag} {mg : Str → Option Value} {c : Str} {C : Addr} {tab : List (Str × Bool)} {t : String} {S : Store} {d : D} (I : IsiE K mg c C tab) (h : tyD S d = some t) : PySem.W.kitOne K (.type t) (.ref C) = some false := by
  cases d with
  | non => cases h; exact I.non
  | bl b => cases h; exact I.bl
  | int b => cases h; exact I.int
  | str b => cases h; exact I.str
  | tup b => cases h; exact I.tup
  | lst b => cases h; exact I.lst
  | frz b => cases h
  | err c f ds => cases h
  | ref n =>
    change tyO S[n]? = some t at h
    cases ho : S[n]? with
    | none => rw [ho] at h; cases h
    | some o =>
      rw [ho] at h
      cases o with
      | lst ds => cases h; exact I.lst
      | dct ds => cases h; exact I.dct
      | dcT ds => cases h
      | ins c fs => cases h
      | lk o => cases h
theorem XdAt.h {R φ : List Addr} {H : Hp} {f : Str} {d : Option Addr} {vs : List V} (h : XdAt R φ H f d vs) : XdH H d := by
  rcases h with ⟨_, h⟩ | ⟨p, w, _, e2, _, _, e3⟩
  · exact .inl h
  · exact .inr ⟨p, _, e2, e3⟩
section
variable {T : List Addr} {X : Cx} {E : XK} {e : Expr} {me : ME0} {c : Str} {C : Addr} {p q pos : Pos} {tab : List (Str × Bool)}
theorem me_isiE (I : IsiE X.K X.mg c C tab) (hg : Gl X "isinstance") (hm : X.mg "isinstance" = none) (hgC : Gl X c) (h : ME T X E e me) (hdT : (c == ("__debug__" : Str)) = false := by decide)
    (he : starEach [e, .Name c q] X.env = (false, eval e X.env) :: starEach [.Name c q] X.env := by rfl) (he2 : starEach [.Name c q] X.env = (false, eval (.Name c q) X.env) :: starEach [] X.env := by rfl) (hpl : (backTo pos (starEach [.Name c q] X.env)).any (·.1) = false := by rfl) :
    ME T X E (.Call (.Name "isinstance" p) [e, .Name c q] [] pos) (mUn (fIsiE c tab) me) := by
  obtain ⟨t, pt, st⟩ := h
  refine ⟨_, pe_callB (CallR.or call_isi call_isK) hg hm (by decide +kernel) (pa_cons pt (pa_cons (pe_glob (v := .ref C) hgC I.m rfl hdT) pa_nil he2) he) (by decide) (by decide) he hpl, fun σ H ρ φ R S rs rn => ?_⟩
  refine Run.bnd (c' := fun (v : V) H1 (Q : VK) => rIsi X.K [v, .ref C] H1 Q ∨ rIsK X.K [v, .ref C] H1 Q) (st σ H ρ φ R S rs rn) (fun d S1 φ1 v H1 e0 l1 rs1 r1 => ?_) fun Q q => q
  unfold fIsiE
  split
  · rename_i k f ds
    split
    · rename_i b hb
      obtain ⟨D, hD, hk⟩ := I.errs k b hb
      unfold Rv at r1
      obtain ⟨vs, ⟨a, Cv, dd, rfl, _, _, hmg, h1, h2⟩, _⟩ := r1
      have hmg' : X.mg k = some Cv := hmg
      rw [hD.m] at hmg'
      cases hmg'
      exact Run.ret rs1 Rv.bl fun Q q => .inr ⟨a, D, dd, .ref C, .ref C, b, rfl, fun u r => r, h1, h2.h, hD.T, hk, q⟩
    · exact Run.bad
  · split
    · rename_i ty ht
      exact Run.ret rs1 Rv.bl fun Q q => .inl ⟨v, .ref C, .type ty, .ref C, false, rfl, .own C, tyD_x rs1 r1 ht, I.ty ht, q⟩
    · exact Run.bad
/-- kept.f, of these classes -/
def fFldE (n : Str) (cs : List Str) : D → Store → Res D := fun x S => match x with
  | .err k f [y] => if k ∈ cs ∧ f = n then .ok y S else .bad
  | _ => .bad
theorem me_fldE {n : Str} {cs : List Str} (hc : ∀ k ∈ cs, ∃ D, ErrK X.K X.mg k D ∧ PySem.W.findIn X.K (.ref D) n = some none) (h : ME T X E e me) (hb : attributeBase e n X.env (eval e X.env) = eval e X.env := by rfl) : ME T X E (.Attribute e n pos) (mUn (fFldE n cs) me) := by
  obtain ⟨t, pt, st⟩ := h
  refine ⟨_, pe_kf pt hb, fun σ H ρ φ R S rs rn => ?_⟩
  refine Run.bnd (c' := fun (x : V) H1 (Q : VK) => ∃ (a C dd : Addr) (fs : List (Str × V)) (v : V), x = .ref a ∧ H1 a = some (exK a (.ref C) (some dd)) ∧ H1 dd = some (.xd fs) ∧ fs.lookup n = some v ∧ ErrC X.K C ∧ PySem.W.findIn X.K (.ref C) n = some none ∧ Q v H1) (st σ H ρ φ R S rs rn) (fun d S1 φ1 v H1 e0 l1 rs1 r1 => ?_) fun Q q => q
  unfold fFldE
  split
  · rename_i k f y
    split
    · rename_i hk
      obtain ⟨hk, rfl⟩ := hk
      obtain ⟨D, hD, hno⟩ := hc k hk
      unfold Rv at r1
      obtain ⟨vs, ⟨a, Cv, dd, rfl, _, _, hmg, h1, h2⟩, h3⟩ := r1
      have hmg' : X.mg k = some Cv := hmg
      rw [hD.m] at hmg'
      cases hmg'
      obtain ⟨w, rfl, h4⟩ := RvL.one_of h3
      rcases h2 with ⟨z, _⟩ | ⟨p, w', e1, rfl, _, _, e3⟩
      · cases z
      · cases e1
        exact Run.ret rs1 h4 fun Q q => ⟨a, D, p, _, w, rfl, h1, e3, by simp, hD.T, hno, q⟩
    · exact Run.bad
  · exact Run.bad
end
end MM

/-! raise C(e), C an own class of errors whose __init__ keeps its argument. -/
namespace MM
open PySem PySem.Spec PyProof.Rows L2
/-- what that __init__ does: self.f = y -/
def spErr (K : PySem.W.Frag) (f : Str) : Sp := fun vs H Q _ => ∃ (a C : Addr) (y : V), vs = [.ref a, y] ∧ OexC K C ∧ PySem.W.findIn K (.ref C) f = some none ∧ H a = some (exo a C none) ∧ ∀ dx, H dx = none → dx ≠ a → Q .non (upd (upd H dx (exd dx [(f, y)])) a (exo a C (some dx)))
section
variable {P : Program} {w : World} {K : PySem.W.Frag} {mg : Str → Option Value} {base : Heap} {x qual : Str} {st : Stmt} {dvs : List V} {fI : Addr} {fd : FuncData}
theorem fn_err {k : Nat} {g f : Str} (F : FnD K x qual st dvs fI fd) (S : FnScope ["self", g] ["self", g] (defScope st))
    (hbody : ∀ (cdv : Value) (A : Around) (outer : List Env) (s : Shared) (H : Hp) (E : XK), PSs (cxOf (L2.CX P w) P w K mg base ["self", g] qual (defScope st) fI cdv A outer s H E) (defBody st) (tOst K f (tVar 0) (tVar 1))) :
    FnOk P w K mg base (L2.CX P w) (k + 1) fI fd ["self", g] (spErr K f) := by
  obtain ⟨oc, od, kV, doc, pm, an, cdv, ct, osl, T0, o, its, n0, rfl, lk, hcd, _, _, _⟩ := F.ex
  refine fn_of lk hcd S (fun vs H Q E h => ?_) fun A outer s H vs Q E hr h => ?_
  · obtain ⟨a, C, y, rfl, _⟩ := h
    rfl
  · obtain ⟨a, C, y, rfl, T, hno, ha, hq⟩ := h
    refine ⟨_, hbody cdv A outer s H E, ?_⟩
    exact ⟨y, rfl, .ref a, rfl, a, C, rfl, T, hno, .inl ⟨ha, hq⟩⟩
end
/-- an own class of errors with such an __init__ -/
structure ErrMk (P : Program) (w : World) (K : PySem.W.Frag) (mg : Str → Option Value) (base : Heap) (x f : Str) (C fI : Addr) (fd : FuncData) : Prop where
  m : mg x = some (.ref C)
  T : OexC K C
  no : PySem.W.findIn K (.ref C) f = some none
  iC : PySem.W.findIn K (.ref C) "__init__" = some (some (.ref fI))
  tI : PySem.W.typeIn K (.ref fI) = some (.type "function")
  F : FnOk P w K mg base (L2.CX P w) 1 fI fd ["self", f] (spErr K f)
  b : Binds K fd ["self", f] []
def sRaise (x f : Str) (mr : MA0) : MS0 := fun ρ S => (mr ρ S).bind fun ds S1 => match ds with
  | [d] => .exc ⟨x, f, [d]⟩ S1
  | _ => .bad
section
variable {T : List Addr} {X : Cx} {E : XK} {e : Expr} {mr : MA0} {x f : Str} {C fI : Addr} {fd : FuncData} {p pos pos' : Pos}
theorem ms_raise (hc : X.calm = true) (tk : Takes X (fun cls d _ H => E cls d H)) (M : ErrMk X.prog X.w X.K X.mg X.base x f C fI fd) (hr : Room 2 X.A) (hg : Gl X x) (ha : MA T X E [e] mr)
    (hx : Passes (L2.CX X.prog X.w) X (fun _ _ _ => False)) (hdb : (x == ("__debug__" : Str)) = false := by decide) (he : starEach [e] X.env = (false, eval e X.env) :: starEach [] X.env := by rfl) (hpl : (backTo pos (starEach [] X.env)).any (·.1) = false := by rfl) :
    MS T X E (.Raise (some (.Call (.Name x p) [e] [] pos)) none pos') (sRaise x f mr) := by
  obtain ⟨t, pt, s⟩ := ha
  refine ⟨_, ps_raise hc tk (pmk_oex (dvs := []) M.T M.iC M.tI M.F hr M.b .nil hx hg M.m pt hdb he hpl), fun σ H ρ φ R S rs rn => ?_⟩
  refine Run.bnd (c' := fun (vs : List V) H1 (_ : Out → Hp → Prop) => vs.length ≤ 1000 ∧ ∀ a, H1 a = none → spErr X.K f (.ref a :: (vs ++ [])) (upd H1 a (exo a C none))
    (fun v H2 => v = .non ∧ ∃ (d : Addr) (fs : List (Str × V)), H2 a = some (exo a C (some d)) ∧ H2 d = some (exd d fs) ∧ H1 d = none ∧ E (.ref C) (some d) (upd (del H2 a) d (.xd fs))) (fun _ _ _ => False)) (s σ H ρ φ R S rs rn) (fun ds S1 φ1 vs H1 e0 l1 rs1 r1 => ?_) fun Q q => q
  split
  · rename_i d
    obtain ⟨w, rfl, h1⟩ := RvL.one_of r1
    intro Q hq hexc hb
    refine ⟨by show 1 ≤ 1000; decide, fun a hna => ⟨a, C, w, rfl, M.T, M.no, upd_same, fun dx hdx hne => ⟨rfl, dx, [(f, w)], upd_same, ?_, ?_, ?_⟩⟩⟩
    · rw [upd_ne hne, upd_same]
    · rw [upd_ne hne] at hdx
      exact hdx
    · have hdx' : H1 dx = none := by
        rw [upd_ne hne] at hdx
        exact hdx
      have eh : upd (del (upd (upd (upd H1 a (exo a C none)) dx (exd dx [(f, w)])) a (exo a C (some dx))) a) dx (.xd [(f, w)]) = upd H1 dx (.xd [(f, w)]) := by
        funext b
        by_cases hb1 : b = dx
        · rw [hb1, upd_same, upd_same]
        · rw [upd_ne hb1, upd_ne hb1]
          by_cases hb2 : b = a
          · rw [hb2, del_same, hna]
          · rw [del_ne hb2, upd_ne hb2, upd_ne hb1, upd_ne hb2]
      rw [eh]
      have ln := Le.new rs1 (o := .xd [(f, w)]) hdx'
      have fr := rs1.fresh hdx'
      exact hexc ⟨x, f, [d]⟩ S1 φ1 _ _ _ rfl ln (rs1.new hdx') ⟨M.m, [w], .inr ⟨dx, w, rfl, rfl, fr.1, fr.2, upd_same⟩, RvL.cons (Rv.le ln h1) RvL.nil⟩
  · exact Run.bad
end
end MM

/-! try: .. except X as n: kept = n. -/
namespace MM
open PySem PySem.Spec PyProof.Rows L2
/-- an expression in a try's body: it may raise, at the slots as they stand -/
def MEs (T : List Addr) (X : Cx) (e : Expr) (m : ME0) : Prop := ∃ te : (L2.St → XK) → TE, (∀ (W : WX) (pn : List (Addr × Obj)) (xe : Value → Shared → Prop), Takes (X.tr pn xe) W → PE (X.tr pn xe) e (te (WE W))) ∧
  ∀ (Es : L2.St → XK) σ H ρ φ R S, Rs (X.gd T) R φ S H → Rn (X.gd T) R φ H ρ σ → Run (X.gd T) (Es σ) R φ H (RelV' (X.gd T) R) (m ρ S) (te Es σ H)
/-- a block in a try's body that raises ahead of all stores -/
def MBs (T : List Addr) (X : Cx) (body : List Stmt) (m : MS0) : Prop := ∃ tb : (L2.St → XK) → TS, (∀ (W : WX) (pn : List (Addr × Obj)) (xe : Value → Shared → Prop), Takes (X.tr pn xe) W → PSs (X.tr pn xe) body (tb (WE W))) ∧
  ∀ (Es : L2.St → XK) σ H ρ φ R S, Rs (X.gd T) R φ S H → Rn (X.gd T) R φ H ρ σ → Run (X.gd T) (Es σ) R φ H (RelO (X.gd T) R) (m ρ S) (fun Q => tb Es (endsOf Q) σ H)
/-- except: of which classes of errors we know whether they are caught -/
def sTry (tab : List (Str × Bool)) (i j : Nat) (mb : MS0) : MS0 := fun ρ S => match mb ρ S with
  | .ok x S1 => .ok x S1
  | .exc e S1 => match tab.lookup e.cls with
    | some true => .ok (.nx, ((ρ.set i (some (.err e.cls e.fld e.arg))).set j (some (.err e.cls e.fld e.arg))).set i none) S1
    | some false => .exc e S1
    | none => .bad
  | .bad => .bad
def ExmT (K : PySem.W.Frag) (mg : Str → Option Value) (c : Value) (tab : List (Str × Bool)) : Prop := ∀ k b, tab.lookup k = some b → ∃ C, mg k = some C ∧ PySem.W.exmOne K C c = some b
section
variable {T : List Addr} {X : Cx} {E : XK} {x n y : Str} {c : Value} {i j : Nat} {body : List Stmt} {np py pn2 pos pos' pos2 : Pos} {tab : List (Str × Bool)} {mb : MS0}
theorem ms_try (hs : X.stack = X.env :: X.outer) (hf : X.env.frame = some X.env.locals) (hex : X.ex = []) (hN : X.N.Nodup) (hi : X.N[i]? = some n) (hj : X.N[j]? = some y) (hln : X.env.kindOf n = some .local) (hly : X.env.kindOf y = some .local) (hc : Names X x c) (tk : Takes X (fun cls d _ H => E cls d H))
    (hT : ExmT X.K X.mg c tab) (hb : MBs T X body mb) (hdn : (n == ("__debug__" : Str)) = false := by decide) (hcn : (n == ("__classdict__" : Str)) = false := by decide) (hsw : swapsWith (.Name n pn2) (some (.Name y py)) pos2.line X.env = pure false := by rfl) :
    MS T X E (.Try body [.ExceptHandler (some (.Name x np)) (some n) [.Assign [.Name y py] (.Name n pn2) pos2] pos'] [] [] pos) (sTry tab i j mb) := by
  obtain ⟨tb, pb, sb⟩ := hb
  refine ⟨_, ps_try_keep (tb := fun W => tb (WE W)) hs hf hex hN hi hj hln hly hc tk hdn hcn (fun W pn xe h _ => pb W pn xe h) hsw, fun σ H ρ φ R S rs rn Q hq he hbad => ?_⟩
  unfold sTry at hq he hbad
  refine sb (WE (wKeep X.K c i j (fun cls d _ H => E cls d H) (endsOf Q))) σ H ρ φ R S rs rn Q (fun b S' φ' v H' e l rs' r => hq b S' φ' v H' (by rw [e]) l rs' r) (fun e S' φ' H' cl d er l rs' xq => ?_) (fun e => hbad (by rw [e]))
  rw [er] at hq he hbad
  dsimp only at hq he hbad
  obtain ⟨hm, vs, hx, hv⟩ := xq
  cases ht : tab.lookup e.cls with
  | none => rw [ht] at hbad; exact (hbad rfl).elim
  | some b =>
    rw [ht] at hq he hbad
    obtain ⟨C, hC, hb1⟩ := hT e.cls b ht
    have hm' : X.mg e.cls = some cl := hm
    rw [hC] at hm'
    cases hm'
    refine ⟨b, hb1, fun hbt a na => ?_, fun hbf => ?_⟩
    · subst hbt
      have ln := Le.new rs' (o := exK a cl d) na
      have fr := rs'.fresh na
      have r1 : Rv (X.gd T) R φ' (upd H' a (exK a cl d)) (.err e.cls e.fld e.arg) (.ref a) := by
        unfold Rv
        exact ⟨vs, ⟨a, cl, d, rfl, fr.1, fr.2, hm, upd_same, hx.mono fun b o q n1 n2 k1 _ => ⟨(ln.keep b o q n1 k1).1, n1, n2⟩⟩, RvL.le ln hv⟩
      have rn' := ((((rn.le (l.trans ln)).set (i := i) r1).set (i := j) r1).set_none (i := i) (o := none))
      exact hq _ S' φ' (Out.nx _) _ rfl (l.trans ln) (rs'.new na) rn'
    · subst hbf
      exact he e S' φ' H' cl d rfl l rs' ⟨hm, vs, hx, hv⟩
/-! ### what stands in a try's body -/
variable {e : Expr} {es : List Expr} {me : ME0} {m1 m2 : MS0} {p : Pos}
theorem Run.sub {α β : Type} {G : Gd} {R φ : List Addr} {H : Hp} {rel : List Addr → Hp → β → α → Prop} {r : Res β} {cc : (α → Hp → Prop) → Prop} (h : Run G E0 R φ H rel r cc) : Run G E R φ H rel r.calm cc := Run.calm h
theorem mbs_expr (h : MEs T X e me) (hs : swapsWith e none pos.line X.env = pure false := by rfl) : MBs T X [.Expr e pos] (sExpr me) := by
  obtain ⟨te, pe, se⟩ := h
  exact ⟨fun Es => tDrop (te Es), fun W pn xe tk => pss_one (ps_expr (pe W pn xe tk) hs), fun Es σ H ρ φ R S rs rn => Run.bnd (c' := fun _ H1 Q => Q (Out.nx σ) H1) (se Es σ H ρ φ R S rs rn) (fun d S1 φ1 v H1 _ l1 rs1 r1 => Run.ret (v := Out.nx σ) rs1 (show RelO (X.gd T) R φ1 H1 (.nx, ρ) (.nx σ) from rn.le l1) fun Q q => q) fun Q q => q⟩
theorem mbs_set {k : Nat} {z : Str} {pos3 : Pos} (hN : X.N.Nodup) (hk : X.N[k]? = some z) (h : MEs T X e me) (hx : Loc X.env.scope z := by first | exact Or.inl rfl | exact Or.inr rfl) (hs : swapsWith e (some (.Name z pos3)) pos.line X.env = pure false := by rfl) (hf : X.fn z = true ∨ X.env.scope.names.lookup z = some .local := by first | exact .inl rfl | exact .inr rfl | assumption) :
    MBs T X [.Assign [.Name z pos3] e pos] (sAsg me (gN k)) := by
  obtain ⟨te, pe, se⟩ := h
  refine ⟨fun Es => tAsg (te Es) (gName k), fun W pn xe tk => pss_one (ps_set (X := X.tr pn xe) hN hk hx (pe W pn xe tk) hs hf), fun Es σ H ρ φ R S rs rn => ?_⟩
  exact Run.bnd (c' := fun v H1 Q => Q (Out.nx (σ.set k (some v))) H1) (se Es σ H ρ φ R S rs rn) (fun d S1 φ1 v H1 _ l1 rs1 r1 => Run.ret (v := Out.nx (σ.set k (some v))) rs1 (show RelO (X.gd T) R φ1 H1 (.nx, ρ.set k (some d)) (.nx (σ.set k (some v))) from (rn.le l1).set r1) fun Q q => q) fun Q q => q
theorem mbs_ret (h : MEs T X e me) : MBs T X [.Return (some e) pos] (sRet me) := by
  obtain ⟨te, pe, se⟩ := h
  exact ⟨fun Es => tRet (te Es), fun W pn xe tk => pss_one (ps_ret (pe W pn xe tk)), fun Es σ H ρ φ R S rs rn => Run.bnd (c' := fun v H1 Q => Q (Out.rt v) H1) (se Es σ H ρ φ R S rs rn) (fun d S1 φ1 v H1 _ l1 rs1 r1 => Run.ret (v := Out.rt v) rs1 (show RelO (X.gd T) R φ1 H1 (.rt d, ρ) (.rt v) from r1) fun Q q => q) fun Q q => q⟩
/-- a test that raises nothing -/
def sIfC (c : MT0) (a b : MS0) : MS0 := fun ρ S => (c ρ S).calm.bind fun x S1 => if x = true then a ρ S1 else b ρ S1
theorem mbs_if {cd : Expr} {a b : List Stmt} {mc : MT0} (hc : ∀ pn xe, MT T (X.tr pn xe) E0 cd mc) (ha : MBs T X a m1) (hb : MBs T X b m2) : MBs T X [.If cd a b pos] (sIfC mc m1 m2) := by
  have hc' : ∃ tc, (∀ i : List (Addr × Obj) × (Value → Shared → Prop), PT (X.tr i.1 i.2) cd tc) ∧ SndT (X.gd T) E0 tc mc := by
    refine ⟨fun σ H Q => ∀ i : List (Addr × Obj) × (Value → Shared → Prop), Classical.choose (hc i.1 i.2) σ H Q, fun i => ⟨fun pins s σ H Q I q => (Classical.choose_spec (hc i.1 i.2)).1.run pins s σ H Q I (q i)⟩, fun σ H ρ φ R S rs rn => Run.all fun i => (Classical.choose_spec (hc i.1 i.2)).2 σ H ρ φ R S rs rn⟩
  obtain ⟨tc, pc, sc⟩ := hc'
  obtain ⟨ta, pa, sa⟩ := ha
  obtain ⟨tb, pb, sb⟩ := hb
  refine ⟨fun Es => tIfS tc (ta Es) (tb Es), fun W pn xe tk => pss_one (ps_if (X := X.tr pn xe) (pc (pn, xe)) (pa W pn xe tk) (pb W pn xe tk)), fun Es σ H ρ φ R S rs rn => ?_⟩
  refine Run.bnd (c' := fun k H1 Q => if k = true then ta Es (endsOf Q) σ H1 else tb Es (endsOf Q) σ H1) (Run.calm (sc σ H ρ φ R S rs rn)) (fun d S1 φ1 x H1 _ l1 rs1 r1 => ?_) fun Q q => q
  have e1 : d = x := r1
  subst e1
  cases d with
  | true => exact Run.conv (sa Es σ H1 ρ φ1 R S1 rs1 (rn.le l1)) fun Q q => by rw [if_pos rfl]; exact q
  | false => exact Run.conv (sb Es σ H1 ρ φ1 R S1 rs1 (rn.le l1)) fun Q q => by rw [if_neg Bool.false_ne_true]; exact q
/-- f(e, ..): the arguments raise nothing -/
def mCallC (f : List D → Store → Res D) (ma : MA0) : ME0 := fun ρ S => (ma ρ S).calm.bind fun ds S1 => f ds S1
theorem mes_call {f : Addr} {fd : FuncData} {ps : List Str} {k num : Nat} {m : List D → Store → Res D} {ma : MA0} {z : Str} (F : FnOk X.prog X.w X.K X.mg X.base (L2.CX X.prog X.w) k f fd ps (spM (X.gd T) num m)) (hr : Room k X.A) (hg : Gl X z) (hm : X.mg z = some (.ref f)) (hk : PySem.W.keepIn X.K (.ref f) = true) (hb : Binds X.K fd ps [])
    (ha : ∀ pn xe, MA T (X.tr pn xe) E0 (e :: es) ma) (hn : ∀ ρ S ds S', ma ρ S = .ok ds S' → ds.length = num) (hdb : (z == ("__debug__" : Str)) = false := by decide) (he : starEach (e :: es) X.env = (false, eval e X.env) :: starEach es X.env := by rfl) (hpl : (backTo pos (starEach es X.env)).any (·.1) = false := by rfl) :
    MEs T X (.Call (.Name z p) (e :: es) [] pos) (mCallC m ma) := by
  have ha' : ∃ ta, (∀ i : List (Addr × Obj) × (Value → Shared → Prop), PA (X.tr i.1 i.2) (e :: es) ta) ∧ SndA (X.gd T) E0 ta ma := by
    refine ⟨fun σ H Q => ∀ i : List (Addr × Obj) × (Value → Shared → Prop), Classical.choose (ha i.1 i.2) σ H Q, fun i => ⟨fun pos pins s σ H Q I q => (Classical.choose_spec (ha i.1 i.2)).1.run pos pins s σ H Q I (q i)⟩, fun σ H ρ φ R S rs rn => Run.all fun i => (Classical.choose_spec (ha i.1 i.2)).2 σ H ρ φ R S rs rn⟩
  obtain ⟨ta, pa, sa⟩ := ha'
  refine ⟨fun Es => tCallS (spM (X.gd T) num m) Es ta, fun W pn xe tk => pe_callS (X := X.tr pn xe) F hr hg hm hk hb (fun σ => passAt tk σ) (pa (pn, xe)) hdb he hpl, fun Es σ H ρ φ R S rs rn => ?_⟩
  refine Run.bnd (c' := fun vs H1 Q => spM (X.gd T) num m vs H1 Q (Es σ)) (Run.calm (sa σ H ρ φ R S rs rn)) (fun ds S1 φ1 xs H1 e0 l1 rs1 r1 => ?_) fun Q q => q
  intro Q hq hx hbad
  exact ⟨φ1, R, S1, ds, rs1, r1, hn _ _ _ _ (Res.calm_ok e0), hbad, hq, hx⟩
end
end MM

/-! In a try's body: o.m(e, ..). -/
namespace MM
open PySem PySem.Spec PyProof.Rows L2
def calmE (m : ME0) : ME0 := fun ρ S => (m ρ S).calm
def calmA (m : MA0) : MA0 := fun ρ S => (m ρ S).calm
section
variable {X : Cx} {CX : CXT} {k : Nat} {C f : Addr} {fd : FuncData} {ps : List Str} {sp : Sp} {ds : List Value} {dvs : List V} {Es : L2.St → XK} {x m : Str} {p pos apos : Pos} {e o : Expr} {es : List Expr} {ta : TE} {t : TA}
theorem pe_methS {pl : Sem Bool} (he : PE X o ta) (c : Cls X.K C) (hm : Meth X.K C m f) (F : FnOk X.prog X.w X.K X.mg X.base CX k f fd ps sp) (hr : Room k X.A) (hb : Binds X.K fd ps ds) (hd : Vals dvs ds) (hx : ∀ σ, PassesAt CX X σ (Es σ)) (ha : PA X (e :: es) t)
    (hst : starEach (e :: es) X.env = (false, eval e X.env) :: starEach es X.env := by rfl) (hpl : (backTo pos (starEach es X.env)).any (·.1) = false := by rfl)
    (ht : eval (.Call (.Attribute o m apos) (e :: es) [] pos) X.env = (do
      let ov ← eval o X.env
      standAt apos.atName
      let (f, first) ← holding [ov] (getMethod ov m pl)
      callWith pos f first (backTo pos (starEach (e :: es) X.env)) (backToKw pos (keywordEach [] X.env))) := by rfl) :
    PE X (.Call (.Attribute o m apos) (e :: es) [] pos) (fun σ H Q => tMeth C m sp dvs (Es σ) ta t σ H Q) := by
  refine ⟨fun pins s σ H Q I h => ?_⟩
  refine PySem.W.methodCall_KW (pl := pl) (thn (he.run pins s σ H _ I h) fun u s1 ⟨x, H1, I1, rx, a, dx, fs, ex, ea, l, q⟩ => ?_) ht
  subst ex
  obtain rfl : u = Value.ref a := rx
  refine getmeth_ok I1 ea c hm l ?_
  refine PySem.W.callWith_K (first := [.ref a]) (h₀ := X.base) I.ok.mod.kin hm.kp (thn (ha.run pos pins s1 σ H1 _ I1 q) fun us s2 ⟨vs, H2, I2, r, q2⟩ => ⟨I2.kIn, ?_⟩) hst hpl
  exact run_fnSD (us := .ref a :: us) (vs := .ref a :: vs) F hr hb hd (hx σ) I2 (.cons rfl r) q2
end
section
variable {T : List Addr} {X : Cx} {c x : Str} {C f : Addr} {fd : FuncData} {ps : List Str} {ds : List Value} {dvs : List V} {cds : List D} {k n : Nat} {m : List D → Store → Res D} {mo : ME0} {ma : MA0} {e o : Expr} {es : List Expr} {p pos apos : Pos}
theorem mes_meth (A : ClsAt X.K X.mg c C) (M : Meth X.K C x f) (F : FnOk X.prog X.w X.K X.mg X.base (L2.CX X.prog X.w) k f fd ps (spM (X.gd T) n m)) (hr : Room k X.A) (hb : Binds X.K fd ps ds) (hd : Vals dvs ds) (hcd : Consts cds dvs)
    (ho : ∀ pn xe, ME T (X.tr pn xe) E0 o mo) (ha : ∀ pn xe, MA T (X.tr pn xe) E0 (e :: es) ma) (hl : ∀ ρ S ds S', ma ρ S = .ok ds S' → ds.length = (e :: es).length) (hn : (e :: es).length + cds.length + 1 = n := by rfl) {pl : Sem Bool} (hst : starEach (e :: es) X.env = (false, eval e X.env) :: starEach es X.env := by rfl) (hpl : (backTo pos (starEach es X.env)).any (·.1) = false := by rfl)
    (ht : eval (.Call (.Attribute o x apos) (e :: es) [] pos) X.env = (do
      let ov ← eval o X.env
      standAt apos.atName
      let (f, first) ← holding [ov] (getMethod ov x pl)
      callWith pos f first (backTo pos (starEach (e :: es) X.env)) (backToKw pos (keywordEach [] X.env))) := by rfl) :
    MEs T X (.Call (.Attribute o x apos) (e :: es) [] pos) (mMeth c x m cds (calmE mo) (calmA ma)) := by
  have ha' : ∃ ta, (∀ i : List (Addr × Obj) × (Value → Shared → Prop), PA (X.tr i.1 i.2) (e :: es) ta) ∧ SndA (X.gd T) E0 ta ma := by
    refine ⟨fun σ H Q => ∀ i : List (Addr × Obj) × (Value → Shared → Prop), Classical.choose (ha i.1 i.2) σ H Q, fun i => ⟨fun pos pins s σ H Q I q => (Classical.choose_spec (ha i.1 i.2)).1.run pos pins s σ H Q I (q i)⟩, fun σ H ρ φ R S rs rn => Run.all fun i => (Classical.choose_spec (ha i.1 i.2)).2 σ H ρ φ R S rs rn⟩
  have ho' : ∃ to, (∀ i : List (Addr × Obj) × (Value → Shared → Prop), PE (X.tr i.1 i.2) o to) ∧ SndE (X.gd T) E0 to mo := all_E (XX := fun i : List (Addr × Obj) × (Value → Shared → Prop) => X.tr i.1 i.2) (G := X.gd T) (E := E0) fun i => ho i.1 i.2
  obtain ⟨ta, pa, sa⟩ := ha'
  obtain ⟨to, po, so⟩ := ho'
  refine ⟨fun Es => fun σ H Q => tMeth C x (spM (X.gd T) n m) dvs (Es σ) to ta σ H Q, fun W pn xe tk => pe_methS (X := X.tr pn xe) (po (pn, xe)) A.cls M F hr hb hd (fun σ => passAt tk σ) (pa (pn, xe)) hst hpl ht, fun Es σ H ρ φ R S rs rn => ?_⟩
  exact SndE.meth (E := Es σ) A.m hcd (mo := calmE mo) (fun σ H ρ φ R S rs rn => Run.calm (so σ H ρ φ R S rs rn)) (fun σ H ρ φ R S rs rn => Run.calm (sa σ H ρ φ R S rs rn)) (fun ρ S ds S' h => by rw [hl ρ S ds S' (Res.calm_ok h)]; exact hn) σ H ρ φ R S rs rn
end
/-! making -/
section
variable {X : Cx} {CX : CXT} {k : Nat} {C f : Addr} {fd : FuncData} {ps : List Str} {sp : Sp} {ds : List Value} {dvs : List V} {E : XK} {Es : L2.St → XK} {x m : Str} {p pos apos : Pos} {e o : Expr} {es : List Expr} {t : TA}
theorem run_makeS {pins : List (Addr × Obj)} {σ : L2.St} {H : Hp} {s : Shared} {Q : VK} {us : List Value} {vs : List V} (M : Mk X.K C f) (F : FnOk X.prog X.w X.K X.mg X.base CX k f fd ps sp) (hr : Room (k + 1) X.A) (hb : Binds X.K fd ps ds) (hd : Vals dvs ds)
    (hx : PassesAt CX X σ E) (I : Inv X pins σ H s) (r : Vals vs us)
    (h : ∀ x dx, H x = none → H dx = none → dx ≠ x → sp (.ref x :: (vs ++ dvs)) (upd (upd H dx (.own x)) x (.ins C dx [])) (fun v H2 => v = .non ∧ Q (.ref x) H2) E) :
    wpAny (model X.prog X.w) X.A (call (.ref C) us) (EP X pins σ Q) X.xe s := by
  have hq := h (s.heap.objs.size + 1) s.heap.objs.size (I.hok.fresh (Nat.le_succ _)) (I.hok.fresh (Nat.le_refl _)) (Nat.ne_of_lt (Nat.lt_succ_self _))
  have I2 := Inv.made (C := C) I
  have r2 : Vals (V.ref (s.heap.objs.size + 1) :: (vs ++ dvs)) (Value.ref (s.heap.objs.size + 1) :: (us ++ ds)) := .cons rfl (r.append hd)
  have hl : (Value.ref (s.heap.objs.size + 1) :: us ++ ds).length = ps.length := by
    have e := r2.length
    rw [F.len _ _ _ _ hq] at e
    exact e.symm
  refine wpAny_call (make_map (f := f) I.kIn M.makes M.init (beq_iff_eq.mp M.fn) (codeAny_mono (F.run _ X.stack _ _ ⟨Value.ref (s.heap.objs.size + 1) :: us, []⟩ (Value.ref (s.heap.objs.size + 1) :: (us ++ ds)) _ _ E (hr.make C us [])
    (I2.env0.make C us []) (hb _ (Value.ref (s.heap.objs.size + 1) :: us) I2.kIn hl) r2 hq) fun r s' hq' => ?_))
  cases r with
  | error e => exact hx pins _ _ e s' I2 hq'
  | ok fl =>
    cases fl with
    | ret u =>
      obtain ⟨v, H', I3, rv, ev, q3⟩ := I2.after hq'
      subst ev
      exact ⟨rv, ⟨V.ref (s.heap.objs.size + 1), H', I3, rfl, q3⟩⟩
    | next => exact False.elim hq'
    | brk => exact False.elim hq'
    | cont => exact False.elim hq'
theorem pe_makeS (M : Mk X.K C f) (F : FnOk X.prog X.w X.K X.mg X.base CX k f fd ps sp) (hr : Room (k + 1) X.A) (hg : Gl X x) (hm : X.mg x = some (.ref C)) (hb : Binds X.K fd ps ds) (hd : Vals dvs ds) (hx : ∀ σ, PassesAt CX X σ (Es σ))
    (ha : PA X (e :: es) t) (hdb : (x == ("__debug__" : Str)) = false := by decide) (he : starEach (e :: es) X.env = (false, eval e X.env) :: starEach es X.env := by rfl) (hpl : (backTo pos (starEach es X.env)).any (·.1) = false := by rfl) :
    PE X (.Call (.Name x p) (e :: es) [] pos) (fun σ H Q => tMake C sp dvs (Es σ) t σ H Q) := by
  refine ⟨fun pins s σ H Q I h => ?_⟩
  refine wpAny_Call_Name_kw (ld_glob I hg hm ?_ hdb)
  refine PySem.W.callWith_K (h₀ := X.base) I.ok.mod.kin M.kp (thn (ha.run pos pins s σ H _ I h) fun us s1 ⟨vs, H1, I1, r, q⟩ => ⟨I1.kIn, ?_⟩) he hpl
  exact run_makeS M F hr hb hd (hx σ) I1 r q
end
section
variable {T : List Addr} {X : Cx} {c : Str} {C f : Addr} {fd : FuncData} {ps : List Str} {ds : List Value} {dvs : List V} {cds : List D} {k n : Nat} {m : List D → Store → Res D} {ma : MA0} {e : Expr} {es : List Expr} {p pos : Pos}
theorem mes_make (A : ClsAt X.K X.mg c C) (M : Mk X.K C f) (F : FnOk X.prog X.w X.K X.mg X.base (L2.CX X.prog X.w) k f fd ps (spM (X.gd T) n m)) (hr : Room (k + 1) X.A) (hg : Gl X c) (hb : ∃ ds, Vals dvs ds ∧ Binds X.K fd ps ds) (hcd : Consts cds dvs)
    (ha : ∀ pn xe, MA T (X.tr pn xe) E0 (e :: es) ma) (hl : ∀ ρ S ds S', ma ρ S = .ok ds S' → ds.length = (e :: es).length) (hn : (e :: es).length + cds.length + 1 = n := by rfl) (hdb : (c == ("__debug__" : Str)) = false := by decide) (he : starEach (e :: es) X.env = (false, eval e X.env) :: starEach es X.env := by rfl) (hpl : (backTo pos (starEach es X.env)).any (·.1) = false := by rfl) :
    MEs T X (.Call (.Name c p) (e :: es) [] pos) (mMake c m cds (calmA ma)) := by
  obtain ⟨ds, hd, hb⟩ := hb
  have ha' : ∃ ta, (∀ i : List (Addr × Obj) × (Value → Shared → Prop), PA (X.tr i.1 i.2) (e :: es) ta) ∧ SndA (X.gd T) E0 ta ma := by
    refine ⟨fun σ H Q => ∀ i : List (Addr × Obj) × (Value → Shared → Prop), Classical.choose (ha i.1 i.2) σ H Q, fun i => ⟨fun pos pins s σ H Q I q => (Classical.choose_spec (ha i.1 i.2)).1.run pos pins s σ H Q I (q i)⟩, fun σ H ρ φ R S rs rn => Run.all fun i => (Classical.choose_spec (ha i.1 i.2)).2 σ H ρ φ R S rs rn⟩
  obtain ⟨ta, pa, sa⟩ := ha'
  refine ⟨fun Es => fun σ H Q => tMake C (spM (X.gd T) n m) dvs (Es σ) ta σ H Q, fun W pn xe tk => pe_makeS (X := X.tr pn xe) M F hr hg A.m hb hd (fun σ => passAt tk σ) (pa (pn, xe)) hdb he hpl, fun Es σ H ρ φ R S rs rn => ?_⟩
  exact SndE.make (E := Es σ) A.m hcd (fun σ H ρ φ R S rs rn => Run.calm (sa σ H ρ φ R S rs rn)) (fun ρ S ds S' h => by rw [hl ρ S ds S' (Res.calm_ok h)]; exact hn) σ H ρ φ R S rs rn
end
end MM

/-! In a try's body: a if c else b. -/
namespace MM
open PySem PySem.Spec PyProof.Rows L2
def mIfC (c : MT0) (a b : ME0) : ME0 := fun ρ S => (c ρ S).calm.bind fun x S1 => if x = true then a ρ S1 else b ρ S1
section
variable {T : List Addr} {X : Cx} {cd a b : Expr} {mc : MT0} {m1 m2 : ME0} {pos : Pos}
theorem mes_if (hc : ∀ pn xe, MT T (X.tr pn xe) E0 cd mc) (ha : MEs T X a m1) (hb : MEs T X b m2) : MEs T X (.IfExp cd a b pos) (mIfC mc m1 m2) := by
  have hc' : ∃ tc, (∀ i : List (Addr × Obj) × (Value → Shared → Prop), PT (X.tr i.1 i.2) cd tc) ∧ SndT (X.gd T) E0 tc mc := by
    refine ⟨fun σ H Q => ∀ i : List (Addr × Obj) × (Value → Shared → Prop), Classical.choose (hc i.1 i.2) σ H Q, fun i => ⟨fun pins s σ H Q I q => (Classical.choose_spec (hc i.1 i.2)).1.run pins s σ H Q I (q i)⟩, fun σ H ρ φ R S rs rn => Run.all fun i => (Classical.choose_spec (hc i.1 i.2)).2 σ H ρ φ R S rs rn⟩
  obtain ⟨tc, pc, sc⟩ := hc'
  obtain ⟨ta, pa, sa⟩ := ha
  obtain ⟨tb, pb, sb⟩ := hb
  refine ⟨fun Es σ H Q => tc σ H fun k H1 => if k = true then ta Es σ H1 Q else tb Es σ H1 Q, fun W pn xe tk => pe_ifExp (X := X.tr pn xe) (pc (pn, xe)) (pa W pn xe tk) (pb W pn xe tk), fun Es σ H ρ φ R S rs rn => ?_⟩
  refine Run.bnd (c' := fun k H1 Q => if k = true then ta Es σ H1 Q else tb Es σ H1 Q) (Run.calm (sc σ H ρ φ R S rs rn)) (fun d S1 φ1 x H1 _ l1 rs1 r1 => ?_) fun Q q => q
  have e1 : d = x := r1
  subst e1
  cases d with
  | true => exact Run.conv (sa Es σ H1 ρ φ1 R S1 rs1 (rn.le l1)) fun Q q => by rw [if_pos rfl]; exact q
  | false => exact Run.conv (sb Es σ H1 ρ φ1 R S1 rs1 (rn.le l1)) fun Q q => by rw [if_neg Bool.false_ne_true]; exact q
end
end MM

/-! calls by keywords alone in a try's body. -/
namespace MM
open PySem PySem.Spec PyProof.Rows L2
section
variable {T : List Addr} {X : Cx} {k n : Nat} {f : Addr} {fd : FuncData} {ps ks : List Str} {x : Str} {p pos : Pos} {kws : List Keyword}
theorem fnkAt {CX : CXT} {sp : Sp} {E : XK} {g : List Value → List Value → List Value} {gV : List V → List V → List V} (F : FnOk X.prog X.w X.K X.mg X.base CX k f fd ps sp) (hr : Room k X.A) (hb : KBinds X.K fd ps ks g gV) {σ : L2.St} (hx : PassesAt CX X σ E)
    {pins : List (Addr × Obj)} {H : Hp} {s : Shared} {Q : VK} {us ws : List Value} {vs zs : List V} (I : Inv X pins σ H s) (rv : Vals vs us) (rz : Vals zs ws) (q : sp (gV vs zs) H Q E) : wpAny (model X.prog X.w) X.A (call (.ref f) us (ks.zip ws)) (EP X pins σ Q) X.xe s := by
  have rr := hb.rel rv rz
  have enough : (g us ws).length = ps.length := rr.length.symm.trans (F.len _ _ _ _ q)
  have run := F.run X.A X.stack s H ⟨us, ks.zip ws⟩ (g us ws) (gV vs zs) Q E hr I.env0 (hb.to s us ws I.kIn enough) rr q
  exact wpAny_call (codeAny_mono run fun out s' ho => match out, ho with
    | .error e, ho => hx pins H s e s' I ho
    | .ok (.ret _), ho => I.after ho)
theorem pe_callK0S {CX : CXT} {sp : Sp} {E : L2.St → XK} {tk : TA} {g : List Value → List Value → List Value} {gV : List V → List V → List V} (F : FnOk X.prog X.w X.K X.mg X.base CX k f fd ps sp) (hr : Room k X.A) (hg : Gl X x) (hm : X.mg x = some (.ref f)) (hk : PySem.W.keepIn X.K (.ref f) = true) (hb : KBinds X.K fd ps ks g gV) (hx : ∀ σ, PassesAt CX X σ (E σ))
    (hkw : PK X kws tk) (hall : (backToKw pos (keywordEach kws X.env)).all (·.1.isSome) = true := by rfl) (hks : (backToKw pos (keywordEach kws X.env)).filterMap (·.1) = ks := by rfl)
    (hdb : (x == ("__debug__" : Str)) = false := by decide)
    (hpl : ((backTo pos (starEach [] X.env)).any (·.1) || (backToKw pos (keywordEach kws X.env)).any (·.1.isNone)) = false := by rfl) :
    PE X (.Call (.Name x p) [] kws pos) (fun σ H Q => tk σ H fun ws H2 => sp (gV [] ws) H2 Q (E σ)) := by
  refine ⟨fun pins s σ H Q I h => ?_⟩
  refine wpAny_Call_Name_kw (ld_glob I hg hm ?_ hdb)
  refine PySem.W.callWith_KW0 (h₀ := X.base) I.ok.mod.kin hk hall ?_ hpl
  refine thn (hkw.run pos pins s σ H _ I h) fun ws s2 ⟨zs, H2, I2, rz, q2⟩ => ⟨I2.kIn, ?_⟩
  rw [hks]
  exact fnkAt F hr hb (hx σ) I2 .nil rz q2
/-- f(k = v, ..): the arguments raise nothing -/
theorem mes_callK0 {n2 : Nat} {ix : List Nat} {m : List D → Store → Res D} {mk : MA0} (F : FnOk X.prog X.w X.K X.mg X.base (L2.CX X.prog X.w) k f fd ps (spM (X.gd T) n m)) (hr : Room k X.A) (hg : Gl X x) (hm : X.mg x = some (.ref f)) (hk : PySem.W.keepIn X.K (.ref f) = true) (hb : KTo X.K fd ps ks 0 n2 ix) (hp : 0 < ps.length)
    (hkw : ∀ pn xe, MKn T (X.tr pn xe) E0 kws mk) (hix : ∀ us ws : List D, us.length = 0 → ws.length = n2 → (perm 0 n2 ix us ws).length = n) (hn2 : kws.length = n2 := by rfl)
    (hall : (backToKw pos (keywordEach kws X.env)).all (·.1.isSome) = true := by rfl) (hks : (backToKw pos (keywordEach kws X.env)).filterMap (·.1) = ks := by rfl)
    (hdb : (x == ("__debug__" : Str)) = false := by decide)
    (hpl : ((backTo pos (starEach [] X.env)).any (·.1) || (backToKw pos (keywordEach kws X.env)).any (·.1.isNone)) = false := by rfl) : MEs T X (.Call (.Name x p) [] kws pos) (mCallC (fun ws S => m (perm 0 n2 ix [] ws) S) mk) := by
  have hl : ∀ ρ S ds S', mk ρ S = .ok ds S' → ds.length = n2 := fun ρ S ds S' h => ((hkw [] (fun _ _ => True)).2 ρ S ds S' h).trans hn2
  have all : ∃ tk, (∀ i : List (Addr × Obj) × (Value → Shared → Prop), PK (X.tr i.1 i.2) kws tk) ∧ SndA (X.gd T) E0 tk mk := by
    refine ⟨fun σ H Q => ∀ i : List (Addr × Obj) × (Value → Shared → Prop), Classical.choose (hkw i.1 i.2).1 σ H Q, fun i => ⟨fun pos pins s σ H Q I q => (Classical.choose_spec (hkw i.1 i.2).1).1.run pos pins s σ H Q I (q i)⟩, fun σ H ρ φ R S rs rn => Run.all fun i => (Classical.choose_spec (hkw i.1 i.2).1).2 σ H ρ φ R S rs rn⟩
  obtain ⟨tk, pk, sk⟩ := all
  refine ⟨fun Es σ H Q => tk σ H fun ws H2 => spM (X.gd T) n m (perm 0 n2 ix [] ws) H2 Q (Es σ), fun W pn xe tk' => pe_callK0S (X := X.tr pn xe) F hr hg hm hk (hb.kb hp) (fun σ => passAt tk' σ) (pk (pn, xe)) hall hks hdb hpl, fun Es σ H ρ φ R S rs rn => ?_⟩
  refine Run.bnd (c' := fun ws H1 Q => spM (X.gd T) n m (perm 0 n2 ix [] ws) H1 Q (Es σ)) (Run.calm (sk σ H ρ φ R S rs rn)) (fun es S1 φ1 ys H1 e0 l1 rs1 r1 => ?_) fun Q q => q
  intro Q hq hx hbad
  have l2 := hl _ _ _ _ (Res.calm_ok e0)
  refine ⟨φ1, R, S1, perm 0 n2 ix [] es, rs1, ?_, hix _ _ rfl l2, hbad, hq, hx⟩
  unfold perm
  rw [RvL.length r1]
  simp only [List.length_nil, true_and]
  split
  · exact RvL.pick (RvL.append RvL.nil r1) ix
  · exact RvL.nil
end
end MM

/-! The end of a law row. -/
namespace MM
open PySem PySem.Spec L2 PyProof.Rows
def Names (q : Program) (K : PySem.W.Frag) (mg : Str → Option Value) (h : Heap) : Prop := ∀ (x : Str) (f : Addr), ((recsOf q).any fun e => e.name == x) = true → mg x = some (.ref f) → LamX.OwnTab K f h
/-- what the law's own def must come to -/
def LawM (l : PySem.W.OpenLaw) (w : World) (K : PySem.W.Frag) (k : Nat) (x : Str) (mg : Str → Option Value) (fa : Addr) (h : Heap) (m : List D → Store → Res D) : Prop :=
  ∃ (fd : FuncData) (cs : List (Addr × Addr)), (∀ p ∈ cs, h.get? p.2 = some { cls := .none, data := .fields #[] } ∧ K.lookup p.2 = none ∧ PySem.W.CodeHd h p.1 p.2) ∧ (∀ (s : Shared) (u : Value), BindsTo s fd ⟨[u], []⟩ [(x, u)]) ∧
    ∀ base : Heap, K.In base → base.Ns mainGlobals mg → (∀ p ∈ cs, GxR.TabB base mg p.1 p.2) → FnOk l.prog w K mg base (L2.CX l.prog w) k fa fd [x] (spM ⟨K, mg, cs.map (·.2)⟩ 1 m)
theorem Fz.of_sq {K : PySem.W.Frag} {H : Hp} {a : Addr} {vs : List V} (h : SqL K H a vs) : Fz K [] [] H a vs := by
  rcases h with h | h
  · exact .inl ⟨List.not_mem_nil, List.not_mem_nil, h⟩
  · exact .inr h
theorem RvL.ints {G : Gd} {R φ : List Addr} {H : Hp} : ∀ ns : List Int, RvL G R φ H (ns.map D.int) (ns.map V.int)
  | [] => RvL.nil
  | n :: ns => RvL.cons Rv.int (RvL.ints ns)
theorem walk_mm {l : PySem.W.OpenLaw} {n k : Nat} {q : Program} {loose : List Str} {XP : (Str → Option Value) → Heap → Prop} {YP : World → Heap → Prop} {d : DefRec} {K : Params → PySem.W.Frag} {x : Str} {m : List D → Store → Res D}
    (hn : l.most = some n) (hn2 : n ≤ sizeLine) (hdf : d.params.defaults = []) (hr : Room k callerA) (hY : ∀ (w : World) (h : Heap), YP w h → (K w.params).In h)
    (F : ∀ (w : World) (mg : Str → Option Value) (fa : Addr) (h : Heap), YP w h → (K w.params).In h → h.Ns mainGlobals mg → mg d.name = some (.ref fa) → Names q (K w.params) mg h → LawM l w (K w.params) k x mg fa h m)
    (hm : ∀ ns : List Int, ns.length ≤ n → (∀ z ∈ ns, Builtin.Int.intBits z ≤ 1048576) → ∃ S, m [.frz (ns.map .int)] [] = .ok (.bl true) S) :
    PySem.W.WalkO q loose XP YP l.row.toRowW d [] (fun f vs => PySem.call f vs) := by
  refine Att.attach_callB hn hdf fun w s₀ s₁ mg mb fa o pm cd doc a vs ns G Y ho hd hcd hmg hobj hints hlen hbits hg => ?_
  have KX := hY w _ Y
  have own : Names q (K w.params) mg s₁.heap := fun x f hx hf c P o1 fd1 e dd vs1 sl k1 k2 k3 k4 k5 => by
    obtain ⟨dL, hm, hn1⟩ := List.any_eq_true.mp hx
    have hn2 : dL.name = x := beq_iff_eq.mp hn1
    obtain ⟨a', o', fd', c', P', h1, h2, h3, h4, h5, h6⟩ := G.T.tab dL hm
    rw [hn2, hf] at h1
    cases h1
    have g1 := KX _ _ k1
    rw [g1] at h2
    cases h2
    rw [k2] at h3
    cases h3
    rw [k3] at h4
    cases h4
    obtain ⟨⟨oc, vc, e1, _, e3, e4⟩, hP⟩ := h6
    have g2 := KX _ _ k4
    rw [g2] at e1
    cases e1
    cases e3
    rw [k5] at e4
    cases e4
    exact hP
  obtain ⟨fd, cs, hcs, hb, hF⟩ := F w mg fa _ Y KX G.T.g hmg own
  refine LamX.law_callTs (K := K w.params) (CX := L2.CX l.prog w) (k := k) (x := x) (sp := spM ⟨K w.params, mg, cs.map (·.2)⟩ 1 m) KX G.T.g G.T.b G.T.builtins G.T.nolimit hg (fun p hp => (hcs p hp).1) (fun p hp => (hcs p hp).2.1) (fun p hp => (hcs p hp).2.2) G.T.bmain hobj hints (Nat.le_trans hlen hn2) hr (fun base h1 h2 h3 => hF base h1 h2 fun p hp => ⟨(h3 p hp).code, (h3 p hp).bm, (h3 p hp).gP⟩) hb (fun H hH hS => ?_) fun H e s' h => ?_
  · obtain ⟨S', e⟩ := hm ns hlen hbits
    refine ⟨[], [], [], [.frz (ns.map .int)], ⟨List.nodup_nil, rfl, fun _ h => (List.not_mem_nil h).elim, fun _ _ _ h => by simp at h, fun _ h => (List.not_mem_nil h).elim, fun p hp => ?_⟩, ?_, rfl, ?_, ?_, ?_⟩
    · obtain ⟨q, hq, rfl⟩ := List.mem_map.mp hp
      exact ⟨#[], hH q hq, trivial⟩
    · refine RvL.cons ?_ RvL.nil
      unfold Rv
      exact ⟨a, _, rfl, Fz.of_sq hS, RvL.ints ns⟩
    · rw [e]
      exact fun z => nomatch z
    · intro d S1 φ' v H' e1 _ _ r
      rw [e] at e1
      cases e1
      exact Rv.bl_of r
    · intro er S1 φ' H' cl d e1
      rw [e] at e1
      cases e1
  · obtain ⟨_, _, _, _, _, _, _, _, _, _, _, _, z⟩ := h
    exact z.elim
end MM

/-! Working with mirrors: what a computation comes to, step by step (no program in sight). -/
namespace MM
open PySem L2
/-- it ends in Q, or raises an error of E -/
def W {α : Type} (r : Res α) (Q : α → Store → Prop) (E : Er → Store → Prop) : Prop := match r with
  | .ok a S => Q a S
  | .exc e S => E e S
  | .bad => False
abbrev Er0 : Er → Store → Prop := fun _ _ => False
section
variable {α β : Type} {Q : α → Store → Prop} {E : Er → Store → Prop}
theorem W_ok (a : α) (S : Store) : W (.ok a S) Q E = Q a S := rfl
theorem W_exc (e : Er) (S : Store) : W (.exc e S : Res α) Q E = E e S := rfl
theorem W_bad : W (.bad : Res α) Q E = False := rfl
theorem W_bind {r : Res β} {k : β → Store → Res α} : W (r.bind k) Q E = W r (fun a S => W (k a S) Q E) E := by cases r <;> rfl
theorem W.mono {r : Res α} {Q' : α → Store → Prop} (h : W r Q E) (hq : ∀ a S, Q a S → Q' a S) : W r Q' E := by
  cases r with
  | ok a S => exact hq a S h
  | exc e S => exact h
  | bad => exact h
theorem W.mono2 {r : Res α} {Q' : α → Store → Prop} {E' : Er → Store → Prop} (h : W r Q E) (hq : ∀ a S, Q a S → Q' a S) (he : ∀ e S, E e S → E' e S) : W r Q' E' := by
  cases r with
  | ok a S => exact hq a S h
  | exc e S => exact he e S h
  | bad => exact h
theorem W.ex {r : Res α} (h : W r Q Er0) : ∃ a S, r = .ok a S ∧ Q a S := by
  cases r with
  | ok a S => exact ⟨a, S, rfl, h⟩
  | exc e S => exact h.elim
  | bad => exact h.elim
theorem W_calm {r : Res α} (h : W r Q Er0) : W r.calm Q E := by
  cases r with
  | ok a S => exact h
  | exc e S => exact h.elim
  | bad => exact h
end
/-! ### continuations by names, so that nothing is opened ahead of its turn -/
section
variable (Q : D → Store → Prop) (QA : List D → Store → Prop) (QT : Bool → Store → Prop) (QS : Fl × Rho → Store → Prop) (QR : Rho → Store → Prop) (QI : ItD → Store → Prop) (E : Er → Store → Prop)
def kVar (o : Option (Option D)) (S : Store) : Prop := match o with
  | some (some d) => Q d S
  | _ => False
def kOp1 (f : D → D → Store → Res D) (b : ME0) (ρ : Rho) : D → Store → Prop := fun x S => W (b ρ S) (fun y S2 => W (f x y S2) Q E) E
def kOp2 (f : D → D → Store → Res D) (x : D) : D → Store → Prop := fun y S => W (f x y S) Q E
def kUn (f : D → Store → Res D) : D → Store → Prop := fun x S => W (f x S) Q E
def kCons1 (mr : MA0) (ρ : Rho) : D → Store → Prop := fun x S => W (mr ρ S) (fun xs S2 => QA (x :: xs) S2) E
def kCons2 (x : D) : List D → Store → Prop := fun xs S => QA (x :: xs) S
def kCall (f : List D → Store → Res D) : List D → Store → Prop := fun xs S => W (f xs S) Q E
def kTup : List D → Store → Prop := fun xs S => Q (.tup xs) S
def kLst : List D → Store → Prop := fun xs S => Q (.lst xs) S
def kLstS : List D → Store → Prop := fun xs S => Q (.ref S.length) (S ++ [.lst xs])
def kSeq (b : MS0) : Fl × Rho → Store → Prop := fun x S => match x.1 with
  | .nx => W (b x.2 S) QS E
  | fl => QS (fl, x.2) S
def kExpr (ρ : Rho) : D → Store → Prop := fun _ S => QS (.nx, ρ) S
def kRet (ρ : Rho) : D → Store → Prop := fun d S => QS (.rt d, ρ) S
def kIf (a b : MS0) (ρ : Rho) : Bool → Store → Prop := fun x S => if x = true then W (a ρ S) QS E else W (b ρ S) QS E
def kIfE (a b : ME0) (ρ : Rho) : Bool → Store → Prop := fun x S => if x = true then W (a ρ S) Q E else W (b ρ S) Q E
def kB : D → Store → Prop := fun x S => match x with
  | .bl b => QT b S
  | _ => False
def kAndT (b : MT0) (ρ : Rho) : Bool → Store → Prop := fun x S => if x = true then W (b ρ S) QT E else QT false S
def kOrT (b : MT0) (ρ : Rho) : Bool → Store → Prop := fun x S => if x = true then QT true S else W (b ρ S) QT E
def kNotT : Bool → Store → Prop := fun x S => QT (!x) S
def kAndV (b : ME0) (ρ : Rho) : D → Store → Prop := fun x S => match x with
  | .bl c => if c = true then W (b ρ S) Q E else Q (.bl false) S
  | _ => False
def kOrV (b : ME0) (ρ : Rho) : D → Store → Prop := fun x S => match x with
  | .bl c => if c = true then Q (.bl true) S else W (b ρ S) Q E
  | _ => False
def kNotV : D → Store → Prop := fun x S => match x with
  | .bl b => Q (.bl (!b)) S
  | _ => False
def kCmp1 (f g : D → D → Store → Res D) (mb mc : ME0) (ρ : Rho) : D → Store → Prop := fun x S1 => W (mb ρ S1) (fun y S2 => W (f x y S2) (fun z S3 => match z with
  | .bl c => if c = true then W (mc ρ S3) (fun w S4 => W (g y w S4) Q E) E else Q (.bl false) S3
  | _ => False) E) E
def kCmp2 (f g : D → D → Store → Res D) (mc : ME0) (ρ : Rho) (x : D) : D → Store → Prop := fun y S2 => W (f x y S2) (fun z S3 => match z with
  | .bl c => if c = true then W (mc ρ S3) (fun w S4 => W (g y w S4) Q E) E else Q (.bl false) S3
  | _ => False) E
def kCmp3 (g : D → D → Store → Res D) (mc : ME0) (ρ : Rho) (y : D) : D → Store → Prop := fun z S3 => match z with
  | .bl c => if c = true then W (mc ρ S3) (fun w S4 => W (g y w S4) Q E) E else Q (.bl false) S3
  | _ => False
def kAsg (g : MG0) (ρ : Rho) : D → Store → Prop := fun d S => W (g d ρ S) (fun ρ1 S2 => QS (.nx, ρ1) S2) E
def kAsg2 : Rho → Store → Prop := fun ρ S => QS (.nx, ρ) S
def kGs (gs : MGs0) (r : List D) : Rho → Store → Prop := fun ρ S => W (gs r ρ S) QR E
def kIx1 (d : D) (mi : ME0) (ρ : Rho) : D → Store → Prop := fun o S1 => W (mi ρ S1) (fun i S2 => match o, i with
  | .ref n, .int k => match lstAt S2 n with
    | some ds => match ixN ds.length k with
      | some j => QR ρ (S2.set n (.lst (ds.set j d)))
      | none => False
    | none => False
  | _, _ => False) E
def kIx2 (d : D) (ρ : Rho) (o : D) : D → Store → Prop := fun i S2 => match o, i with
  | .ref n, .int k => match lstAt S2 n with
    | some ds => match ixN ds.length k with
      | some j => QR ρ (S2.set n (.lst (ds.set j d)))
      | none => False
    | none => False
  | _, _ => False
def kFor (g : MG0) (b : MS0) (ρ : Rho) : ItD → Store → Prop := fun it S => W (forL g b BIG 0 it ρ S) QS E
def kLc (g : MG0) (tt : MT0) (te : ME0) (vs : List Nat) (ρ : Rho) : ItD → Store → Prop := fun it S => W (lcL g tt te BIG 0 it (wipeD ρ vs) [] S) QA E
def kNxt (g : MG0) (tt : MT0) (te : ME0) (vs : List Nat) (ρ : Rho) : ItD → Store → Prop := fun it S => W (nxL g tt te BIG 0 it (wipeD ρ vs) S) Q E
def kIt : D → Store → Prop := fun d S => match itOf S d with
  | some it => QI it S
  | none => False
def kDef : Fl × Rho → Store → Prop := fun x S => match x.1 with
  | .nx => Q .non S
  | .rt d => Q d S
  | _ => False
end
section
variable {Q : D → Store → Prop} {QA : List D → Store → Prop} {QT : Bool → Store → Prop} {QS : Fl × Rho → Store → Prop} {QR : Rho → Store → Prop} {QI : ItD → Store → Prop} {E : Er → Store → Prop} {ρ : Rho} {S : Store}
theorem W_var {i : Nat} : W (mVar i ρ S) Q E = kVar Q ρ[i]? S := by
  unfold mVar
  cases ρ[i]? with
  | none => rfl
  | some o => cases o <;> rfl
theorem k_var {d : D} : kVar Q (some (some d)) S = Q d S := rfl
theorem W_c {d : D} : W (mC d ρ S) Q E = Q d S := rfl
theorem W_op {f : D → D → Store → Res D} {a b : ME0} : W (mOp f a b ρ S) Q E = W (a ρ S) (kOp1 Q E f b ρ) E := by
  unfold mOp; rw [W_bind]; unfold kOp1
  simp only [W_bind]
theorem k_op1 {f : D → D → Store → Res D} {b : ME0} {x : D} : kOp1 Q E f b ρ x S = W (b ρ S) (kOp2 Q E f x) E := rfl
theorem k_op2 {f : D → D → Store → Res D} {x y : D} : kOp2 Q E f x y S = W (f x y S) Q E := rfl
theorem W_un {f : D → Store → Res D} {a : ME0} : W (mUn f a ρ S) Q E = W (a ρ S) (kUn Q E f) E := W_bind
theorem k_un {f : D → Store → Res D} {x : D} : kUn Q E f x S = W (f x S) Q E := rfl
theorem W_nil : W (mNil ρ S) QA E = QA [] S := rfl
theorem W_cons {a : ME0} {r : MA0} : W (mCons a r ρ S) QA E = W (a ρ S) (kCons1 QA E r ρ) E := by
  unfold mCons; rw [W_bind]; unfold kCons1
  simp only [W_bind, W_ok]
theorem k_cons1 {r : MA0} {x : D} : kCons1 QA E r ρ x S = W (r ρ S) (kCons2 QA x) E := rfl
theorem k_cons2 {x : D} {xs : List D} : kCons2 QA x xs S = QA (x :: xs) S := rfl
theorem W_call {f : List D → Store → Res D} {ma : MA0} : W (mCall f ma ρ S) Q E = W (ma ρ S) (kCall Q E f) E := W_bind
theorem k_call {f : List D → Store → Res D} {xs : List D} : kCall Q E f xs S = W (f xs S) Q E := rfl
theorem W_tup {ma : MA0} : W (mTup ma ρ S) Q E = W (ma ρ S) (kTup Q) E := W_bind
theorem k_tup {xs : List D} : kTup Q xs S = Q (.tup xs) S := rfl
theorem W_lst {ma : MA0} : W (mLst ma ρ S) Q E = W (ma ρ S) (kLst Q) E := W_bind
theorem k_lst {xs : List D} : kLst Q xs S = Q (.lst xs) S := rfl
theorem W_lstS {ma : MA0} : W (mLstS ma ρ S) Q E = W (ma ρ S) (kLstS Q) E := W_bind
theorem k_lstS {xs : List D} : kLstS Q xs S = Q (.ref S.length) (S ++ [.lst xs]) := rfl
theorem W_seq {a b : MS0} : W (sSeq a b ρ S) QS E = W (a ρ S) (kSeq QS E b) E := by
  unfold sSeq; rw [W_bind]
  congr 1
  funext x S1
  obtain ⟨fl, ρ1⟩ := x
  cases fl <;> rfl
theorem k_seq_nx {b : MS0} : kSeq QS E b (.nx, ρ) S = W (b ρ S) QS E := rfl
theorem k_seq_rt {b : MS0} {d : D} : kSeq QS E b (.rt d, ρ) S = QS (.rt d, ρ) S := rfl
theorem k_seq_bk {b : MS0} : kSeq QS E b (.bk, ρ) S = QS (.bk, ρ) S := rfl
theorem k_seq_ct {b : MS0} : kSeq QS E b (.ct, ρ) S = QS (.ct, ρ) S := rfl
theorem W_expr {a : ME0} : W (sExpr a ρ S) QS E = W (a ρ S) (kExpr QS ρ) E := W_bind
theorem k_expr {d : D} : kExpr QS ρ d S = QS (.nx, ρ) S := rfl
theorem W_ret {a : ME0} : W (sRet a ρ S) QS E = W (a ρ S) (kRet QS ρ) E := W_bind
theorem k_ret {d : D} : kRet QS ρ d S = QS (.rt d, ρ) S := rfl
theorem W_retN : W (sRetN ρ S) QS E = QS (.rt .non, ρ) S := rfl
theorem W_nx : W (sNx ρ S) QS E = QS (.nx, ρ) S := rfl
theorem W_bk : W (sBk ρ S) QS E = QS (.bk, ρ) S := rfl
theorem W_ct : W (sCt ρ S) QS E = QS (.ct, ρ) S := rfl
theorem W_if {c : MT0} {a b : MS0} : W (sIf c a b ρ S) QS E = W (c ρ S) (kIf QS E a b ρ) E := by
  unfold sIf; rw [W_bind]
  congr 1
  funext x S1
  cases x <;> rfl
theorem k_if_t {a b : MS0} : kIf QS E a b ρ true S = W (a ρ S) QS E := rfl
theorem k_if_f {a b : MS0} : kIf QS E a b ρ false S = W (b ρ S) QS E := rfl
theorem k_if_d {a b : MS0} {p : Prop} [h : Decidable p] : kIf QS E a b ρ (decide p) S = if p then W (a ρ S) QS E else W (b ρ S) QS E := by
  cases h <;> rfl
theorem W_ifE {c : MT0} {a b : ME0} : W (mIfE c a b ρ S) Q E = W (c ρ S) (kIfE Q E a b ρ) E := by
  unfold mIfE; rw [W_bind]
  congr 1
  funext x S1
  cases x <;> rfl
theorem k_ifE_t {a b : ME0} : kIfE Q E a b ρ true S = W (a ρ S) Q E := rfl
theorem k_ifE_f {a b : ME0} : kIfE Q E a b ρ false S = W (b ρ S) Q E := rfl
theorem W_b {a : ME0} : W (mB a ρ S) QT E = W (a ρ S) (kB QT) E := by
  unfold mB; rw [W_bind]
  congr 1
  funext x S1
  cases x <;> rfl
theorem k_b {b : Bool} : kB QT (.bl b) S = QT b S := rfl
theorem W_andT {a b : MT0} : W (mAndT a b ρ S) QT E = W (a ρ S) (kAndT QT E b ρ) E := by
  unfold mAndT; rw [W_bind]
  congr 1
  funext x S1
  cases x <;> rfl
theorem k_andT_t {b : MT0} : kAndT QT E b ρ true S = W (b ρ S) QT E := rfl
theorem k_andT_f {b : MT0} : kAndT QT E b ρ false S = QT false S := rfl
theorem W_orT {a b : MT0} : W (mOrT a b ρ S) QT E = W (a ρ S) (kOrT QT E b ρ) E := by
  unfold mOrT; rw [W_bind]
  congr 1
  funext x S1
  cases x <;> rfl
theorem k_orT_t {b : MT0} : kOrT QT E b ρ true S = QT true S := rfl
theorem k_orT_f {b : MT0} : kOrT QT E b ρ false S = W (b ρ S) QT E := rfl
theorem W_notT {a : MT0} : W (mNotT a ρ S) QT E = W (a ρ S) (kNotT QT) E := W_bind
theorem k_notT {b : Bool} : kNotT QT b S = QT (!b) S := rfl
theorem W_yes : W (mYes ρ S) QT E = QT true S := rfl
theorem W_andV {a b : ME0} : W (mAndV a b ρ S) Q E = W (a ρ S) (kAndV Q E b ρ) E := by
  unfold mAndV; rw [W_bind]
  congr 1
  funext x S1
  cases x with
  | bl c => cases c <;> rfl
  | _ => rfl
theorem k_andV_t {b : ME0} : kAndV Q E b ρ (.bl true) S = W (b ρ S) Q E := rfl
theorem k_andV_f {b : ME0} : kAndV Q E b ρ (.bl false) S = Q (.bl false) S := rfl
theorem W_orV {a b : ME0} : W (mOrV a b ρ S) Q E = W (a ρ S) (kOrV Q E b ρ) E := by
  unfold mOrV; rw [W_bind]
  congr 1
  funext x S1
  cases x with
  | bl c => cases c <;> rfl
  | _ => rfl
theorem k_orV_t {b : ME0} : kOrV Q E b ρ (.bl true) S = Q (.bl true) S := rfl
theorem k_orV_f {b : ME0} : kOrV Q E b ρ (.bl false) S = W (b ρ S) Q E := rfl
theorem W_notV {a : ME0} : W (mNotV a ρ S) Q E = W (a ρ S) (kNotV Q) E := by
  unfold mNotV; rw [W_bind]
  congr 1
  funext x S1
  cases x <;> rfl
theorem k_notV {b : Bool} : kNotV Q (.bl b) S = Q (.bl (!b)) S := rfl
theorem W_cmpC {f g : D → D → Store → Res D} {a b c : ME0} : W (mCmpC f g a b c ρ S) Q E = W (a ρ S) (kCmp1 Q E f g b c ρ) E := by
  unfold mCmpC; rw [W_bind]
  congr 1
  funext x S1
  unfold kCmp1
  rw [W_bind]
  congr 1
  funext y S2
  rw [W_bind]
  congr 1
  funext z S3
  cases z with
  | bl c =>
    cases c
    · rfl
    · exact W_bind
  | _ => rfl
theorem k_cmp1 {f g : D → D → Store → Res D} {mb mc : ME0} {x : D} : kCmp1 Q E f g mb mc ρ x S = W (mb ρ S) (kCmp2 Q E f g mc ρ x) E := rfl
theorem k_cmp2 {f g : D → D → Store → Res D} {mc : ME0} {x y : D} : kCmp2 Q E f g mc ρ x y S = W (f x y S) (kCmp3 Q E g mc ρ y) E := rfl
theorem k_cmp3_t {g : D → D → Store → Res D} {mc : ME0} {y : D} : kCmp3 Q E g mc ρ y (.bl true) S = W (mc ρ S) (kOp2 Q E g y) E := rfl
theorem k_cmp3_f {g : D → D → Store → Res D} {mc : ME0} {y : D} : kCmp3 Q E g mc ρ y (.bl false) S = Q (.bl false) S := rfl
theorem W_asg {a : ME0} {g : MG0} : W (sAsg a g ρ S) QS E = W (a ρ S) (kAsg QS E g ρ) E := by
  unfold sAsg; rw [W_bind]
  congr 1
  funext x S1
  exact W_bind
theorem k_asg {g : MG0} {d : D} : kAsg QS E g ρ d S = W (g d ρ S) (kAsg2 QS) E := rfl
theorem k_asg2 : kAsg2 QS ρ S = QS (.nx, ρ) S := rfl
theorem W_gN {i : Nat} {d : D} : W (gN i d ρ S) QR E = QR (ρ.set i (some d)) S := rfl
theorem W_gsNil : W (gsNil [] ρ S) QR E = QR ρ S := rfl
theorem W_gsCons {g : MG0} {gs : MGs0} {d : D} {r : List D} : W (gsCons g gs (d :: r) ρ S) QR E = W (g d ρ S) (kGs QR E gs r) E := W_bind
theorem k_gs {gs : MGs0} {r : List D} : kGs QR E gs r ρ S = W (gs r ρ S) QR E := rfl
theorem W_gTp {n : Nat} {gs : MGs0} {ds : List D} (h : ds.length = n) : W (gTp n gs (.tup ds) ρ S) QR E = W (gs ds ρ S) QR E := by
  show W (if ds.length = n then gs ds ρ S else .bad) QR E = _
  rw [if_pos h]
theorem W_gIx {mo mi : ME0} {d : D} : W (gIx mo mi d ρ S) QR E = W (mo ρ S) (kIx1 QR E d mi ρ) E := by
  unfold gIx; rw [W_bind]
  congr 1
  funext o S1
  rw [W_bind]
  unfold kIx1
  congr 1
  funext i S2
  cases o with
  | ref n =>
    cases i with
    | int k =>
      dsimp only
      cases h1 : lstAt S2 n with
      | none => rfl
      | some ds =>
        dsimp only
        cases h2 : ixN ds.length k <;> rfl
    | _ => rfl
  | _ => cases i <;> rfl
theorem k_ix1 {mi : ME0} {d o : D} : kIx1 QR E d mi ρ o S = W (mi ρ S) (kIx2 QR d ρ o) E := rfl
theorem W_for {mi : MI0} {g : MG0} {b : MS0} : W (sFor mi g b ρ S) QS E = W (mi ρ S) (kFor QS E g b ρ) E := W_bind
theorem W_lcL {mi : MI0} {g : MG0} {tt : MT0} {te : ME0} {vs : List Nat} : W (mLcL mi g tt te vs ρ S) QA E = W (mi ρ S) (kLc QA E g tt te vs ρ) E := W_bind
theorem W_lc {mi : MI0} {g : MG0} {tt : MT0} {te : ME0} {vs : List Nat} : W (mLc mi g tt te vs ρ S) Q E = W (mi ρ S) (kLc (kLst Q) E g tt te vs ρ) E := by
  unfold mLc
  rw [W_bind, W_lcL]
  rfl
theorem W_lcS {mi : MI0} {g : MG0} {tt : MT0} {te : ME0} {vs : List Nat} : W (mLcS mi g tt te vs ρ S) Q E = W (mi ρ S) (kLc (kLstS Q) E g tt te vs ρ) E := by
  unfold mLcS
  rw [W_bind, W_lcL]
  rfl
theorem W_next {mi : MI0} {g : MG0} {tt : MT0} {te : ME0} {vs : List Nat} : W (mNext mi g tt te vs ρ S) Q E = W (mi ρ S) (kNxt Q E g tt te vs ρ) E := W_bind
theorem W_miA {me : ME0} : W (miA me ρ S) QI E = W (me ρ S) (kIt QI) E := by
  unfold miA; rw [W_bind]
  congr 1
  funext d S1
  unfold kIt
  cases itOf S1 d <;> rfl
theorem k_it_tup {xs : List D} : kIt QI (.tup xs) S = QI (itL xs) S := rfl
theorem k_it_lst {xs : List D} : kIt QI (.lst xs) S = QI (itL xs) S := rfl
theorem k_it_frz {xs : List D} : kIt QI (.frz xs) S = QI (itL xs) S := rfl
theorem W_def {N : Nat} {b : MS0} {ds : List D} : W (mDef N b ds S) Q E = W (b (ds.map some ++ List.replicate (N - ds.length) none) S) (kDef Q) E := by
  unfold mDef
  rw [W_bind]
  congr 1
  funext x S1
  obtain ⟨fl, ρ1⟩ := x
  cases fl <;> rfl
theorem k_def_rt {d : D} : kDef Q (.rt d, ρ) S = Q d S := rfl
theorem k_def_nx : kDef Q (.nx, ρ) S = Q .non S := rfl
def kCK1 (Q : D → Store → Prop) (E : Er → Store → Prop) (f : List D → Store → Res D) (n1 n2 : Nat) (ix : List Nat) (mk : MA0) (ρ : Rho) : List D → Store → Prop := fun us S1 => W (mk ρ S1) (fun ws S2 => W (f (perm n1 n2 ix us ws) S2) Q E) E
def kCK2 (Q : D → Store → Prop) (E : Er → Store → Prop) (f : List D → Store → Res D) (n1 n2 : Nat) (ix : List Nat) (us : List D) : List D → Store → Prop := fun ws S2 => W (f (perm n1 n2 ix us ws) S2) Q E
theorem k_CK1 {f : List D → Store → Res D} {n1 n2 : Nat} {ix : List Nat} {mk : MA0} {us : List D} : kCK1 Q E f n1 n2 ix mk ρ us S = W (mk ρ S) (kCK2 Q E f n1 n2 ix us) E := rfl
theorem k_CK2 {f : List D → Store → Res D} {n1 n2 : Nat} {ix : List Nat} {us ws : List D} : kCK2 Q E f n1 n2 ix us ws S = W (f (perm n1 n2 ix us ws) S) Q E := rfl
theorem W_callK {f : List D → Store → Res D} {n1 n2 : Nat} {ix : List Nat} {ma mk : MA0} : W (mCallK f n1 n2 ix ma mk ρ S) Q E = W (ma ρ S) (kCK1 Q E f n1 n2 ix mk ρ) E := by
  unfold mCallK kCK1
  rw [W_bind]
  simp only [W_bind]
/-! operators -/
theorem W_f2I {g : Int → Int → D} {i j : Int} : W (f2I g (.int i) (.int j) S) Q E = Q (g i j) S := rfl
theorem W_f2Ic {C : Int → Int → Bool} {g : Int → Int → D} {i j : Int} (h : C i j = true) : W (f2Ic C g (.int i) (.int j) S) Q E = Q (g i j) S := by
  show W (if C i j = true then .ok (g i j) S else .bad) Q E = _
  rw [if_pos h]
  rfl
theorem W_addI {i j : Int} : W (fAdd (.int i) (.int j) S) Q E = Q (.int (i + j)) S := rfl
theorem W_mulI {i j : Int} (h : i.natAbs.log2 + j.natAbs.log2 < 1000000) : W (fMul (.int i) (.int j) S) Q E = Q (.int (i * j)) S := by
  show W (if i.natAbs.log2 + j.natAbs.log2 < 1000000 then .ok (.int (i * j)) S else .bad) Q E = _
  rw [if_pos h]
  rfl
theorem W_int {i : Int} : W (fInt [.int i] S) Q E = Q (.int i) S := rfl
theorem W_2L {g : Int → Int → Int} {i j : Int} : W (f2L g [.int i, .int j] S) Q E = Q (.int (g i j)) S := rfl
theorem W_is {neg : Bool} {d : D} : W (fIs neg d .non S) Q E = Q (.bl (if neg then !isNon d else isNon d)) S := rfl
theorem W_lenT {xs : List D} : W (fLen [.tup xs] S) Q E = Q (.int xs.length) S := rfl
theorem W_lenL {xs : List D} : W (fLen [.lst xs] S) Q E = Q (.int xs.length) S := rfl
theorem W_lenF {xs : List D} : W (fLen [.frz xs] S) Q E = Q (.int xs.length) S := rfl
theorem W_tupleT {xs : List D} : W (fTuple [.tup xs] S) Q E = Q (.tup xs) S := rfl
theorem W_tupleL {xs : List D} : W (fTuple [.lst xs] S) Q E = Q (.tup xs) S := rfl
theorem W_tupleF {xs : List D} : W (fTuple [.frz xs] S) Q E = Q (.tup xs) S := rfl
theorem W_ix {d : D} {ds : List D} {i : Int} {y : D} (h : seqOf S d = some ds) (h2 : atI ds i = some y) : W (fIx d (.int i) S) Q E = Q y S := by
  unfold fIx
  rw [h]
  dsimp only
  rw [h2]
  rfl
theorem W_ixT {ds : List D} {i : Int} {y : D} (h2 : atI ds i = some y) : W (fIx (.tup ds) (.int i) S) Q E = Q y S := W_ix rfl h2
end
/-! ### loops -/
/-- what an iterator gives, whatever the store holds -/
def ItD.Lst (it : ItD) (xs : List D) : Prop := ∀ i S, it.get i S = some xs[i]?
theorem lst_L (xs : List D) : (itL xs).Lst xs := fun _ _ => rfl
def rangeD (lo : Int) (n : Nat) : List D := (List.range n).map fun i : Nat => .int (lo + i)
theorem lst_R (lo : Int) (n : Nat) : (itR lo n).Lst (rangeD lo n) := fun i S => by
  show some (if i < n then some (D.int (lo + i)) else none) = some ((List.range n).map fun i : Nat => D.int (lo + i))[i]?
  congr 1
  rw [List.getElem?_map]
  by_cases h : i < n
  · rw [if_pos h, List.getElem?_range h]
    rfl
  · rw [if_neg h, List.getElem?_eq_none (by rw [List.length_range]; omega)]
    rfl
def enumD (xs : List D) : List D := xs.zipIdx.map fun p => .tup [.int p.2, p.1]
theorem lst_E (xs : List D) : (itE xs).Lst (enumD xs) := fun i S => by
  show some (xs[i]?.map fun d => D.tup [.int i, d]) = some (xs.zipIdx.map fun p : D × Nat => D.tup [.int p.2, p.1])[i]?
  congr 1
  rw [List.getElem?_map, List.getElem?_zipIdx]
  cases xs[i]? with
  | none => rfl
  | some d => simp
section
variable {QS : Fl × Rho → Store → Prop} {QA : List D → Store → Prop} {Q : D → Store → Prop} {E : Er → Store → Prop} {g : MG0} {b : MS0} {it : ItD} {xs : List D} {tt : MT0} {te : ME0}
def kLoop (QS : Fl × Rho → Store → Prop) (I : Rho → Store → Prop) : Fl × Rho → Store → Prop := fun x S => match x.1 with
  | .nx => I x.2 S
  | .ct => I x.2 S
  | .bk => QS (.nx, x.2) S
  | .rt d => QS (.rt d, x.2) S
def kBody (QS : Fl × Rho → Store → Prop) (E : Er → Store → Prop) (I : Rho → Store → Prop) (b : MS0) : Rho → Store → Prop := fun ρ S => W (b ρ S) (kLoop QS I) E
theorem k_body {I : Rho → Store → Prop} {ρ : Rho} {S : Store} : kBody QS E I b ρ S = W (b ρ S) (kLoop QS I) E := rfl
theorem k_loop_nx {I : Rho → Store → Prop} {ρ : Rho} {S : Store} : kLoop QS I (.nx, ρ) S = I ρ S := rfl
theorem k_loop_ct {I : Rho → Store → Prop} {ρ : Rho} {S : Store} : kLoop QS I (.ct, ρ) S = I ρ S := rfl
theorem k_loop_bk {I : Rho → Store → Prop} {ρ : Rho} {S : Store} : kLoop QS I (.bk, ρ) S = QS (.nx, ρ) S := rfl
theorem k_loop_rt {I : Rho → Store → Prop} {ρ : Rho} {S : Store} {d : D} : kLoop QS I (.rt d, ρ) S = QS (.rt d, ρ) S := rfl
theorem W_forL (hx : it.Lst xs) (I : Nat → Rho → Store → Prop) (hs : ∀ i d ρ S, xs[i]? = some d → I i ρ S → W (g d ρ S) (kBody QS E (I (i + 1)) b) E) (he : ∀ ρ S, I xs.length ρ S → QS (.nx, ρ) S) : ∀ (n i : Nat) (ρ : Rho) (S : Store), xs.length < i + n → i ≤ xs.length → I i ρ S → W (forL g b n i it ρ S) QS E
  | 0, i, ρ, S, h1, h2, _ => by omega
  | n + 1, i, ρ, S, h1, h2, hI => by
    unfold forL
    rw [hx i S]
    cases hi : xs[i]? with
    | none =>
      have : i = xs.length := by have := List.getElem?_eq_none_iff.mp hi; omega
      subst this
      exact he ρ S hI
    | some d =>
      dsimp only
      rw [W_bind]
      refine (hs i d ρ S hi hI).mono fun ρ1 S1 h => ?_
      rw [W_bind]
      refine W.mono h fun x S2 h => ?_
      obtain ⟨hl, _⟩ := List.getElem?_eq_some_iff.mp hi
      obtain ⟨fl, ρ2⟩ := x
      cases fl with
      | nx => exact W_forL hx I hs he n (i + 1) ρ2 S2 (by omega) (by omega) h
      | ct => exact W_forL hx I hs he n (i + 1) ρ2 S2 (by omega) (by omega) h
      | bk => exact h
      | rt d => exact h
theorem k_for {ρ : Rho} {S : Store} (hx : it.Lst xs) (hl : xs.length < BIG) (I : Nat → Rho → Store → Prop) (h0 : I 0 ρ S) (hs : ∀ i d ρ S, xs[i]? = some d → I i ρ S → W (g d ρ S) (kBody QS E (I (i + 1)) b) E) (he : ∀ ρ S, I xs.length ρ S → QS (.nx, ρ) S) : kFor QS E g b ρ it S :=
  W_forL hx I hs he BIG 0 ρ S (by omega) (by omega) h0
/-- a comprehension: what one turn leads to -/
def kLc1 (tt : MT0) (te : ME0) (Y : D → Store → Prop) (N : Store → Prop) : Rho → Store → Prop := fun ρ S => W (tt ρ S) (fun b S2 => if b = true then W (te ρ S2) Y Er0 else N S2) Er0
def kLc2 (te : ME0) (ρ : Rho) (Y : D → Store → Prop) (N : Store → Prop) : Bool → Store → Prop := fun b S2 => if b = true then W (te ρ S2) Y Er0 else N S2
theorem k_lc1 {Y : D → Store → Prop} {N : Store → Prop} {ρ : Rho} {S : Store} : kLc1 tt te Y N ρ S = W (tt ρ S) (kLc2 te ρ Y N) Er0 := rfl
theorem k_lc2_t {Y : D → Store → Prop} {N : Store → Prop} {ρ : Rho} {S : Store} : kLc2 te ρ Y N true S = W (te ρ S) Y Er0 := rfl
theorem k_lc2_f {Y : D → Store → Prop} {N : Store → Prop} {ρ : Rho} {S : Store} : kLc2 te ρ Y N false S = N S := rfl
theorem W_lcLoop {ρ : Rho} (hx : it.Lst xs) (I : Nat → List D → Store → Prop) (hs : ∀ i d acc S, xs[i]? = some d → I i acc S → W (g d ρ S) (kLc1 tt te (fun y S' => acc.length < sizeLine ∧ I (i + 1) (acc ++ [y]) S') (fun S' => I (i + 1) acc S')) Er0) (he : ∀ acc S, I xs.length acc S → QA acc S) :
    ∀ (n i : Nat) (acc : List D) (S : Store), xs.length < i + n → i ≤ xs.length → I i acc S → W (lcL g tt te n i it ρ acc S) QA E
  | 0, i, acc, S, h1, h2, _ => by omega
  | n + 1, i, acc, S, h1, h2, hI => by
    unfold lcL
    rw [hx i S]
    cases hi : xs[i]? with
    | none =>
      have : i = xs.length := by have := List.getElem?_eq_none_iff.mp hi; omega
      subst this
      exact he acc S hI
    | some d =>
      dsimp only
      rw [W_bind]
      obtain ⟨hl, _⟩ := List.getElem?_eq_some_iff.mp hi
      refine W_calm ((hs i d acc S hi hI).mono fun ρ1 S1 h => ?_)
      rw [W_bind]
      refine W_calm (W.mono h fun bb S2 h => ?_)
      cases bb with
      | true =>
        rw [if_pos rfl] at h ⊢
        rw [W_bind]
        refine W_calm (W.mono h fun y S3 h => ?_)
        rw [if_pos h.1]
        exact W_lcLoop hx I hs he n (i + 1) _ S3 (by omega) (by omega) h.2
      | false =>
        rw [if_neg Bool.false_ne_true] at h ⊢
        exact W_lcLoop hx I hs he n (i + 1) _ S2 (by omega) (by omega) h
theorem k_lc {ρ : Rho} {S : Store} {vs : List Nat} (hx : it.Lst xs) (hl : xs.length < BIG) (I : Nat → List D → Store → Prop) (h0 : I 0 [] S) (hs : ∀ i d acc S, xs[i]? = some d → I i acc S → W (g d (wipeD ρ vs) S) (kLc1 tt te (fun y S' => acc.length < sizeLine ∧ I (i + 1) (acc ++ [y]) S') (fun S' => I (i + 1) acc S')) Er0) (he : ∀ acc S, I xs.length acc S → QA acc S) : kLc QA E g tt te vs ρ it S :=
  W_lcLoop hx I hs he BIG 0 [] S (by omega) (by omega) h0
theorem W_nxLoop {ρ : Rho} (hx : it.Lst xs) (I : Nat → Store → Prop) (hs : ∀ i d S, xs[i]? = some d → I i S → W (g d ρ S) (kLc1 tt te Q (fun S' => I (i + 1) S')) Er0) (he : ∀ S, I xs.length S → Q .non S) : ∀ (n i : Nat) (S : Store), xs.length < i + n → i ≤ xs.length → I i S → W (nxL g tt te n i it ρ S) Q E
  | 0, i, S, h1, h2, _ => by omega
  | n + 1, i, S, h1, h2, hI => by
    unfold nxL
    rw [hx i S]
    cases hi : xs[i]? with
    | none =>
      have : i = xs.length := by have := List.getElem?_eq_none_iff.mp hi; omega
      subst this
      exact he S hI
    | some d =>
      dsimp only
      rw [W_bind]
      obtain ⟨hl, _⟩ := List.getElem?_eq_some_iff.mp hi
      refine W_calm ((hs i d S hi hI).mono fun ρ1 S1 h => ?_)
      rw [W_bind]
      refine W_calm (W.mono h fun bb S2 h => ?_)
      cases bb with
      | true =>
        rw [if_pos rfl] at h ⊢
        exact W_calm h
      | false =>
        rw [if_neg Bool.false_ne_true] at h ⊢
        exact W_nxLoop hx I hs he n (i + 1) S2 (by omega) (by omega) h
theorem k_nxt {ρ : Rho} {S : Store} {vs : List Nat} (hx : it.Lst xs) (hl : xs.length < BIG) (I : Nat → Store → Prop) (h0 : I 0 S) (hs : ∀ i d S, xs[i]? = some d → I i S → W (g d (wipeD ρ vs) S) (kLc1 tt te Q (fun S' => I (i + 1) S')) Er0) (he : ∀ S, I xs.length S → Q .non S) : kNxt Q E g tt te vs ρ it S :=
  W_nxLoop hx I hs he BIG 0 S (by omega) (by omega) h0
end
/-! ### the step -/
local macro_rules | `(tactic| simp_arith [$ts,*]) => `(tactic| simp only [W_ok, W_var, k_var, W_c, W_op, k_op1, k_op2, W_un, k_un, W_nil, W_cons, k_cons1, k_cons2, W_call, k_call, W_tup, k_tup, W_lst, k_lst, W_lstS, k_lstS, W_seq, k_seq_nx, k_seq_rt, k_seq_bk, k_seq_ct,
  W_expr, k_expr, W_ret, k_ret, W_retN, W_nx, W_bk, W_ct, W_if, k_if_t, k_if_f, W_ifE, k_ifE_t, k_ifE_f, W_b, k_b, W_andT, k_andT_t, k_andT_f, W_orT, k_orT_t, k_orT_f, W_notT, k_notT, W_yes, W_andV, k_andV_t, k_andV_f, W_orV, k_orV_t, k_orV_f, W_notV, k_notV,
  W_cmpC, k_cmp1, k_cmp2, k_cmp3_t, k_cmp3_f, W_asg, k_asg, k_asg2, W_gN, W_gsNil, W_gsCons, k_gs, W_gTp, W_gIx, k_ix1, W_for, W_lc, W_lcS, W_next, W_miA, k_it_tup, k_it_lst, k_it_frz, W_def, k_def_rt, k_def_nx, W_callK,
  W_f2I, W_addI, W_int, W_2L, W_is, W_lenT, W_lenL, W_lenF, W_tupleT, W_tupleL, W_tupleF, k_body, k_loop_nx, k_loop_ct, k_loop_bk, k_loop_rt, k_lc1, k_lc2_t, k_lc2_f,
  List.map_cons, List.map_nil, List.length_cons, List.length_nil, List.reduceReplicate, Nat.reduceSub, Nat.reduceAdd, Int.reduceAdd, Int.reduceSub, Int.reduceMul, Int.reduceNeg, Int.reduceLT, Int.reduceLE, Int.reduceEq, Int.cast_ofNat_Int, Int.natCast_zero, Int.natCast_one, eq_self, decide_true, decide_false, Bool.and_true, Bool.true_and, Bool.false_and, Bool.and_false, Nat.zero_add, List.replicate_zero, List.replicate_succ, List.cons_append, List.nil_append, List.append_nil, List.getElem?_cons_zero, List.getElem?_cons_succ, List.set_cons_zero, List.set_cons_succ, wipeD, Bool.not_true, Bool.not_false, if_true, if_false, reduceIte, isNon, Bool.false_eq_true, $ts,*])
local macro_rules | `(tactic| simp_arith) => `(tactic| simp_arith [])
example : W (mOp fSub (mVar 0) (mC (.int 1)) [some (.int 4)] []) (fun d S => d = .int 3) Er0 := by
  simp_arith []
end MM

/-! Plain data: equality, instances, ranges. -/
namespace MM
open PySem L2
mutual
def pyOf : D → PyData
  | .non => .none
  | .bl b => .bool b
  | .int i => .int i
  | .str s => .str s
  | .tup ds => .tuple (pyOfL ds)
  | .lst ds => .list (pyOfL ds)
  | .frz ds => .list (pyOfL ds)
  | .err _ _ _ => .none
  | .ref _ => .none
def pyOfL : List D → List PyData
  | [] => []
  | d :: ds => pyOf d :: pyOfL ds
end
mutual
/-- no object of the store in it, texts of signs, at most so deep -/
def flat : Nat → D → Bool
  | _, .non => true
  | _, .bl _ => true
  | _, .int _ => true
  | _, .str s => PyData.strOk s
  | n + 1, .tup ds => flatL n ds
  | n + 1, .lst ds => flatL n ds
  | _, _ => false
def flatL : Nat → List D → Bool
  | _, [] => true
  | n, d :: ds => flat n d && flatL n ds
end
mutual
theorem flat_py (S : Store) : ∀ {n : Nat} {d : D}, flat n d = true → toPy S d = some (pyOf d) ∧ (pyOf d).canLay0 = true ∧ (pyOf d).depth ≤ n
  | n, .non, h => ⟨by unfold toPy pyOf; rfl, by unfold pyOf PyData.canLay0; rfl, by unfold pyOf PyData.depth; exact Nat.zero_le _⟩
  | n, .bl b, h => ⟨by unfold toPy pyOf; rfl, by unfold pyOf PyData.canLay0; rfl, by unfold pyOf PyData.depth; exact Nat.zero_le _⟩
  | n, .int b, h => ⟨by unfold toPy pyOf; rfl, by unfold pyOf PyData.canLay0; rfl, by unfold pyOf PyData.depth; exact Nat.zero_le _⟩
  | n, .str s, h => ⟨by unfold toPy pyOf; rfl, by unfold flat at h; unfold pyOf PyData.canLay0; exact h, by unfold pyOf PyData.depth; exact Nat.zero_le _⟩
  | n + 1, .tup ds, h => by
    unfold flat at h
    obtain ⟨h1, h2, h3⟩ := flatL_py S h
    refine ⟨by unfold toPy pyOf; rw [h1]; rfl, by unfold pyOf PyData.canLay0; exact h2, by unfold pyOf PyData.depth; omega⟩
  | n + 1, .lst ds, h => by
    unfold flat at h
    obtain ⟨h1, h2, h3⟩ := flatL_py S h
    refine ⟨by unfold toPy pyOf; rw [h1]; rfl, by unfold pyOf PyData.canLay0; exact h2, by unfold pyOf PyData.depth; omega⟩
  | 0, .tup ds, h => by unfold flat at h; cases h
  | 0, .lst ds, h => by unfold flat at h; cases h
  | n, .frz ds, h => by unfold flat at h; cases h
  | n, .err _ _ _, h => by unfold flat at h; cases h
  | n, .ref ds, h => by unfold flat at h; cases h
theorem flatL_py (S : Store) : ∀ {n : Nat} {ds : List D}, flatL n ds = true → toPyL S ds = some (pyOfL ds) ∧ PyData.canLayAll0 (pyOfL ds) = true ∧ PyData.depthAll (pyOfL ds) ≤ n
  | n, [], h => ⟨by unfold toPyL pyOfL; rfl, by unfold pyOfL PyData.canLayAll0; rfl, by unfold pyOfL PyData.depthAll; exact Nat.zero_le _⟩
  | n, d :: ds, h => by
    unfold flatL at h
    obtain ⟨h1, h2⟩ := Bool.and_eq_true_iff.mp h
    obtain ⟨a1, a2, a3⟩ := flat_py S h1
    obtain ⟨b1, b2, b3⟩ := flatL_py S h2
    refine ⟨by unfold toPyL pyOfL; rw [a1, b1], by unfold pyOfL PyData.canLayAll0; rw [a2, b2]; rfl, by unfold pyOfL PyData.depthAll; omega⟩
end
def eqD (x y : D) : Bool := PyData.eqv (pyOf x) (pyOf y)
theorem eqRes_flat {S : Store} {neg : Bool} {x y : D} (hx : flat 64 x = true) (hy : flat 64 y = true) : eqRes S neg x y = some (if neg then !eqD x y else eqD x y) := by
  obtain ⟨a1, a2, a3⟩ := flat_py S hx
  obtain ⟨b1, b2, b3⟩ := flat_py S hy
  unfold eqRes
  rw [a1, b1]
  dsimp only
  rw [if_pos]
  · rfl
  · unfold SeqAt.shaped
    rw [a2, b2, decide_eq_true a3, decide_eq_true b3]
    exact ⟨rfl, rfl⟩
mutual
/-- no True or False in it -/
def noB : D → Bool
  | .bl _ => false
  | .tup ds => noBL ds
  | .lst ds => noBL ds
  | .frz _ => false
  | .err _ _ _ => false
  | .ref _ => false
  | _ => true
def noBL : List D → Bool
  | [] => true
  | d :: ds => noB d && noBL ds
end
mutual
theorem eqD_iff : ∀ {x y : D}, noB x = true → noB y = true → (eqD x y = true ↔ x = y)
  | .non, y, hx, hy => by
    cases y <;> simp_all [eqD, pyOf, PyData.eqv, noB]
  | .int i, y, hx, hy => by
    cases y <;> simp_all [eqD, pyOf, PyData.eqv, noB]
  | .str s, y, hx, hy => by
    cases y <;> simp_all [eqD, pyOf, PyData.eqv, noB]
  | .tup ds, y, hx, hy => by
    cases y with
    | tup es =>
      have := eqDL_iff (by unfold noB at hx; exact hx) (by unfold noB at hy; exact hy) (xs := ds) (ys := es)
      simp only [eqD, pyOf, PyData.eqv, this, D.tup.injEq]
    | _ => simp_all [eqD, pyOf, PyData.eqv, noB]
  | .lst ds, y, hx, hy => by
    cases y with
    | lst es =>
      have := eqDL_iff (by unfold noB at hx; exact hx) (by unfold noB at hy; exact hy) (xs := ds) (ys := es)
      simp only [eqD, pyOf, PyData.eqv, this, D.lst.injEq]
    | _ => simp_all [eqD, pyOf, PyData.eqv, noB]
  | .bl _, y, hx, hy => by unfold noB at hx; cases hx
  | .frz _, y, hx, hy => by unfold noB at hx; cases hx
  | .err _ _ _, y, hx, hy => by unfold noB at hx; cases hx
  | .ref _, y, hx, hy => by unfold noB at hx; cases hx
theorem eqDL_iff : ∀ {xs ys : List D}, noBL xs = true → noBL ys = true → (PyData.eqvAll (pyOfL xs) (pyOfL ys) = true ↔ xs = ys)
  | [], [], _, _ => by simp [pyOfL, PyData.eqvAll]
  | [], y :: ys, _, _ => by simp [pyOfL, PyData.eqvAll]
  | x :: xs, [], _, _ => by simp [pyOfL, PyData.eqvAll]
  | x :: xs, y :: ys, hx, hy => by
    unfold noBL at hx hy
    obtain ⟨h1, h2⟩ := Bool.and_eq_true_iff.mp hx
    obtain ⟨h3, h4⟩ := Bool.and_eq_true_iff.mp hy
    have a := eqD_iff h1 h3
    have b := eqDL_iff h2 h4
    unfold eqD at a
    simp only [pyOfL, PyData.eqvAll, Bool.and_eq_true, a, b, List.cons.injEq]
end
section
variable {Q : D → Store → Prop} {QA : List D → Store → Prop} {QI : ItD → Store → Prop} {E : Er → Store → Prop} {ρ : Rho} {S : Store}
theorem W_eqF {neg : Bool} {x y : D} (hx : flat 64 x = true) (hy : flat 64 y = true) : W (fEq neg x y S) Q E = Q (.bl (if neg then !eqD x y else eqD x y)) S := by
  unfold fEq
  rw [eqRes_flat hx hy]
  rfl
theorem W_eqI {neg : Bool} {i j : Int} : W (fEq neg (.int i) (.int j) S) Q E = Q (.bl (if neg then !decide (i = j) else decide (i = j))) S := by
  rw [W_eqF (by unfold flat; rfl) (by unfold flat; rfl)]
  have : eqD (.int i) (.int j) = decide (i = j) := by
    simp only [eqD, pyOf, PyData.eqv]
    rfl
  rw [this]
/-- equal without True and False -/
theorem W_eqN {neg : Bool} {x y : D} [h : Decidable (x = y)] (hx : flat 64 x = true) (hy : flat 64 y = true) (nx : noB x = true) (ny : noB y = true) : W (fEq neg x y S) Q E = Q (.bl (if neg then !decide (x = y) else decide (x = y))) S := by
  rw [W_eqF hx hy]
  have : eqD x y = decide (x = y) := by
    rw [Bool.eq_iff_iff, eqD_iff nx ny, decide_eq_true_iff]
  rw [this]
/-! instances of built-in classes -/
theorem W_isi {T t : String} {d : D} {b : Bool} (h : tyD S d = some t) (hk : kitB t T = some b) : W (fIsi T d S) Q E = Q (.bl b) S := by
  unfold fIsi
  rw [h]
  dsimp only
  rw [hk]
  rfl
def kIsi (T : String) (t : String) (S : Store) : Prop := match kitB t T with
  | some b => Q (.bl b) S
  | none => False
theorem isi_int_i {i : Int} : W (fIsi "int" (.int i) S) Q E = Q (.bl true) S := W_isi rfl (by decide +kernel)
theorem isi_int_b {i : Bool} : W (fIsi "int" (.bl i) S) Q E = Q (.bl true) S := W_isi rfl (by decide +kernel)
theorem isi_int_n : W (fIsi "int" .non S) Q E = Q (.bl false) S := W_isi rfl (by decide +kernel)
theorem isi_int_s {s : Str} : W (fIsi "int" (.str s) S) Q E = Q (.bl false) S := W_isi rfl (by decide +kernel)
theorem isi_int_t {s : List D} : W (fIsi "int" (.tup s) S) Q E = Q (.bl false) S := W_isi rfl (by decide +kernel)
theorem isi_int_l {s : List D} : W (fIsi "int" (.lst s) S) Q E = Q (.bl false) S := W_isi rfl (by decide +kernel)
theorem isi_bool_i {i : Int} : W (fIsi "bool" (.int i) S) Q E = Q (.bl false) S := W_isi rfl (by decide +kernel)
theorem isi_bool_b {i : Bool} : W (fIsi "bool" (.bl i) S) Q E = Q (.bl true) S := W_isi rfl (by decide +kernel)
theorem isi_bool_n : W (fIsi "bool" .non S) Q E = Q (.bl false) S := W_isi rfl (by decide +kernel)
theorem isi_bool_s {s : Str} : W (fIsi "bool" (.str s) S) Q E = Q (.bl false) S := W_isi rfl (by decide +kernel)
theorem isi_bool_t {s : List D} : W (fIsi "bool" (.tup s) S) Q E = Q (.bl false) S := W_isi rfl (by decide +kernel)
theorem isi_bool_l {s : List D} : W (fIsi "bool" (.lst s) S) Q E = Q (.bl false) S := W_isi rfl (by decide +kernel)
theorem isi_tuple_i {i : Int} : W (fIsi "tuple" (.int i) S) Q E = Q (.bl false) S := W_isi rfl (by decide +kernel)
theorem isi_tuple_b {i : Bool} : W (fIsi "tuple" (.bl i) S) Q E = Q (.bl false) S := W_isi rfl (by decide +kernel)
theorem isi_tuple_n : W (fIsi "tuple" .non S) Q E = Q (.bl false) S := W_isi rfl (by decide +kernel)
theorem isi_tuple_s {s : Str} : W (fIsi "tuple" (.str s) S) Q E = Q (.bl false) S := W_isi rfl (by decide +kernel)
theorem isi_tuple_t {s : List D} : W (fIsi "tuple" (.tup s) S) Q E = Q (.bl true) S := W_isi rfl (by decide +kernel)
theorem isi_tuple_l {s : List D} : W (fIsi "tuple" (.lst s) S) Q E = Q (.bl false) S := W_isi rfl (by decide +kernel)
theorem isi_list_i {i : Int} : W (fIsi "list" (.int i) S) Q E = Q (.bl false) S := W_isi rfl (by decide +kernel)
theorem isi_list_b {i : Bool} : W (fIsi "list" (.bl i) S) Q E = Q (.bl false) S := W_isi rfl (by decide +kernel)
theorem isi_list_n : W (fIsi "list" .non S) Q E = Q (.bl false) S := W_isi rfl (by decide +kernel)
theorem isi_list_s {s : Str} : W (fIsi "list" (.str s) S) Q E = Q (.bl false) S := W_isi rfl (by decide +kernel)
theorem isi_list_t {s : List D} : W (fIsi "list" (.tup s) S) Q E = Q (.bl false) S := W_isi rfl (by decide +kernel)
theorem isi_list_l {s : List D} : W (fIsi "list" (.lst s) S) Q E = Q (.bl true) S := W_isi rfl (by decide +kernel)
theorem isi_str_i {i : Int} : W (fIsi "str" (.int i) S) Q E = Q (.bl false) S := W_isi rfl (by decide +kernel)
theorem isi_str_b {i : Bool} : W (fIsi "str" (.bl i) S) Q E = Q (.bl false) S := W_isi rfl (by decide +kernel)
theorem isi_str_n : W (fIsi "str" .non S) Q E = Q (.bl false) S := W_isi rfl (by decide +kernel)
theorem isi_str_s {s : Str} : W (fIsi "str" (.str s) S) Q E = Q (.bl true) S := W_isi rfl (by decide +kernel)
theorem isi_str_t {s : List D} : W (fIsi "str" (.tup s) S) Q E = Q (.bl false) S := W_isi rfl (by decide +kernel)
theorem isi_str_l {s : List D} : W (fIsi "str" (.lst s) S) Q E = Q (.bl false) S := W_isi rfl (by decide +kernel)
/-! ranges, enumerate -/
def kR1 (QI : ItD → Store → Prop) : List D → Store → Prop := fun ds S => match ds with
  | [.int j] => -(2 ^ 62) ≤ j ∧ j < 2 ^ 62 ∧ QI (itR 0 j.toNat) S
  | _ => False
theorem W_R1 {ma : MA0} (h : W (ma ρ S) (kR1 QI) E) : W (miR1 ma ρ S) QI E := by
  unfold miR1
  rw [W_bind]
  refine h.mono fun ds S1 h => ?_
  unfold kR1 at h
  split at h
  · obtain ⟨h1, h2, h3⟩ := h
    try dsimp only
    rw [if_pos ⟨h1, h2⟩]
    exact h3
  · exact h.elim
theorem k_R1 {j : Int} (h1 : -(2 ^ 62) ≤ j) (h2 : j < 2 ^ 62) (h : QI (itR 0 j.toNat) S) : kR1 QI [.int j] S := ⟨h1, h2, h⟩
def kR2 (QI : ItD → Store → Prop) : List D → Store → Prop := fun ds S => match ds with
  | [.int i, .int j] => -(2 ^ 62) ≤ i ∧ i < 2 ^ 62 ∧ -(2 ^ 62) ≤ j ∧ j < 2 ^ 62 ∧ QI (itR i (j - i).toNat) S
  | _ => False
theorem W_R2 {ma : MA0} (h : W (ma ρ S) (kR2 QI) E) : W (miR2 ma ρ S) QI E := by
  unfold miR2
  rw [W_bind]
  refine h.mono fun ds S1 h => ?_
  unfold kR2 at h
  split at h
  · obtain ⟨h1, h2, h3, h4, h5⟩ := h
    try dsimp only
    rw [if_pos ⟨h1, h2, h3, h4⟩]
    exact h5
  · exact h.elim
def kEn (QI : ItD → Store → Prop) : List D → Store → Prop := fun ds S => match ds with
  | [.tup xs] => QI (itE xs) S
  | [.lst xs] => QI (itE xs) S
  | _ => False
theorem W_E {ma : MA0} : W (miE ma ρ S) QI E = W (ma ρ S) (kEn QI) E := by
  unfold miE
  rw [W_bind]
  congr 1
  funext ds S1
  cases ds with
  | nil => rfl
  | cons d r => cases d <;> cases r <;> rfl
theorem k_en_tup {xs : List D} : kEn QI [.tup xs] S = QI (itE xs) S := rfl
theorem k_en_lst {xs : List D} : kEn QI [.lst xs] S = QI (itE xs) S := rfl
theorem k_R1_eq {j : Int} : kR1 QI [.int j] S = (-(2 ^ 62) ≤ j ∧ j < 2 ^ 62 ∧ QI (itR 0 j.toNat) S) := rfl
theorem k_R2_eq {i j : Int} : kR2 QI [.int i, .int j] S = (-(2 ^ 62) ≤ i ∧ i < 2 ^ 62 ∧ -(2 ^ 62) ≤ j ∧ j < 2 ^ 62 ∧ QI (itR i (j - i).toNat) S) := rfl
theorem W_allL {xs : List Bool} : W (fAll [.lst (xs.map .bl)] S) Q E = Q (.bl (xs.all id)) S := by
  unfold fAll
  dsimp only [lstOf]
  have : blsOf (xs.map D.bl) = some xs := by
    induction xs with
    | nil => rfl
    | cons x xs ih =>
      rw [List.map_cons]
      show (blsOf (xs.map D.bl)).map (x :: ·) = _
      rw [ih]
      rfl
  rw [this]
  rfl
end
section
variable {QA : List D → Store → Prop} {Q : D → Store → Prop} {E : Er → Store → Prop} {g : MG0} {it : ItD} {xs : List D} {tt : MT0} {te : ME0} {S : Store} {vs : List Nat} {ρ : Rho}
theorem length_rangeD (lo : Int) (n : Nat) : (rangeD lo n).length = n := by unfold rangeD; rw [List.length_map, List.length_range]
theorem rangeD_get {lo : Int} {n i : Nat} {d : D} (h : (rangeD lo n)[i]? = some d) : i < n ∧ d = .int (lo + i) := by
  have hl := (List.getElem?_eq_some_iff.mp h).1
  rw [length_rangeD] at hl
  unfold rangeD at h
  rw [List.getElem?_map, List.getElem?_range hl] at h
  exact ⟨hl, (Option.some.inj h).symm⟩
/-- a comprehension that changes nothing -/
def kEl (te : ME0) (Y : D → Store → Prop) : Rho → Store → Prop := fun ρ S => W (te ρ S) Y Er0
theorem k_el {Y : D → Store → Prop} : kEl te Y ρ S = W (te ρ S) Y Er0 := rfl
theorem k_lc_map {f : D → D} (hx : it.Lst xs) (hl : xs.length < sizeLine) (h : ∀ d ∈ xs, ∀ Y : D → Store → Prop, Y (f d) S → W (g d (wipeD ρ vs) S) (kEl te Y) Er0) (hq : QA (xs.map f) S) : kLc QA E g mYes te vs ρ it S := by
  refine k_lc hx (Nat.lt_trans hl (by decide)) (fun i acc S' => S' = S ∧ acc = (xs.take i).map f) ⟨rfl, rfl⟩ (fun i d acc S' hi hI => ?_) fun acc S' hI => ?_
  · obtain ⟨rfl, rfl⟩ := hI
    refine W.mono (h d (List.mem_of_getElem? hi) (fun y S2 => y = f d ∧ S2 = S') ⟨rfl, rfl⟩) fun ρ1 S1 h1 => ?_
    rw [k_el] at h1
    rw [k_lc1, W_yes, k_lc2_t]
    refine h1.mono fun y S2 h2 => ?_
    obtain ⟨rfl, rfl⟩ := h2
    refine ⟨?_, rfl, ?_⟩
    · rw [List.length_map, List.length_take]
      omega
    · rw [List.take_add_one, hi, List.map_append]
      rfl
  · obtain ⟨rfl, rfl⟩ := hI
    rw [List.take_length]
    exact hq
end
end MM

/-! What the further mirrors come to. -/
namespace MM
open PySem L2
section
variable (Q : D → Store → Prop) (QA : List D → Store → Prop) (QT : Bool → Store → Prop) (QS : Fl × Rho → Store → Prop) (QR : Rho → Store → Prop) (QI : ItD → Store → Prop) (E : Er → Store → Prop)
def kOpt (o : Option D) (S : Store) : Prop := match o with
  | some d => Q d S
  | none => False
def kOptL (o : Option (List D)) (S : Store) : Prop := match o with
  | some ds => QA ds S
  | none => False
def kSl1 (ml mh : MO0) (ρ : Rho) : D → Store → Prop := fun x S => W (ml ρ S) (fun lo S2 => W (mh ρ S2) (fun hi S3 => W (fSl x lo hi S3) Q E) E) E
def kSl2 (mh : MO0) (ρ : Rho) (x : D) : Option Int → Store → Prop := fun lo S2 => W (mh ρ S2) (fun hi S3 => W (fSl x lo hi S3) Q E) E
def kSl3 (x : D) (lo : Option Int) : Option Int → Store → Prop := fun hi S3 => W (fSl x lo hi S3) Q E
def kPart (QO : Option Int → Store → Prop) : D → Store → Prop := fun d S => match d with
  | .int i => QO (some i) S
  | _ => False
def kMeth1 (c x : Str) (m : List D → Store → Res D) (cds : List D) (ma : MA0) (ρ : Rho) : D → Store → Prop := fun o S => match o with
  | .ref n => match insAt S c n with
    | some fs => match fs.lookup x with
      | none => W (ma ρ S) (fun us S2 => W (m (o :: (us ++ cds)) S2) Q E) E
      | some _ => False
    | none => False
  | _ => False
def kMeth2 (m : List D → Store → Res D) (cds : List D) (o : D) : List D → Store → Prop := fun us S2 => W (m (o :: (us ++ cds)) S2) Q E
def kProp (c : Str) (m : List D → Store → Res D) : D → Store → Prop := fun o S => match o with
  | .ref n => match insAt S c n with
    | some _ => W (m [o] S) Q Er0
    | none => False
  | _ => False
def kMade (n : Nat) : D → Store → Prop := fun r S => match r with
  | .non => Q (.ref n) S
  | _ => False
def kMake (c : Str) (m : List D → Store → Res D) (cds : List D) : List D → Store → Prop := fun us S => W (m (.ref S.length :: (us ++ cds)) (S ++ [.ins c []])) (kMade Q S.length) E
def kFldS1 (c f : Str) (mo : ME0) (ρ : Rho) : D → Store → Prop := fun d S => W (mo ρ S) (fun x S2 => match x with
  | .ref n => match insAt S2 c n with
    | some fs => if fs.length < 1000 then QS (.nx, ρ) (S2.set n (.ins c (fput f d fs))) else False
    | none => False
  | _ => False) E
def kFldS2 (c f : Str) (ρ : Rho) (d : D) : D → Store → Prop := fun x S2 => match x with
  | .ref n => match insAt S2 c n with
    | some fs => if fs.length < 1000 then QS (.nx, ρ) (S2.set n (.ins c (fput f d fs))) else False
    | none => False
  | _ => False
def kApp1 (me : ME0) (ρ : Rho) : D → Store → Prop := fun o S => match o with
  | .ref n => match lstAt S n with
    | some _ => W (me ρ S) (fun d S2 => match lstAt S2 n with
      | some ds => if ds.length < sizeLine then Q .non (S2.set n (.lst (ds ++ [d]))) else False
      | none => False) E
    | none => False
  | _ => False
def kApp2 (n : Nat) : D → Store → Prop := fun d S2 => match lstAt S2 n with
  | some ds => if ds.length < sizeLine then Q .non (S2.set n (.lst (ds ++ [d]))) else False
  | none => False
def kSt1 (mi : ME0) (ρ : Rho) (d : D) : D → Store → Prop := fun o S => W (mi ρ S) (fun i S2 => match setAt S2 o i d with
  | some S3 => QR ρ S3
  | none => False) E
def kSt2 (ρ : Rho) (d o : D) : D → Store → Prop := fun i S2 => match setAt S2 o i d with
  | some S3 => QR ρ S3
  | none => False
def kGsl1 (ma mb : ME0) (ρ : Rho) (d : D) : D → Store → Prop := fun o S1 => W (ma ρ S1) (fun i S2 => W (mb ρ S2) (fun j S3 => match o, i, j, d with
  | .ref n, .int a, .int c, .lst es => match lstAt S3 n with
    | some ds => if 0 ≤ a ∧ a ≤ c ∧ c ≤ ds.length ∧ ds.length + es.length ≤ sizeLine then QR ρ (S3.set n (.lst (ds.take a.toNat ++ es ++ ds.drop c.toNat))) else False
    | none => False
  | _, _, _, _ => False) E) E
def kGsl2 (mb : ME0) (ρ : Rho) (d o : D) : D → Store → Prop := fun i S2 => W (mb ρ S2) (fun j S3 => match o, i, j, d with
  | .ref n, .int a, .int c, .lst es => match lstAt S3 n with
    | some ds => if 0 ≤ a ∧ a ≤ c ∧ c ≤ ds.length ∧ ds.length + es.length ≤ sizeLine then QR ρ (S3.set n (.lst (ds.take a.toNat ++ es ++ ds.drop c.toNat))) else False
    | none => False
  | _, _, _, _ => False) E
def kGsl3 (ρ : Rho) (d o i : D) : D → Store → Prop := fun j S3 => match o, i, j, d with
  | .ref n, .int a, .int c, .lst es => match lstAt S3 n with
    | some ds => if 0 ≤ a ∧ a ≤ c ∧ c ≤ ds.length ∧ ds.length + es.length ≤ sizeLine then QR ρ (S3.set n (.lst (ds.take a.toNat ++ es ++ ds.drop c.toNat))) else False
    | none => False
  | _, _, _, _ => False
def kRgT : Int × Int → Store → Prop := fun x S => if RgB x.1 x.2 = true then Q (.tup (rgD x.1 x.2)) S else False
def kRgL : Int × Int → Store → Prop := fun x S => if RgB x.1 x.2 = true then Q (.lst (rgD x.1 x.2)) S else False
def kRgS : Int × Int → Store → Prop := fun x S => if RgB x.1 x.2 = true then Q (.ref S.length) (S ++ [.lst (rgD x.1 x.2)]) else False
def kRg1 (QP : Int × Int → Store → Prop) : D → Store → Prop := fun d S => match d with
  | .int i => QP (0, i) S
  | _ => False
def kItS : D → Store → Prop := fun d S => match d with
  | .str z => QI (itL (signsD z)) S
  | _ => False
def kPar (i j : Nat) (ρ : Rho) : List D → Store → Prop := fun ds S => match ds with
  | [x, y] => QS (.nx, (ρ.set i (some x)).set j (some y)) S
  | _ => False
def kPar3 (i j l : Nat) (ρ : Rho) : List D → Store → Prop := fun ds S => match ds with
  | [x, y, z] => QS (.nx, ((ρ.set i (some x)).set j (some y)).set l (some z)) S
  | _ => False
def kDisp (n : Nat) : List (D × D) → Store → Prop := fun qs S1 => match pkeys qs, S1[n]? with
  | some kvs, some (.dct []) => if kvs.length ≤ 15 then Q (.ref n) (S1.set n (.dct (putAll [] kvs))) else False
  | _, _ => False
def kPs1 (QP : List (D × D) → Store → Prop) (mv : ME0) (ps : List (ME0 × ME0)) (ρ : Rho) : D → Store → Prop := fun x S => W (mv ρ S) (fun y S2 => W (mPairs ps ρ S2) (fun qs S3 => QP ((x, y) :: qs) S3) E) E
def kPs2 (QP : List (D × D) → Store → Prop) (ps : List (ME0 × ME0)) (ρ : Rho) (x : D) : D → Store → Prop := fun y S2 => W (mPairs ps ρ S2) (fun qs S3 => QP ((x, y) :: qs) S3) E
def kPs3 (QP : List (D × D) → Store → Prop) (x y : D) : List (D × D) → Store → Prop := fun qs S3 => QP ((x, y) :: qs) S3
def kEn2 : List D → Store → Prop := fun ds S => match ds with
  | [.tup xs] => QI (itE xs) S
  | [.lst xs] => QI (itE xs) S
  | [.frz xs] => QI (itE xs) S
  | [.ref n] => match lstAt S n with
    | some _ => QI (itSE n) S
    | none => False
  | _ => False
end
section
variable {Q : D → Store → Prop} {QA : List D → Store → Prop} {QT : Bool → Store → Prop} {QS : Fl × Rho → Store → Prop} {QR : Rho → Store → Prop} {QI : ItD → Store → Prop} {QO : Option Int → Store → Prop} {QP : Int × Int → Store → Prop} {QQ : List (D × D) → Store → Prop} {E : Er → Store → Prop} {ρ : Rho} {S : Store}
theorem k_opt {d : D} : kOpt Q (some d) S = Q d S := rfl
/-! items -/
theorem atI_nat {α : Type} {ds : List α} (n : Nat) : atI ds (n : Int) = ds[n]? := by
  unfold atI ixN
  rw [if_pos (Int.natCast_nonneg n)]
  by_cases h : n < ds.length
  · rw [if_pos (by omega), Int.toNat_natCast]
    try rfl
  · rw [if_neg (by omega), List.getElem?_eq_none (by omega)]
    try rfl
theorem atI_lit {α : Type} {ds : List α} (n : Nat) : atI ds (no_index (@OfNat.ofNat Int n _)) = ds[n]? := atI_nat n
theorem atI_of {α : Type} {ds : List α} {i : Int} (h : 0 ≤ i) : atI ds i = ds[i.toNat]? := by
  rw [← atI_nat, Int.toNat_of_nonneg h]
theorem W_ixDT {ds : List D} {i : Int} : W (fIxD (.tup ds) (.int i) S) Q E = kOpt Q (atI ds i) S := by
  show W (fIx (.tup ds) (.int i) S) Q E = _
  unfold fIx
  show W (match atI ds i with
    | some d => .ok d S
    | none => .bad) Q E = _
  cases atI ds i <;> rfl
theorem W_ixDL {ds : List D} {i : Int} : W (fIxD (.lst ds) (.int i) S) Q E = kOpt Q (atI ds i) S := by
  show W (fIx (.lst ds) (.int i) S) Q E = _
  unfold fIx
  show W (match atI ds i with
    | some d => .ok d S
    | none => .bad) Q E = _
  cases atI ds i <;> rfl
theorem W_ixDF {ds : List D} {i : Int} : W (fIxD (.frz ds) (.int i) S) Q E = kOpt Q (atI ds i) S := by
  show W (fIx (.frz ds) (.int i) S) Q E = _
  unfold fIx
  show W (match atI ds i with
    | some d => .ok d S
    | none => .bad) Q E = _
  cases atI ds i <;> rfl
theorem lst_of_get {n : Nat} {ds : List D} (h : S[n]? = some (.lst ds)) : lstAt S n = some ds := by
  unfold lstAt
  rw [h]
theorem W_ixDS {n : Nat} {ds : List D} {i : Int} (h : S[n]? = some (.lst ds)) : W (fIxD (.ref n) (.int i) S) Q E = kOpt Q (atI ds i) S := by
  have hd : dget S n (.int i) = none := by
    unfold dget
    rw [h]
    rfl
  unfold fIxD
  dsimp only
  rw [hd]
  dsimp only
  unfold fIx
  rw [show seqOf S (.ref n) = some ds from lst_of_get h]
  show W (match atI ds i with
    | some d => .ok d S
    | none => .bad) Q E = _
  cases atI ds i <;> rfl
/-- a dict, locked or not -/
def Dk (S : Store) (n : Nat) (kvs : List (Key × D)) : Prop := S[n]? = some (.dct kvs) ∨ S[n]? = some (.lk (.dct kvs))
theorem Dk.base {n : Nat} {kvs : List (Key × D)} (h : Dk S n kvs) : (S[n]?).map O.base = some (.dct kvs) := by
  rcases h with h | h <;> rw [h] <;> rfl
theorem Dk.noL {n : Nat} {kvs : List (Key × D)} (h : Dk S n kvs) : lstAt S n = none := by
  unfold lstAt
  rcases h with h | h <;> rw [h]
theorem W_ixDKb {n : Nat} {kvs : List (Key × D)} {y d : D} {k : Key} (h : Dk S n kvs) (hk : keyOf y = some k) (hd : alook kvs k = some d) : W (fIxD (.ref n) y S) Q E = Q d S := by
  have : dget S n y = some (some d) := by
    unfold dget
    rw [h.base]
    show (keyOf y).map (fun k => alook kvs k) = _
    rw [hk, Option.map_some, hd]
  unfold fIxD
  dsimp only
  rw [this]
  rfl
theorem W_ixDK {n : Nat} {kvs : List (Key × D)} {y d : D} {k : Key} (h : S[n]? = some (.dct kvs)) (hk : keyOf y = some k) (hd : alook kvs k = some d) : W (fIxD (.ref n) y S) Q E = Q d S := W_ixDKb (.inl h) hk hd
theorem W_lenS {n : Nat} {ds : List D} (h : S[n]? = some (.lst ds)) : W (fLen [.ref n] S) Q E = Q (.int ds.length) S := by
  unfold fLen
  dsimp only
  rw [show seqOf S (.ref n) = some ds from lst_of_get h]
  rfl
theorem W_lenZ {z : Str} (h : z.length ≤ sizeLine) : W (fLen [.str z] S) Q E = Q (.int z.length) S := by
  unfold fLen
  dsimp only [seqOf]
  rw [if_pos h]
  rfl
/-! targets -/
theorem W_gTpT {n : Nat} {gs : MGs0} {ds : List D} (h : ds.length = n) : W (gTpA n gs (.tup ds) ρ S) QR E = W (gs ds ρ S) QR E := by
  show W (if ds.length = n then gs ds ρ S else .bad) QR E = _
  rw [if_pos h]
theorem W_gTpL {n : Nat} {gs : MGs0} {ds : List D} (h : ds.length = n) : W (gTpA n gs (.lst ds) ρ S) QR E = W (gs ds ρ S) QR E := by
  show W (if ds.length = n then gs ds ρ S else .bad) QR E = _
  rw [if_pos h]
theorem W_gTpS {n m : Nat} {gs : MGs0} {ds : List D} (hm : S[m]? = some (.lst ds)) (h : ds.length = n) : W (gTpA n gs (.ref m) ρ S) QR E = W (gs ds ρ S) QR E := by
  unfold gTpA
  rw [show seqOf S (.ref m) = some ds from lst_of_get hm]
  show W (if ds.length = n then gs ds ρ S else .bad) QR E = _
  rw [if_pos h]
/-! slices -/
theorem W_noPart : W (mNoPart ρ S) QO E = QO none S := rfl
theorem W_part {me : ME0} : W (mPart me ρ S) QO E = W (me ρ S) (kPart QO) E := by
  unfold mPart; rw [W_bind]
  congr 1
  funext d S1
  cases d <;> rfl
theorem k_part {i : Int} : kPart QO (.int i) S = QO (some i) S := rfl
theorem W_sl {me : ME0} {ml mh : MO0} : W (mSl me ml mh ρ S) Q E = W (me ρ S) (kSl1 Q E ml mh ρ) E := by
  unfold mSl kSl1
  simp only [W_bind]
theorem k_sl1 {ml mh : MO0} {x : D} : kSl1 Q E ml mh ρ x S = W (ml ρ S) (kSl2 Q E mh ρ x) E := rfl
theorem k_sl2 {mh : MO0} {x : D} {lo : Option Int} : kSl2 Q E mh ρ x lo S = W (mh ρ S) (kSl3 Q E x lo) E := rfl
theorem k_sl3T {ds : List D} {lo hi : Option Int} : kSl3 Q E (.tup ds) lo hi S = Q (.tup (cutD ds lo hi)) S := rfl
theorem k_sl3L {ds : List D} {lo hi : Option Int} : kSl3 Q E (.lst ds) lo hi S = Q (.lst (cutD ds lo hi)) S := rfl
theorem k_sl3S {n : Nat} {ds : List D} {lo hi : Option Int} (h : S[n]? = some (.lst ds)) : kSl3 Q E (.ref n) lo hi S = Q (.lst (cutD ds lo hi)) S := by
  show W (match lstOf S (.ref n) with
    | some ds => .ok (.lst (cutD ds lo hi)) S
    | none => .bad) Q E = _
  rw [show lstOf S (.ref n) = some ds from lst_of_get h]
  rfl
theorem W_revT {ds : List D} : W (fRev (.tup ds) S) Q E = Q (.tup ds.reverse) S := rfl
theorem W_revL {ds : List D} : W (fRev (.lst ds) S) Q E = Q (.lst ds.reverse) S := rfl
theorem sIx_in {n d : Nat} {a : Int} (h0 : 0 ≤ a) : HT.sIx n d (some a) = min a.toNat n := by
  show (if a < 0 then (a + (n : Int)).toNat else min a.toNat n) = _
  rw [if_neg (by omega)]
theorem cutD_mid {α : Type} {xs : List α} {a b : Int} (h0 : 0 ≤ a) (h1 : a ≤ xs.length) (h2 : 0 ≤ b) (h3 : b ≤ xs.length) : cutD xs (some a) (some b) = (xs.drop a.toNat).take (b.toNat - a.toNat) := by
  unfold cutD
  rw [sIx_in h0, sIx_in h2, Nat.min_eq_left (by omega), Nat.min_eq_left (by omega)]
theorem cutD_lo {α : Type} {xs : List α} {b : Int} (h2 : 0 ≤ b) : cutD xs none (some b) = xs.take b.toNat := by
  unfold cutD
  have e1 : HT.sIx xs.length 0 none = 0 := rfl
  rw [e1, List.drop_zero, Nat.sub_zero]
  by_cases h3 : b ≤ xs.length
  · rw [sIx_in h2, Nat.min_eq_left (by omega)]
  · rw [sIx_in h2, Nat.min_eq_right (by omega), List.take_length, List.take_of_length_le (by omega)]
theorem cutD_hi {α : Type} {xs : List α} {a : Int} (h0 : 0 ≤ a) : cutD xs (some a) none = xs.drop a.toNat := by
  unfold cutD
  have e2 : HT.sIx xs.length xs.length none = xs.length := rfl
  rw [e2]
  by_cases h1 : a ≤ xs.length
  · rw [sIx_in h0, Nat.min_eq_left (by omega), List.take_of_length_le (by rw [List.length_drop]; omega)]
  · rw [sIx_in h0, Nat.min_eq_right (by omega), List.drop_of_length_le (Nat.le_refl _), List.drop_of_length_le (by omega), List.take_nil]
/-! instances -/
theorem ins_of_get {c : Str} {n : Nat} {fs : List (Str × D)} (h : S[n]? = some (.ins c fs)) : insAt S c n = some fs := by
  unfold insAt
  rw [h]
  show (if c = c then some fs else none) = _
  rw [if_pos rfl]
theorem W_fld {c f : Str} {n : Nat} {fs : List (Str × D)} {d : D} (h : S[n]? = some (.ins c fs)) (hf : fs.lookup f = some d) : W (fFld c f (.ref n) S) Q E = Q d S := by
  unfold fFld
  dsimp only
  rw [ins_of_get h]
  dsimp only
  rw [hf]
  rfl
theorem W_meth {c x : Str} {m : List D → Store → Res D} {cds : List D} {mo : ME0} {ma : MA0} : W (mMeth c x m cds mo ma ρ S) Q E = W (mo ρ S) (kMeth1 Q E c x m cds ma ρ) E := by
  unfold mMeth kMeth1
  rw [W_bind]
  congr 1
  funext o S1
  cases o with
  | ref n =>
    dsimp only
    cases insAt S1 c n with
    | none => rfl
    | some fs =>
      dsimp only
      cases fs.lookup x with
      | none => dsimp only; rw [W_bind]
      | some d => rfl
  | _ => rfl
theorem k_meth1 {c x : Str} {m : List D → Store → Res D} {cds : List D} {ma : MA0} {n : Nat} {fs : List (Str × D)} (h : S[n]? = some (.ins c fs)) (hf : fs.lookup x = none) : kMeth1 Q E c x m cds ma ρ (.ref n) S = W (ma ρ S) (kMeth2 Q E m cds (.ref n)) E := by
  unfold kMeth1
  dsimp only
  rw [ins_of_get h]
  dsimp only
  rw [hf]
  rfl
theorem k_meth2 {m : List D → Store → Res D} {cds us : List D} {o : D} : kMeth2 Q E m cds o us S = W (m (o :: (us ++ cds)) S) Q E := rfl
theorem W_calm_eq {α : Type} {r : Res α} {QQ : α → Store → Prop} : W r.calm QQ E = W r QQ Er0 := by
  cases r <;> rfl
theorem W_prop {c : Str} {m : List D → Store → Res D} {mo : ME0} : W (mPropC c m mo ρ S) Q E = W (mo ρ S) (kProp Q c m) E := by
  unfold mPropC kProp
  rw [W_bind]
  congr 1
  funext o S1
  cases o with
  | ref n =>
    dsimp only
    cases insAt S1 c n with
    | none => rfl
    | some fs => exact W_calm_eq
  | _ => rfl
theorem k_prop {c : Str} {m : List D → Store → Res D} {n : Nat} {fs : List (Str × D)} (h : S[n]? = some (.ins c fs)) : kProp Q c m (.ref n) S = W (m [.ref n] S) Q Er0 := by
  unfold kProp
  dsimp only
  rw [ins_of_get h]
theorem W_make {c : Str} {m : List D → Store → Res D} {cds : List D} {ma : MA0} : W (mMake c m cds ma ρ S) Q E = W (ma ρ S) (kMake Q E c m cds) E := by
  unfold mMake kMake
  rw [W_bind]
  congr 1
  funext us S1
  rw [W_bind]
  congr 1
  funext r S2
  cases r <;> rfl
theorem k_make {c : Str} {m : List D → Store → Res D} {cds us : List D} : kMake Q E c m cds us S = W (m (.ref S.length :: (us ++ cds)) (S ++ [.ins c []])) (kMade Q S.length) E := rfl
theorem k_made {n : Nat} : kMade Q n .non S = Q (.ref n) S := rfl
theorem W_sFld {c f : Str} {mv mo : ME0} : W (sFld c f mv mo ρ S) QS E = W (mv ρ S) (kFldS1 QS E c f mo ρ) E := by
  unfold sFld kFldS1
  rw [W_bind]
  congr 1
  funext d S1
  rw [W_bind]
  congr 1
  funext x S2
  cases x with
  | ref n =>
    dsimp only
    cases insAt S2 c n with
    | none => rfl
    | some fs =>
      dsimp only
      by_cases h : fs.length < 1000
      · rw [if_pos h, if_pos h]; rfl
      · rw [if_neg h, if_neg h]; rfl
  | _ => rfl
theorem k_fldS1 {c f : Str} {mo : ME0} {d : D} : kFldS1 QS E c f mo ρ d S = W (mo ρ S) (kFldS2 QS c f ρ d) E := rfl
theorem k_fldS2 {c f : Str} {d : D} {n : Nat} {fs : List (Str × D)} (h : S[n]? = some (.ins c fs)) (hl : fs.length < 1000) : kFldS2 QS c f ρ d (.ref n) S = QS (.nx, ρ) (S.set n (.ins c (fput f d fs))) := by
  unfold kFldS2
  dsimp only
  rw [ins_of_get h]
  dsimp only
  rw [if_pos hl]
/-! lists -/
theorem W_app {mo me : ME0} : W (mApp mo me ρ S) Q E = W (mo ρ S) (kApp1 Q E me ρ) E := by
  unfold mApp kApp1
  rw [W_bind]
  congr 1
  funext o S1
  cases o with
  | ref n =>
    dsimp only
    cases lstAt S1 n with
    | none => rfl
    | some ds0 =>
      dsimp only
      rw [W_bind]
      congr 1
      funext d S2
      cases lstAt S2 n with
      | none => rfl
      | some ds =>
        dsimp only
        by_cases h : ds.length < sizeLine
        · rw [if_pos h, if_pos h]; rfl
        · rw [if_neg h, if_neg h]; rfl
  | _ => rfl
theorem k_app1 {me : ME0} {n : Nat} {ds : List D} (h : S[n]? = some (.lst ds)) : kApp1 Q E me ρ (.ref n) S = W (me ρ S) (kApp2 Q n) E := by
  unfold kApp1
  dsimp only
  rw [lst_of_get h]
  rfl
theorem k_app2 {n : Nat} {ds : List D} {d : D} (h : S[n]? = some (.lst ds)) (hl : ds.length < sizeLine) : kApp2 Q n d S = Q .non (S.set n (.lst (ds ++ [d]))) := by
  unfold kApp2
  rw [lst_of_get h]
  dsimp only
  rw [if_pos hl]
theorem W_frL {f : List D → Store → Option (List D)} {ds es : List D} (h : f ds S = some es) : W (frL f ds S) Q E = Q (.lst es) S := by
  unfold frL
  rw [h]
  rfl
theorem W_frS {f : List D → Store → Option (List D)} {ds es : List D} (h : f ds S = some es) : W (frS f ds S) Q E = Q (.ref S.length) (S ++ [.lst es]) := by
  unfold frS
  rw [h]
  rfl
theorem lList_dctb {n : Nat} {kvs : List (Key × D)} (h : Dk S n kvs) : lList [.ref n] S = some (kvs.map fun (kv : Key × D) => keyD kv.1) := by
  have h1 : lSeq [.ref n] S = none := by
    show seqOf S (.ref n) = none
    exact h.noL
  unfold lList
  rw [h1]
  show lDct [.ref n] S = _
  unfold lDct
  dsimp only
  rw [show dctAt S (.ref n) = some kvs by unfold dctAt; dsimp only; rw [h.base]]
  rfl
theorem lList_dct {n : Nat} {kvs : List (Key × D)} (h : S[n]? = some (.dct kvs)) : lList [.ref n] S = some (kvs.map fun (kv : Key × D) => keyD kv.1) := lList_dctb (.inl h)
theorem lList_seq {d : D} {ds : List D} (h : seqOf S d = some ds) : lList [d] S = some ds := by
  unfold lList
  rw [show lSeq [d] S = some ds from h]
theorem W_bits {i : Int} : W (fBits (.int i) S) Q E = Q (.int (Builtin.Int.intBits i : Nat)) S := rfl
theorem intsOf_map (ns : List Int) : intsOf (ns.map D.int) = some ns := by
  induction ns with
  | nil => rfl
  | cons n ns ih =>
    show (intsOf (ns.map D.int)).map (n :: ·) = _
    rw [ih]
    rfl
theorem strsOf_map (ns : List Str) : strsOf (ns.map D.str) = some ns := by
  induction ns with
  | nil => rfl
  | cons n ns ih =>
    show (strsOf (ns.map D.str)).map (n :: ·) = _
    rw [ih]
    rfl
theorem W_lenSetT {ns : List Int} (h : ns.length ≤ 4000) : W (fLenSet (.tup (ns.map .int)) S) Q E = Q (.int (dstn ns).length) S := by
  unfold fLenSet
  dsimp only [seqOf]
  rw [intsOf_map]
  dsimp only
  rw [if_pos h]
  rfl
theorem W_lenSetL {ns : List Int} (h : ns.length ≤ 4000) : W (fLenSet (.lst (ns.map .int)) S) Q E = Q (.int (dstn ns).length) S := by
  unfold fLenSet
  show W (match (some (ns.map D.int) : Option (List D)) with
    | some ds => match intsOf ds with
      | some ns => if ns.length ≤ 4000 then .ok (.int (dstn ns).length) S else .bad
      | none => .bad
    | none => .bad) Q E = _
  dsimp only
  rw [intsOf_map]
  dsimp only
  rw [if_pos h]
  rfl
/-! o[i] = v -/
theorem W_gSt {mo mi : ME0} {d : D} : W (gSt mo mi d ρ S) QR E = W (mo ρ S) (kSt1 QR E mi ρ d) E := by
  unfold gSt kSt1
  rw [W_bind]
  congr 1
  funext o S1
  rw [W_bind]
  congr 1
  funext i S2
  cases setAt S2 o i d <;> rfl
theorem k_st1 {mi : ME0} {d o : D} : kSt1 QR E mi ρ d o S = W (mi ρ S) (kSt2 QR ρ d o) E := rfl
theorem k_st2L {n j : Nat} {ds : List D} {k : Int} {d : D} (h : S[n]? = some (.lst ds)) (hj : ixN ds.length k = some j) : kSt2 QR ρ d (.ref n) (.int k) S = QR ρ (S.set n (.lst (ds.set j d))) := by
  unfold kSt2 setAt
  dsimp only
  rw [h]
  dsimp only
  rw [hj]
  rfl
theorem k_st2K {n : Nat} {kvs : List (Key × D)} {k : Key} {y d : D} (h : S[n]? = some (.dct kvs)) (hk : keyOf y = some k) (hl : kvs.length < sizeLine) : kSt2 QR ρ d (.ref n) y S = QR ρ (S.set n (.dct (aput kvs k d))) := by
  unfold kSt2 setAt
  dsimp only
  rw [h]
  dsimp only
  rw [hk]
  dsimp only
  rw [if_pos hl]
theorem W_gSl {mo ma mb : ME0} {d : D} : W (gSl mo ma mb d ρ S) QR E = W (mo ρ S) (kGsl1 QR E ma mb ρ d) E := by
  unfold gSl kGsl1
  rw [W_bind]
  congr 1
  funext o S1
  rw [W_bind]
  congr 1
  funext i S2
  rw [W_bind]
  congr 1
  funext j S3
  cases o with
  | ref n =>
    cases i with
    | int a =>
      cases j with
      | int c =>
        cases d with
        | lst es =>
          dsimp only
          cases lstAt S3 n with
          | none => rfl
          | some ds =>
            dsimp only
            split
            · rfl
            · rfl
        | _ => rfl
      | _ => rfl
    | _ => rfl
  | _ => rfl
theorem k_gsl1 {ma mb : ME0} {d o : D} : kGsl1 QR E ma mb ρ d o S = W (ma ρ S) (kGsl2 QR E mb ρ d o) E := rfl
theorem k_gsl2 {mb : ME0} {d o i : D} : kGsl2 QR E mb ρ d o i S = W (mb ρ S) (kGsl3 QR ρ d o i) E := rfl
theorem k_gsl3 {n : Nat} {a c : Int} {es ds : List D} (h : S[n]? = some (.lst ds)) (h0 : 0 ≤ a) (h1 : a ≤ c) (h2 : c ≤ ds.length) (h3 : ds.length + es.length ≤ sizeLine) : kGsl3 QR ρ (.lst es) (.ref n) (.int a) (.int c) S = QR ρ (S.set n (.lst (ds.take a.toNat ++ es ++ ds.drop c.toNat))) := by
  unfold kGsl3
  dsimp only
  rw [lst_of_get h]
  dsimp only
  rw [if_pos ⟨h0, h1, h2, h3⟩]
/-! ranges as values -/
theorem W_rgT {m : MRg0} : W (mRgT m ρ S) Q E = W (m ρ S) (kRgT Q) E := by
  unfold mRgT kRgT
  rw [W_bind]
  congr 1
  funext x S1
  by_cases h : RgB x.1 x.2 = true
  · rw [if_pos h, if_pos h]; rfl
  · rw [if_neg h, if_neg h]; rfl
theorem W_rgL {m : MRg0} : W (mRgL m ρ S) Q E = W (m ρ S) (kRgL Q) E := by
  unfold mRgL kRgL
  rw [W_bind]
  congr 1
  funext x S1
  by_cases h : RgB x.1 x.2 = true
  · rw [if_pos h, if_pos h]; rfl
  · rw [if_neg h, if_neg h]; rfl
theorem W_rgS {m : MRg0} : W (mRgS m ρ S) Q E = W (m ρ S) (kRgS Q) E := by
  unfold mRgS kRgS
  rw [W_bind]
  congr 1
  funext x S1
  by_cases h : RgB x.1 x.2 = true
  · rw [if_pos h, if_pos h]; rfl
  · rw [if_neg h, if_neg h]; rfl
theorem W_rg1 {me : ME0} : W (mRg1 me ρ S) QP E = W (me ρ S) (kRg1 QP) E := by
  unfold mRg1
  rw [W_bind]
  congr 1
  funext d S1
  cases d <;> rfl
theorem k_rg1 {i : Int} : kRg1 QP (.int i) S = QP (0, i) S := rfl
theorem RgB_0 {i : Int} (h0 : 0 ≤ i) (h1 : i ≤ 2 ^ 24) : RgB 0 i = true := by
  unfold RgB
  exact decide_eq_true ⟨by omega, by omega, by omega, by omega, by omega⟩
theorem k_rgT {i : Int} (h0 : 0 ≤ i) (h1 : i ≤ 2 ^ 24) : kRgT Q (0, i) S = Q (.tup (rgD 0 i)) S := by
  unfold kRgT
  rw [if_pos (RgB_0 h0 h1)]
theorem k_rgL {i : Int} (h0 : 0 ≤ i) (h1 : i ≤ 2 ^ 24) : kRgL Q (0, i) S = Q (.lst (rgD 0 i)) S := by
  unfold kRgL
  rw [if_pos (RgB_0 h0 h1)]
theorem k_rgS {i : Int} (h0 : 0 ≤ i) (h1 : i ≤ 2 ^ 24) : kRgS Q (0, i) S = Q (.ref S.length) (S ++ [.lst (rgD 0 i)]) := by
  unfold kRgS
  rw [if_pos (RgB_0 h0 h1)]
/-! isinstance -/
theorem W_isiT {bs : List String} {t : String} {d : D} {b : Bool} (h : tyD S d = some t) (hk : kitAnyB t bs = some b) : W (fIsiT bs d S) Q E = Q (.bl b) S := by
  unfold fIsiT
  rw [h]
  dsimp only
  rw [hk]
  rfl
theorem W_isiC {c : Str} {n : Nat} {fs : List (Str × D)} (h : S[n]? = some (.ins c fs)) : W (fIsiC c (.ref n) S) Q E = Q (.bl true) S := by
  have ht : tyD S (.ref n) = none := by
    show tyO S[n]? = none
    rw [h]
    rfl
  unfold fIsiC
  rw [ht]
  dsimp only
  rw [ins_of_get h]
  rfl
theorem W_isiCn {c : Str} {t : String} {d : D} (h : tyD S d = some t) : W (fIsiC c d S) Q E = Q (.bl false) S := by
  unfold fIsiC
  rw [h]
  rfl
/-! walks -/
theorem W_miS {me : ME0} : W (miS me ρ S) QI E = W (me ρ S) (kItS QI) E := by
  unfold miS
  rw [W_bind]
  congr 1
  funext d S1
  cases d <;> rfl
theorem k_itS {z : Str} : kItS QI (.str z) S = QI (itL (signsD z)) S := rfl
theorem k_it_ref {n : Nat} {ds : List D} (h : S[n]? = some (.lst ds)) : kIt QI (.ref n) S = QI (itS n) S := by
  unfold kIt
  rw [show itOf S (.ref n) = some (itS n) by show (lstAt S n).map _ = _; rw [lst_of_get h]; rfl]
theorem W_E2 {ma : MA0} : W (miE2 ma ρ S) QI E = W (ma ρ S) (kEn2 QI) E := by
  unfold miE2
  rw [W_bind]
  congr 1
  funext ds S1
  cases ds with
  | nil => rfl
  | cons d r =>
    cases d <;> cases r <;> try rfl
    unfold kEn2
    dsimp only
    rename_i n
    cases lstAt S1 n <;> rfl
theorem k_en2_tup {xs : List D} : kEn2 QI [.tup xs] S = QI (itE xs) S := rfl
theorem k_en2_lst {xs : List D} : kEn2 QI [.lst xs] S = QI (itE xs) S := rfl
theorem k_en2_frz {xs : List D} : kEn2 QI [.frz xs] S = QI (itE xs) S := rfl
theorem k_en2_ref {n : Nat} {ds : List D} (h : S[n]? = some (.lst ds)) : kEn2 QI [.ref n] S = QI (itSE n) S := by
  unfold kEn2
  dsimp only
  rw [lst_of_get h]
theorem W_R1q {ma : MA0} : W (miR1 ma ρ S) QI E = W (ma ρ S) (kR1 QI) E := by
  unfold miR1
  rw [W_bind]
  congr 1
  funext ds S1
  match ds with
  | [] => rfl
  | [.int j] =>
    show W (if -(2 ^ 62) ≤ j ∧ j < 2 ^ 62 then .ok (itR 0 j.toNat) S1 else .bad) QI E = (-(2 ^ 62) ≤ j ∧ j < 2 ^ 62 ∧ QI (itR 0 j.toNat) S1)
    by_cases h : -(2 ^ 62) ≤ j ∧ j < 2 ^ 62
    · rw [if_pos h]
      exact propext ⟨fun q => ⟨h.1, h.2, q⟩, fun q => q.2.2⟩
    · rw [if_neg h]
      exact propext ⟨fun q => q.elim, fun q => h ⟨q.1, q.2.1⟩⟩
  | [.non] => rfl
  | [.bl _] => rfl
  | [.str _] => rfl
  | [.tup _] => rfl
  | [.lst _] => rfl
  | [.frz _] => rfl
  | [.ref _] => rfl
  | [.err _ _ _] => rfl
  | [.non, _] => rfl
  | [.bl _, _] => rfl
  | [.int _, _] => rfl
  | [.str _, _] => rfl
  | [.tup _, _] => rfl
  | [.lst _, _] => rfl
  | [.frz _, _] => rfl
  | [.ref _, _] => rfl
  | [.err _ _ _, _] => rfl
  | a :: _ :: _ :: _ => cases a <;> rfl
theorem W_par {i j : Nat} {ma : MA0} : W (sPar i j ma ρ S) QS E = W (ma ρ S) (kPar QS i j ρ) E := by
  unfold sPar
  rw [W_bind]
  congr 1
  funext ds S1
  match ds with
  | [] => rfl
  | [_] => rfl
  | [_, _] => rfl
  | _ :: _ :: _ :: _ => rfl
theorem k_par {i j : Nat} {x y : D} : kPar QS i j ρ [x, y] S = QS (.nx, (ρ.set i (some x)).set j (some y)) S := rfl
theorem W_par3 {i j l : Nat} {ma : MA0} : W (sPar3 i j l ma ρ S) QS E = W (ma ρ S) (kPar3 QS i j l ρ) E := by
  unfold sPar3
  rw [W_bind]
  congr 1
  funext ds S1
  match ds with
  | [] => rfl
  | [_] => rfl
  | [_, _] => rfl
  | [_, _, _] => rfl
  | _ :: _ :: _ :: _ :: _ => rfl
theorem k_par3 {i j l : Nat} {x y z : D} : kPar3 QS i j l ρ [x, y, z] S = QS (.nx, ((ρ.set i (some x)).set j (some y)).set l (some z)) S := rfl
/-! dicts -/
theorem W_dct0 : W (mDct0 ρ S) Q E = Q (.ref S.length) (S ++ [.dct []]) := rfl
theorem W_disp {ps : List (ME0 × ME0)} : W (mDisp ps ρ S) Q E = W (mPairs ps ρ (S ++ [.dct []])) (kDisp Q S.length) E := by
  unfold mDisp
  rw [W_bind]
  congr 1
  funext qs S1
  unfold kDisp
  cases pkeys qs with
  | none => rfl
  | some kvs =>
    cases S1[S.length]? with
    | none => rfl
    | some o =>
      cases o with
      | dct zs =>
        cases zs with
        | nil =>
          dsimp only
          by_cases h : kvs.length ≤ 15
          · rw [if_pos h, if_pos h]; rfl
          · rw [if_neg h, if_neg h]; rfl
        | cons a b => rfl
      | _ => rfl
theorem W_pnil : W (mPairs [] ρ S) QQ E = QQ [] S := rfl
theorem W_pcons {mk mv : ME0} {ps : List (ME0 × ME0)} : W (mPairs ((mk, mv) :: ps) ρ S) QQ E = W (mk ρ S) (kPs1 E QQ mv ps ρ) E := by
  unfold mPairs kPs1
  simp only [W_bind, W_ok]
theorem k_ps1 {mv : ME0} {ps : List (ME0 × ME0)} {x : D} : kPs1 E QQ mv ps ρ x S = W (mv ρ S) (kPs2 E QQ ps ρ x) E := rfl
theorem k_ps2 {ps : List (ME0 × ME0)} {x y : D} : kPs2 E QQ ps ρ x y S = W (mPairs ps ρ S) (kPs3 QQ x y) E := rfl
theorem k_ps3 {x y : D} {qs : List (D × D)} : kPs3 QQ x y qs S = QQ ((x, y) :: qs) S := rfl
theorem k_disp {n : Nat} {qs : List (D × D)} {kvs : List (Key × D)} (h : pkeys qs = some kvs) (hn : S[n]? = some (.dct [])) (hl : kvs.length ≤ 15) : kDisp Q n qs S = Q (.ref n) (S.set n (.dct (putAll [] kvs))) := by
  unfold kDisp
  rw [h, hn]
  dsimp only
  rw [if_pos hl]
end
/-! ### loops over what stands in the store -/
section
variable {QS : Fl × Rho → Store → Prop} {QA : List D → Store → Prop} {Q : D → Store → Prop} {E : Er → Store → Prop} {g : MG0} {b : MS0} {it : ItD} {xs : List D} {tt : MT0} {te mk mv : ME0}
theorem W_forLI (I : Nat → Rho → Store → Prop) (hx : ∀ i ρ S, I i ρ S → it.get i S = some xs[i]?) (hs : ∀ i d ρ S, xs[i]? = some d → I i ρ S → W (g d ρ S) (kBody QS E (I (i + 1)) b) E) (he : ∀ ρ S, I xs.length ρ S → QS (.nx, ρ) S) : ∀ (n i : Nat) (ρ : Rho) (S : Store), xs.length < i + n → i ≤ xs.length → I i ρ S → W (forL g b n i it ρ S) QS E
  | 0, i, ρ, S, h1, h2, _ => by omega
  | n + 1, i, ρ, S, h1, h2, hI => by
    unfold forL
    rw [hx i ρ S hI]
    cases hi : xs[i]? with
    | none =>
      have : i = xs.length := by have := List.getElem?_eq_none_iff.mp hi; omega
      subst this
      exact he ρ S hI
    | some d =>
      dsimp only
      rw [W_bind]
      refine (hs i d ρ S hi hI).mono fun ρ1 S1 h => ?_
      rw [W_bind]
      refine W.mono h fun x S2 h => ?_
      obtain ⟨hl, _⟩ := List.getElem?_eq_some_iff.mp hi
      obtain ⟨fl, ρ2⟩ := x
      cases fl with
      | nx => exact W_forLI I hx hs he n (i + 1) ρ2 S2 (by omega) (by omega) h
      | ct => exact W_forLI I hx hs he n (i + 1) ρ2 S2 (by omega) (by omega) h
      | bk => exact h
      | rt d => exact h
/-- as k_for, the walked thing as it stands where the invariant holds -/
theorem k_forI {ρ : Rho} {S : Store} (xs : List D) (hl : xs.length < BIG) (I : Nat → Rho → Store → Prop) (h0 : I 0 ρ S) (hx : ∀ i ρ S, I i ρ S → it.get i S = some xs[i]?) (hs : ∀ i d ρ S, xs[i]? = some d → I i ρ S → W (g d ρ S) (kBody QS E (I (i + 1)) b) E) (he : ∀ ρ S, I xs.length ρ S → QS (.nx, ρ) S) : kFor QS E g b ρ it S :=
  W_forLI I hx hs he BIG 0 ρ S (by omega) (by omega) h0
theorem get_itS {n : Nat} {S : Store} {ds : List D} (h : S[n]? = some (.lst ds)) (i : Nat) : (itS n).get i S = some ds[i]? := by
  show (lstAt S n).map (fun ds => ds[i]?) = _
  rw [lst_of_get h]
  rfl
theorem get_itSE {n : Nat} {S : Store} {ds : List D} (h : S[n]? = some (.lst ds)) (i : Nat) : (itSE n).get i S = some (enumD ds)[i]? := by
  show (lstAt S n).map (fun ds => ds[i]?.map fun d => D.tup [.int i, d]) = _
  rw [lst_of_get h]
  exact lst_E ds i S
theorem W_lcLoopI {ρ : Rho} (I : Nat → List D → Store → Prop) (hx : ∀ i acc S, I i acc S → it.get i S = some xs[i]?) (hs : ∀ i d acc S, xs[i]? = some d → I i acc S → W (g d ρ S) (kLc1 tt te (fun y S' => acc.length < sizeLine ∧ I (i + 1) (acc ++ [y]) S') (fun S' => I (i + 1) acc S')) Er0) (he : ∀ acc S, I xs.length acc S → QA acc S) :
    ∀ (n i : Nat) (acc : List D) (S : Store), xs.length < i + n → i ≤ xs.length → I i acc S → W (lcL g tt te n i it ρ acc S) QA E
  | 0, i, acc, S, h1, h2, _ => by omega
  | n + 1, i, acc, S, h1, h2, hI => by
    unfold lcL
    rw [hx i acc S hI]
    cases hi : xs[i]? with
    | none =>
      have : i = xs.length := by have := List.getElem?_eq_none_iff.mp hi; omega
      subst this
      exact he acc S hI
    | some d =>
      dsimp only
      rw [W_bind]
      obtain ⟨hl, _⟩ := List.getElem?_eq_some_iff.mp hi
      refine W_calm ((hs i d acc S hi hI).mono fun ρ1 S1 h => ?_)
      rw [W_bind]
      refine W_calm (W.mono h fun bb S2 h => ?_)
      cases bb with
      | true =>
        rw [if_pos rfl] at h ⊢
        rw [W_bind]
        refine W_calm (W.mono h fun y S3 h => ?_)
        rw [if_pos h.1]
        exact W_lcLoopI I hx hs he n (i + 1) _ S3 (by omega) (by omega) h.2
      | false =>
        rw [if_neg Bool.false_ne_true] at h ⊢
        exact W_lcLoopI I hx hs he n (i + 1) _ S2 (by omega) (by omega) h
theorem k_lcI {ρ : Rho} {S : Store} {vs : List Nat} (xs : List D) (hl : xs.length < BIG) (I : Nat → List D → Store → Prop) (h0 : I 0 [] S) (hx : ∀ i acc S, I i acc S → it.get i S = some xs[i]?) (hs : ∀ i d acc S, xs[i]? = some d → I i acc S → W (g d (wipeD ρ vs) S) (kLc1 tt te (fun y S' => acc.length < sizeLine ∧ I (i + 1) (acc ++ [y]) S') (fun S' => I (i + 1) acc S')) Er0) (he : ∀ acc S, I xs.length acc S → QA acc S) : kLc QA E g tt te vs ρ it S :=
  W_lcLoopI I hx hs he BIG 0 [] S (by omega) (by omega) h0
/-- a comprehension that keeps the store where it matters -/
theorem k_lc_mapI {ρ : Rho} {S : Store} {vs : List Nat} {f : D → D} (xs : List D) (hl : xs.length < sizeLine) (Z : Store → Prop) (h0 : Z S) (hx : ∀ i S, Z S → it.get i S = some xs[i]?) (h : ∀ d ∈ xs, ∀ S, Z S → ∀ Y : D → Store → Prop, (∀ S', Z S' → Y (f d) S') → W (g d (wipeD ρ vs) S) (kEl te Y) Er0) (hq : ∀ S', Z S' → QA (xs.map f) S') : kLc QA E g mYes te vs ρ it S := by
  refine k_lcI xs (Nat.lt_trans hl (by decide)) (fun i acc S' => Z S' ∧ acc = (xs.take i).map f) ⟨h0, rfl⟩ (fun i acc S' hI => hx i S' hI.1) (fun i d acc S' hi hI => ?_) fun acc S' hI => ?_
  · obtain ⟨hz, rfl⟩ := hI
    refine W.mono (h d (List.mem_of_getElem? hi) S' hz (fun y S2 => y = f d ∧ Z S2) fun S2 h2 => ⟨rfl, h2⟩) fun ρ1 S1 h1 => ?_
    rw [k_el] at h1
    rw [k_lc1, W_yes, k_lc2_t]
    refine h1.mono fun y S2 h2 => ?_
    obtain ⟨rfl, h2⟩ := h2
    refine ⟨?_, h2, ?_⟩
    · rw [List.length_map, List.length_take]
      omega
    · rw [List.take_add_one, hi, List.map_append]
      rfl
  · obtain ⟨hz, rfl⟩ := hI
    rw [List.take_length]
    exact hq S' hz
/-! dict comprehensions -/
def kDc (Q : D → Store → Prop) (E : Er → Store → Prop) (g : MG0) (tt : MT0) (mk mv : ME0) (vs : List Nat) (ρ : Rho) : ItD → Store → Prop := fun it S => W (dcL g tt mk mv S.length BIG 0 it (wipeD ρ vs) (S ++ [.dct []])) (fun _ S2 => Q (.ref S.length) S2) E
theorem W_dc {mi : MI0} {ρ : Rho} {S : Store} {vs : List Nat} : W (mDc mi g tt mk mv vs ρ S) Q E = W (mi ρ S) (kDc Q E g tt mk mv vs ρ) E := by
  unfold mDc kDc
  simp only [W_bind, W_ok]
/-- what a turn leads to -/
def kDc1 (tt : MT0) (mk mv : ME0) (Y : D → D → Store → Prop) (N : Store → Prop) : Rho → Store → Prop := fun ρ S => W (tt ρ S) (fun b S2 => if b = true then W (mk ρ S2) (fun y S3 => W (mv ρ S3) (fun z S4 => Y y z S4) Er0) Er0 else N S2) Er0
def kDc2 (mk mv : ME0) (ρ : Rho) (Y : D → D → Store → Prop) (N : Store → Prop) : Bool → Store → Prop := fun b S2 => if b = true then W (mk ρ S2) (fun y S3 => W (mv ρ S3) (fun z S4 => Y y z S4) Er0) Er0 else N S2
def kDc3 (mv : ME0) (ρ : Rho) (Y : D → D → Store → Prop) : D → Store → Prop := fun y S3 => W (mv ρ S3) (fun z S4 => Y y z S4) Er0
def kDc4 (Y : D → D → Store → Prop) (y : D) : D → Store → Prop := fun z S4 => Y y z S4
theorem k_dc1 {Y : D → D → Store → Prop} {N : Store → Prop} {ρ : Rho} {S : Store} : kDc1 tt mk mv Y N ρ S = W (tt ρ S) (kDc2 mk mv ρ Y N) Er0 := rfl
theorem k_dc2_t {Y : D → D → Store → Prop} {N : Store → Prop} {ρ : Rho} {S : Store} : kDc2 mk mv ρ Y N true S = W (mk ρ S) (kDc3 mv ρ Y) Er0 := rfl
theorem k_dc2_f {Y : D → D → Store → Prop} {N : Store → Prop} {ρ : Rho} {S : Store} : kDc2 mk mv ρ Y N false S = N S := rfl
theorem k_dc3 {Y : D → D → Store → Prop} {ρ : Rho} {S : Store} {y : D} : kDc3 mv ρ Y y S = W (mv ρ S) (kDc4 Y y) Er0 := rfl
theorem k_dc4 {Y : D → D → Store → Prop} {S : Store} {y z : D} : kDc4 Y y z S = Y y z S := rfl
theorem W_dcLoop {ρ : Rho} {n0 : Nat} {QU : Unit → Store → Prop} (I : Nat → Store → Prop) (hx : ∀ i S, I i S → it.get i S = some xs[i]?)
    (hs : ∀ i d S, xs[i]? = some d → I i S → W (g d ρ S) (kDc1 tt mk mv (fun y z S' => ∃ k kvs, keyOf y = some k ∧ S'[n0]? = some (.dct kvs) ∧ kvs.length < sizeLine ∧ I (i + 1) (S'.set n0 (.dct (aput kvs k z)))) (fun S' => I (i + 1) S')) Er0) (he : ∀ S, I xs.length S → QU () S) :
    ∀ (n i : Nat) (S : Store), xs.length < i + n → i ≤ xs.length → I i S → W (dcL g tt mk mv n0 n i it ρ S) QU E
  | 0, i, S, h1, h2, _ => by omega
  | n + 1, i, S, h1, h2, hI => by
    unfold dcL
    rw [hx i S hI]
    cases hi : xs[i]? with
    | none =>
      have : i = xs.length := by have := List.getElem?_eq_none_iff.mp hi; omega
      subst this
      exact he S hI
    | some d =>
      dsimp only
      rw [W_bind]
      obtain ⟨hl, _⟩ := List.getElem?_eq_some_iff.mp hi
      refine W_calm ((hs i d S hi hI).mono fun ρ1 S1 h => ?_)
      rw [W_bind]
      refine W_calm (W.mono h fun bb S2 h => ?_)
      cases bb with
      | true =>
        rw [if_pos rfl] at h ⊢
        rw [W_bind]
        refine W_calm (W.mono h fun y S3 h => ?_)
        rw [W_bind]
        refine W_calm (W.mono h fun z S4 h => ?_)
        obtain ⟨k, kvs, e1, e2, e3, e4⟩ := h
        rw [e1, e2]
        dsimp only
        rw [if_pos e3]
        exact W_dcLoop I hx hs he n (i + 1) _ (by omega) (by omega) e4
      | false =>
        rw [if_neg Bool.false_ne_true] at h ⊢
        exact W_dcLoop I hx hs he n (i + 1) S2 (by omega) (by omega) h
theorem k_dc {ρ : Rho} {S : Store} {vs : List Nat} (xs : List D) (hl : xs.length < BIG) (I : Nat → Store → Prop) (h0 : I 0 (S ++ [.dct []])) (hx : ∀ i S, I i S → it.get i S = some xs[i]?)
    (hs : ∀ i d S', xs[i]? = some d → I i S' → W (g d (wipeD ρ vs) S') (kDc1 tt mk mv (fun y z S' => ∃ k kvs, keyOf y = some k ∧ S'[S.length]? = some (.dct kvs) ∧ kvs.length < sizeLine ∧ I (i + 1) (S'.set S.length (.dct (aput kvs k z)))) (fun S' => I (i + 1) S')) Er0) (he : ∀ S', I xs.length S' → Q (.ref S.length) S') : kDc Q E g tt mk mv vs ρ it S :=
  W_dcLoop I hx hs he BIG 0 _ (by omega) (by omega) h0
end
/-! ### equality, lists of the store too -/
section
variable {Q : D → Store → Prop} {E : Er → Store → Prop} {S : Store}
mutual
theorem flat_pyR : ∀ {f n : Nat} {d : D}, flat n d = true → n < f → toPyR S f d = some (pyOf d)
  | 0, n, d, h, hf => by omega
  | f + 1, n, .non, h, hf => by unfold pyOf; rfl
  | f + 1, n, .bl b, h, hf => by unfold pyOf; rfl
  | f + 1, n, .int i, h, hf => by unfold pyOf; rfl
  | f + 1, n, .str z, h, hf => by unfold pyOf; rfl
  | f + 1, n + 1, .tup ds, h, hf => by
    unfold flat at h
    unfold pyOf
    show (optAll (ds.map (toPyR S f))).map PyData.tuple = _
    rw [flatL_pyR h (by omega)]
    rfl
  | f + 1, n + 1, .lst ds, h, hf => by
    unfold flat at h
    unfold pyOf
    show (optAll (ds.map (toPyR S f))).map PyData.list = _
    rw [flatL_pyR h (by omega)]
    rfl
  | f + 1, 0, .tup ds, h, hf => by unfold flat at h; cases h
  | f + 1, 0, .lst ds, h, hf => by unfold flat at h; cases h
  | f + 1, n, .frz ds, h, hf => by unfold flat at h; cases h
  | f + 1, n, .err _ _ _, h, hf => by unfold flat at h; cases h
  | f + 1, n, .ref ds, h, hf => by unfold flat at h; cases h
theorem flatL_pyR : ∀ {f n : Nat} {ds : List D}, flatL n ds = true → n < f → optAll (ds.map (toPyR S f)) = some (pyOfL ds)
  | f, n, [], h, hf => by unfold pyOfL; rfl
  | f, n, d :: ds, h, hf => by
    unfold flatL at h
    obtain ⟨h1, h2⟩ := Bool.and_eq_true_iff.mp h
    rw [List.map_cons]
    unfold optAll pyOfL
    rw [flat_pyR h1 hf, flatL_pyR h2 hf]
end
theorem W_eq2F {neg : Bool} {x y : D} (hx : flat 64 x = true) (hy : flat 64 y = true) : W (fEq2 neg x y S) Q E = Q (.bl (if neg then !eqD x y else eqD x y)) S := by
  unfold fEq2
  rw [eqRes_flat hx hy]
  rfl
theorem W_eq2I {neg : Bool} {i j : Int} : W (fEq2 neg (.int i) (.int j) S) Q E = Q (.bl (if neg then !decide (i = j) else decide (i = j))) S := by
  rw [W_eq2F (by unfold flat; rfl) (by unfold flat; rfl)]
  have : eqD (.int i) (.int j) = decide (i = j) := by
    simp only [eqD, pyOf, PyData.eqv]
    rfl
  rw [this]
theorem W_eq2N {neg : Bool} {x y : D} [h : Decidable (x = y)] (hx : flat 64 x = true) (hy : flat 64 y = true) (nx : noB x = true) (ny : noB y = true) : W (fEq2 neg x y S) Q E = Q (.bl (if neg then !decide (x = y) else decide (x = y))) S := by
  rw [W_eq2F hx hy]
  have : eqD x y = decide (x = y) := by
    rw [Bool.eq_iff_iff, eqD_iff nx ny, decide_eq_true_iff]
  rw [this]
theorem W_eq2Ref {neg : Bool} {n : Nat} {xs : List D} {y : D} (h : S[n]? = some (.lst xs)) (hx : flat 64 (.lst xs) = true) (hy : flat 64 y = true) : W (fEq2 neg (.ref n) y S) Q E = Q (.bl (if neg then !eqD (.lst xs) y else eqD (.lst xs) y)) S := by
  have h1 : eqRes S neg (.ref n) y = none := by
    unfold eqRes
    rw [show toPy S (.ref n) = none by unfold toPy; rfl]
  have e1 : toPyR S 70 (.ref n) = some (pyOf (.lst xs)) := by
    show (match lstAt S n with
      | some ds => (optAll (ds.map (toPyR S 69))).map PyData.list
      | none => none) = _
    rw [lst_of_get h]
    unfold flat at hx
    show (optAll (xs.map (toPyR S 69))).map PyData.list = _
    rw [flatL_pyR (n := 63) hx (by decide)]
    unfold pyOf
    rfl
  have e2 : toPyR S 70 y = some (pyOf y) := flat_pyR (n := 64) hy (by decide)
  have h2 : eqResR S neg (.ref n) y = some (if neg then !eqD (.lst xs) y else eqD (.lst xs) y) := by
    obtain ⟨a1, a2, a3⟩ := flat_py S hx
    obtain ⟨b1, b2, b3⟩ := flat_py S hy
    unfold eqResR
    rw [e1, e2]
    dsimp only
    rw [if_pos]
    · rfl
    · unfold SeqAt.shaped
      rw [a2, b2, decide_eq_true a3, decide_eq_true b3]
      exact ⟨rfl, rfl⟩
  unfold fEq2
  rw [h1]
  dsimp only
  rw [h2]
  rfl
end
end MM

/-! What locks, walks over dicts, zip, +=, setdefault, try and raise come to. -/
namespace MM
open PySem L2
section
variable {Q : D → Store → Prop} {QA : List D → Store → Prop} {QT : Bool → Store → Prop} {QS : Fl × Rho → Store → Prop} {QI : ItD → Store → Prop} {E : Er → Store → Prop} {S : Store} {ρ : Rho}
/-! ### locks -/
theorem W_lockR {α : Type} {QQ : α → Store → Prop} {m : Store → Res α} {n : Nat} {kvs : List (Key × D)} (hn : S[n]? = some (.dct kvs)) (hw : W (m (S.set n (.lk (.dct kvs)))) (fun x S' => ∃ k2, S'[n]? = some (.lk (.dct k2)) ∧ QQ x (S'.set n (.dct k2))) E) : W (lockR (some n) m S) QQ E := by
  unfold lockR
  dsimp only
  rw [hn]
  dsimp only
  rw [W_bind]
  refine hw.mono fun x S' h => ?_
  obtain ⟨k2, e, q⟩ := h
  unfold unD
  rw [e]
  exact q
theorem W_lockRT {α : Type} {QQ : α → Store → Prop} {m : Store → Res α} {n : Nat} {kvs : List (List Key × D)} (hn : S[n]? = some (.dcT kvs)) (hw : W (m (S.set n (.lk (.dcT kvs)))) (fun x S' => ∃ k2, S'[n]? = some (.lk (.dcT k2)) ∧ QQ x (S'.set n (.dcT k2))) E) : W (lockR (some n) m S) QQ E := by
  unfold lockR
  dsimp only
  rw [hn]
  dsimp only
  rw [W_bind]
  refine hw.mono fun x S' h => ?_
  obtain ⟨k2, e, q⟩ := h
  unfold unT
  rw [e]
  exact q
theorem lockR_lk {α : Type} {m : Store → Res α} {n : Nat} {o : O} (hn : S[n]? = some (.lk o)) : lockR (some n) m S = m S := by
  unfold lockR
  dsimp only
  rw [hn]
theorem W_sLock {h : Rho → Store → Option Nat} {m : MS0} {n : Nat} {kvs : List (Key × D)} (hh : h ρ S = some n) (hn : S[n]? = some (.dct kvs)) (hw : W (m ρ (S.set n (.lk (.dct kvs)))) (fun x S' => ∃ k2, S'[n]? = some (.lk (.dct k2)) ∧ QS x (S'.set n (.dct k2))) E) : W (sLock h m ρ S) QS E := by
  unfold sLock
  rw [hh]
  exact W_lockR hn hw
theorem W_mLock {h : Rho → Store → Option Nat} {m : ME0} {n : Nat} {kvs : List (Key × D)} (hh : h ρ S = some n) (hn : S[n]? = some (.dct kvs)) (hw : W (m ρ (S.set n (.lk (.dct kvs)))) (fun x S' => ∃ k2, S'[n]? = some (.lk (.dct k2)) ∧ Q x (S'.set n (.dct k2))) E) : W (mLock h m ρ S) Q E := by
  unfold mLock
  rw [hh]
  exact W_lockR hn hw
theorem sLock_lk {h : Rho → Store → Option Nat} {m : MS0} {n : Nat} {o : O} (hh : h ρ S = some n) (hn : S[n]? = some (.lk o)) : sLock h m ρ S = m ρ S := by
  unfold sLock
  rw [hh, lockR_lk hn]
theorem mLock_lk {h : Rho → Store → Option Nat} {m : ME0} {n : Nat} {o : O} (hh : h ρ S = some n) (hn : S[n]? = some (.lk o)) : mLock h m ρ S = m ρ S := by
  unfold mLock
  rw [hh, lockR_lk hn]
/-- the hint: what an expression points at -/
theorem atRef_of {me : ME0} {n : Nat} (h : ∀ {Q : D → Store → Prop}, Q (.ref n) S → W (me ρ S) Q Er0) : atRef me ρ S = some n := by
  have := h (Q := fun d S' => d = .ref n) rfl
  unfold atRef
  cases hm : me ρ S with
  | ok d S' =>
    rw [hm] at this
    have e : d = .ref n := this
    rw [e]
  | exc e S' => rw [hm] at this; exact this.elim
  | bad => rw [hm] at this; exact this.elim
/-! ### walks -/
def kItK (QI : ItD → Store → Prop) : D → Store → Prop := fun d S1 => match d with
  | .ref n => match S1[n]? with
    | some (.lk (.dct _)) => QI (itK n) S1
    | some (.lk (.dcT _)) => QI (itKT n) S1
    | _ => False
  | _ => False
def kItKM (QI : ItD → Store → Prop) : D → Store → Prop := fun d S1 => match d with
  | .ref n => match S1[n]? with
    | some (.lk (.dct _)) => QI (itK n) S1
    | _ => False
  | _ => False
def kItV (QI : ItD → Store → Prop) : D → Store → Prop := fun d S1 => match d with
  | .ref n => match S1[n]? with
    | some (.lk (.dct _)) => QI (itV n) S1
    | _ => False
  | _ => False
def kItP (QI : ItD → Store → Prop) : D → Store → Prop := fun d S1 => match d with
  | .ref n => match S1[n]? with
    | some (.lk (.dct _)) => QI (itP n) S1
    | _ => False
  | _ => False
theorem W_miK {me : ME0} : W (miK me ρ S) QI E = W (me ρ S) (kItK QI) E := by
  unfold miK
  rw [W_bind]
  congr 1
  funext d S1
  unfold kItK
  cases d with
  | ref n =>
    dsimp only
    generalize S1[n]? = o
    cases o with
    | none => rfl
    | some o =>
      cases o with
      | lk o => cases o <;> rfl
      | _ => rfl
  | _ => rfl
theorem W_miKM {me : ME0} : W (miKM me ρ S) QI E = W (me ρ S) (kItKM QI) E := by
  unfold miKM
  rw [W_bind]
  congr 1
  funext d S1
  unfold kItKM
  cases d with
  | ref n =>
    dsimp only
    generalize S1[n]? = o
    cases o with
    | none => rfl
    | some o =>
      cases o with
      | lk o => cases o <;> rfl
      | _ => rfl
  | _ => rfl
theorem W_miV {me : ME0} : W (miV me ρ S) QI E = W (me ρ S) (kItV QI) E := by
  unfold miV
  rw [W_bind]
  congr 1
  funext d S1
  unfold kItV
  cases d with
  | ref n =>
    dsimp only
    generalize S1[n]? = o
    cases o with
    | none => rfl
    | some o =>
      cases o with
      | lk o => cases o <;> rfl
      | _ => rfl
  | _ => rfl
theorem W_miP {me : ME0} : W (miP me ρ S) QI E = W (me ρ S) (kItP QI) E := by
  unfold miP
  rw [W_bind]
  congr 1
  funext d S1
  unfold kItP
  cases d with
  | ref n =>
    dsimp only
    generalize S1[n]? = o
    cases o with
    | none => rfl
    | some o =>
      cases o with
      | lk o => cases o <;> rfl
      | _ => rfl
  | _ => rfl
theorem k_itK {n : Nat} {kvs : List (Key × D)} (h : S[n]? = some (.lk (.dct kvs))) : kItK QI (.ref n) S = QI (itK n) S := by
  show (match S[n]? with
    | some (.lk (.dct _)) => QI (itK n) S
    | some (.lk (.dcT _)) => QI (itKT n) S
    | _ => False) = _
  rw [h]
theorem k_itV {n : Nat} {kvs : List (Key × D)} (h : S[n]? = some (.lk (.dct kvs))) : kItV QI (.ref n) S = QI (itV n) S := by
  show (match S[n]? with
    | some (.lk (.dct _)) => QI (itV n) S
    | _ => False) = _
  rw [h]
theorem k_itP {n : Nat} {kvs : List (Key × D)} (h : S[n]? = some (.lk (.dct kvs))) : kItP QI (.ref n) S = QI (itP n) S := by
  show (match S[n]? with
    | some (.lk (.dct _)) => QI (itP n) S
    | _ => False) = _
  rw [h]
def keysD (kvs : List (Key × D)) : List D := kvs.map fun (kv : Key × D) => keyD kv.1
def itemsD (kvs : List (Key × D)) : List D := kvs.map fun (kv : Key × D) => D.tup [keyD kv.1, kv.2]
theorem get_itK {n : Nat} {kvs : List (Key × D)} (h : S[n]? = some (.lk (.dct kvs))) (i : Nat) : (itK n).get i S = some (keysD kvs)[i]? := by
  show (match S[n]? with
    | some (.lk (.dct kvs)) => some (kvs[i]?.map fun (kv : Key × D) => keyD kv.1)
    | _ => none) = _
  rw [h]
  unfold keysD
  rw [List.getElem?_map]
theorem get_itV {n : Nat} {kvs : List (Key × D)} (h : S[n]? = some (.lk (.dct kvs))) (i : Nat) : (itV n).get i S = some (kvs.map fun (kv : Key × D) => kv.2)[i]? := by
  show (match S[n]? with
    | some (.lk (.dct kvs)) => some (kvs[i]?.map fun (kv : Key × D) => kv.2)
    | _ => none) = _
  rw [h, List.getElem?_map]
theorem get_itP {n : Nat} {kvs : List (Key × D)} (h : S[n]? = some (.lk (.dct kvs))) (i : Nat) : (itP n).get i S = some (itemsD kvs)[i]? := by
  show (match S[n]? with
    | some (.lk (.dct kvs)) => some (kvs[i]?.map fun (kv : Key × D) => D.tup [keyD kv.1, kv.2])
    | _ => none) = _
  rw [h]
  unfold itemsD
  rw [List.getElem?_map]
/-! ### += -/
def kAug (QS : Fl × Rho → Store → Prop) (i : Nat) (g : Int → Int → Int) (a : Int) (ρ : Rho) : D → Store → Prop := fun d S1 => match d with
  | .int b => QS (.nx, ρ.set i (some (.int (g a b)))) S1
  | _ => False
def kAug0 (QS : Fl × Rho → Store → Prop) (E : Er → Store → Prop) (i : Nat) (g : Int → Int → Int) (me : ME0) (ρ : Rho) : Option (Option D) → Store → Prop := fun o S => match o with
  | some (some (.int a)) => W (me ρ S) (kAug QS i g a ρ) E
  | _ => False
theorem W_aug {i : Nat} {g : Int → Int → Int} {me : ME0} : W (sAug i g me ρ S) QS E = kAug0 QS E i g me ρ ρ[i]? S := by
  unfold sAug
  generalize ρ[i]? = o
  cases o with
  | none => rfl
  | some o =>
    cases o with
    | none => rfl
    | some d =>
      cases d with
      | int a =>
        show W ((me ρ S).bind _) QS E = W (me ρ S) (kAug QS i g a ρ) E
        rw [W_bind]
        congr 1
        funext d S1
        cases d <;> rfl
      | _ => rfl
theorem k_aug0 {i : Nat} {g : Int → Int → Int} {me : ME0} {a : Int} : kAug0 QS E i g me ρ (some (some (.int a))) S = W (me ρ S) (kAug QS i g a ρ) E := rfl
theorem k_aug {i : Nat} {g : Int → Int → Int} {a b : Int} : kAug QS i g a ρ (.int b) S = QS (.nx, ρ.set i (some (.int (g a b)))) S := rfl
/-! ### zip -/
def kZ (QI : ItD → Store → Prop) : List D → Store → Prop := fun ds S1 => match ds with
  | [x, y] => match seqOf S1 x, seqOf S1 y with
    | some _, some _ => if isTup x = isTup y then QI (itZ x y) S1 else False
    | _, _ => False
  | _ => False
theorem W_miZ {ma : MA0} : W (miZ ma ρ S) QI E = W (ma ρ S) (kZ QI) E := by
  unfold miZ
  rw [W_bind]
  congr 1
  funext ds S1
  unfold kZ
  match ds with
  | [] => rfl
  | [_] => rfl
  | [x, y] =>
    dsimp only
    cases seqOf S1 x with
    | none => rfl
    | some xs =>
      cases seqOf S1 y with
      | none => rfl
      | some ys =>
        dsimp only
        split <;> rfl
  | _ :: _ :: _ :: _ => rfl
theorem k_zT {xs ys : List D} : kZ QI [.tup xs, .tup ys] S = QI (itZ (.tup xs) (.tup ys)) S := rfl
theorem k_zL {xs ys : List D} : kZ QI [.lst xs, .lst ys] S = QI (itZ (.lst xs) (.lst ys)) S := rfl
def zipD (xs ys : List D) : List D := List.zipWith (fun p q => D.tup [p, q]) xs ys
theorem zipAt_eq {xs ys : List D} {i : Nat} : zipAt xs ys i = (zipD xs ys)[i]? := by
  unfold zipAt zipD
  rw [List.getElem?_zipWith]
  cases xs[i]? <;> cases ys[i]? <;> rfl
theorem lst_ZT (xs ys : List D) : (itZ (.tup xs) (.tup ys)).Lst (zipD xs ys) := fun i S => by
  rw [← zipAt_eq]
  rfl
theorem lst_ZL (xs ys : List D) : (itZ (.lst xs) (.lst ys)).Lst (zipD xs ys) := fun i S => by
  rw [← zipAt_eq]
  rfl
/-! ### try, raise -/
def kTry (QS : Fl × Rho → Store → Prop) (E : Er → Store → Prop) (tab : List (Str × Bool)) (i j : Nat) (ρ : Rho) : Er → Store → Prop := fun e S1 => match tab.lookup e.cls with
  | some true => QS (.nx, ((ρ.set i (some (.err e.cls e.fld e.arg))).set j (some (.err e.cls e.fld e.arg))).set i none) S1
  | some false => E e S1
  | none => False
theorem W_try {tab : List (Str × Bool)} {i j : Nat} {mb : MS0} : W (sTry tab i j mb ρ S) QS E = W (mb ρ S) QS (kTry QS E tab i j ρ) := by
  unfold sTry
  cases mb ρ S with
  | ok x S1 => rfl
  | exc e S1 =>
    show W (match tab.lookup e.cls with
      | some true => _
      | some false => _
      | none => _) QS E = kTry QS E tab i j ρ e S1
    unfold kTry
    cases tab.lookup e.cls with
    | none => rfl
    | some b => cases b <;> rfl
  | bad => rfl
theorem k_try {tab : List (Str × Bool)} {i j : Nat} {k f : Str} {ds : List D} (h : tab.lookup k = some true) : kTry QS E tab i j ρ ⟨k, f, ds⟩ S = QS (.nx, ((ρ.set i (some (.err k f ds))).set j (some (.err k f ds))).set i none) S := by
  unfold kTry
  rw [h]
def kRaise (E : Er → Store → Prop) (x f : Str) : List D → Store → Prop := fun ds S1 => match ds with
  | [d] => E ⟨x, f, [d]⟩ S1
  | _ => False
theorem W_raise {x f : Str} {mr : MA0} : W (sRaise x f mr ρ S) QS E = W (mr ρ S) (kRaise E x f) E := by
  unfold sRaise
  rw [W_bind]
  congr 1
  funext ds S1
  match ds with
  | [] => rfl
  | [_] => rfl
  | _ :: _ :: _ => rfl
theorem k_raise {x f : Str} {d : D} : kRaise E x f [d] S = E ⟨x, f, [d]⟩ S := rfl
theorem W_callC {f : List D → Store → Res D} {ma : MA0} : W (mCallC f ma ρ S) Q E = W (ma ρ S) (kCall Q E f) Er0 := by
  unfold mCallC
  rw [W_bind, W_calm_eq]
  rfl
theorem W_ifC {c : MT0} {a b : MS0} : W (sIfC c a b ρ S) QS E = W (c ρ S) (kIf QS E a b ρ) Er0 := by
  unfold sIfC
  rw [W_bind, W_calm_eq]
  congr 1
  funext x S1
  unfold kIf
  cases x <;> rfl
theorem W_ifEC {c : MT0} {a b : ME0} : W (mIfC c a b ρ S) Q E = W (c ρ S) (kIfE Q E a b ρ) Er0 := by
  unfold mIfC
  rw [W_bind, W_calm_eq]
  congr 1
  funext x S1
  unfold kIfE
  cases x <;> rfl
theorem W_isiE {c k f : Str} {ds : List D} {tab : List (Str × Bool)} {b : Bool} (h : tab.lookup k = some b) : W (fIsiE c tab (.err k f ds) S) Q E = Q (.bl b) S := by
  show W (match tab.lookup k with
    | some b => .ok (.bl b) S
    | none => .bad) Q E = _
  rw [h]
  rfl
theorem W_isiEn {c : Str} {tab : List (Str × Bool)} : W (fIsiE c tab .non S) Q E = Q (.bl false) S := rfl
theorem W_fldE {n k : Str} {cs : List Str} {y : D} (h : k ∈ cs) : W (fFldE n cs (.err k n [y]) S) Q E = Q y S := by
  show W (if k ∈ cs ∧ n = n then .ok y S else .bad) Q E = _
  rw [if_pos ⟨h, rfl⟩]
  rfl
/-! ### dicts -/
theorem lVals_dct {n : Nat} {kvs : List (Key × D)} (h : Dk S n kvs) : lVals [.ref n] S = some (kvs.map fun (kv : Key × D) => kv.2) := by
  unfold lVals
  dsimp only
  rw [show dctAt S (.ref n) = some kvs by unfold dctAt; dsimp only; rw [h.base]]
  rfl
theorem W_dict {n : Nat} {kvs : List (Key × D)} (h : Dk S n kvs) : W (fDict [.ref n] S) Q E = Q (.ref S.length) (S ++ [.dct kvs]) := by
  unfold fDict
  dsimp only
  rw [show dctAt S (.ref n) = some kvs by unfold dctAt; dsimp only; rw [h.base]]
  rfl
theorem W_clear {n : Nat} {kvs : List (Key × D)} (h : S[n]? = some (.dct kvs)) : W (fClear (.ref n) S) Q E = Q .non (S.set n (.dct [])) := by
  unfold fClear dK
  dsimp only
  rw [h]
  rfl
end
end MM

/-! == of two lists or tuples that hold the very same things. -/
namespace MM
open PySem PySem.Spec L2 PyProof.Rows
/-- seen to be equal: flat and equal, one object, or item by item -/
def Tw (K : PySem.W.Frag) (H : Hp) : Nat → V → V → Prop
  | 0 => fun _ _ => False
  | n + 1 => fun x y => (flatV x = true ∧ flatV y = true ∧ eqV x y = true) ∨ (∃ a, x = .ref a ∧ y = .ref a) ∨
    (∃ a c xs ys, x = .ref a ∧ y = .ref c ∧ SqL K H a xs ∧ SqL K H c ys ∧ xs.length = ys.length ∧ ∀ (i : Nat) p q, xs[i]? = some p → ys[i]? = some q → Tw K H n p q) ∨
    ∃ a c xs ys, x = .ref a ∧ y = .ref c ∧ SqT K H a xs ∧ SqT K H c ys ∧ xs.length = ys.length ∧ ∀ (i : Nat) p q, xs[i]? = some p → ys[i]? = some q → Tw K H n p q
section
variable {X : Cx} {pins : List (Addr × Obj)} {σ : L2.St} {H : Hp} {s : Shared}
theorem all_true {n : Nat} {e : Nat → Bool} (h : ∀ i, e i = true) : (List.range n).all e = true := List.all_eq_true.mpr fun i _ => h i
theorem at_pair {xs : List V} {its : List Value} (r : Vals xs its) (j : Nat) (h : j < its.toArray.size) : ∃ p, xs[j]? = some p ∧ RelV p its.toArray[j] := by
  have h1 : j < its.length := by simpa using h
  have h2 : j < xs.length := by rw [r.length]; exact h1
  obtain ⟨u, e1, e2⟩ := r.get (List.getElem?_eq_getElem h2)
  rw [List.getElem?_eq_getElem h1] at e1
  cases e1
  exact ⟨_, List.getElem?_eq_getElem h2, by simpa using e2⟩
theorem tw_run (I : Inv X pins σ H s) : ∀ (n : Nat) (A : Around), A.units + n < cLine → ∀ (x y : V) (u v : Value), Tw X.K H n x y → RelV x u → RelV y v → SeqAt.EqAt A s u v true
  | 0, _, _, _, _, _, _, h, _, _ => (show False from h).elim
  | n + 1, A, hu, x, y, u, v, h, rx, ry => by
    rcases h with ⟨f1, f2, e⟩ | ⟨a, rfl, rfl⟩ | ⟨a, c, xs, ys, rfl, rfl, ha, hc, hl, hp⟩ | ⟨a, c, xs, ys, rfl, rfl, ha, hc, hl, hp⟩
    · have q := eqAt_V (A := A) (s := s) rx ry f1 f2
      rwa [e] at q
    · cases (show u = Value.ref a from rx)
      cases (show v = Value.ref a from ry)
      exact SeqAt.EqAt.same _
    · cases (show u = Value.ref a from rx)
      cases (show v = Value.ref c from ry)
      by_cases hac : a = c
      · subst hac
        exact SeqAt.EqAt.same _
      · obtain ⟨us, r1, p1, _⟩ := I.list ha
        obtain ⟨vs, r2, p2, _⟩ := I.list hc
        have q := SeqAt.RcAt.lists (A := A) (e := fun _ => true) p1.isList p2.isList (by rw [List.size_toArray, List.size_toArray, ← r1.length, ← r2.length]; exact hl) (by omega) fun j h1 h2 => by
          obtain ⟨p, e1, k1⟩ := at_pair r1 j h1
          obtain ⟨q, e2, k2⟩ := at_pair r2 j h2
          exact tw_run I n A.in1 (by show A.units + 1 + n < cLine; omega) p q _ _ (hp j p q e1 e2) k1 k2
        rw [all_true fun _ => rfl] at q
        exact SeqAt.EqAt.of_refs hac q
    · cases (show u = Value.ref a from rx)
      cases (show v = Value.ref c from ry)
      by_cases hac : a = c
      · subst hac
        exact SeqAt.EqAt.same _
      · obtain ⟨us, r1, p1, _⟩ := I.tuple ha
        obtain ⟨vs, r2, p2, _⟩ := I.tuple hc
        have hsz : us.toArray.size = vs.toArray.size := by rw [List.size_toArray, List.size_toArray, ← r1.length, ← r2.length]; exact hl
        have q := SeqAt.RcAt.tuples (A := A) (e := fun _ => true) p1 p2 (by omega) fun j h1 h2 => by
          obtain ⟨p, e1, k1⟩ := at_pair r1 j h1
          obtain ⟨q, e2, k2⟩ := at_pair r2 j h2
          exact tw_run I n A.in1 (by show A.units + 1 + n < cLine; omega) p q _ _ (hp j p q e1 e2) k1 k2
        rw [all_true fun _ => rfl, hsz] at q
        simp only [beq_self_eq_true, Bool.and_self] at q
        exact SeqAt.EqAt.of_refs hac q
end
/-- two lists or two tuples, item by item -/
def TwT (K : PySem.W.Frag) (H : Hp) (n : Nat) (x y : V) : Prop :=
  (∃ a c xs ys, x = .ref a ∧ y = .ref c ∧ SqL K H a xs ∧ SqL K H c ys ∧ xs.length = ys.length ∧ ∀ (i : Nat) p q, xs[i]? = some p → ys[i]? = some q → Tw K H n p q) ∨
    ∃ a c xs ys, x = .ref a ∧ y = .ref c ∧ SqT K H a xs ∧ SqT K H c ys ∧ xs.length = ys.length ∧ ∀ (i : Nat) p q, xs[i]? = some p → ys[i]? = some q → Tw K H n p q
def rTw (K : PySem.W.Frag) (b : Bool) : R2 := fun x y H Q => TwT K H 60 x y ∧ Q (.bl b) H
section
variable {X : Cx}
theorem op_twEq (hu : X.A.units + 64 < cLine) : OpR X (compareOp .Eq) (rTw X.K true) := by
  intro pins s σ H x y v u Q I rx ry h
  obtain ⟨h, q⟩ := h
  rcases h with ⟨a, c, xs, ys, rfl, rfl, ha, hc, hl, hp⟩ | ⟨a, c, xs, ys, rfl, rfl, ha, hc, hl, hp⟩
  · cases (show v = Value.ref a from rx)
    cases (show u = Value.ref c from ry)
    obtain ⟨us, r1, p1, _⟩ := I.list ha
    obtain ⟨vs, r2, p2, _⟩ := I.list hc
    refine SeqAt.eq_listAt (e := fun _ => true) p1.isList p2.isList (by rw [List.size_toArray, List.size_toArray, ← r1.length, ← r2.length]; exact hl) (by omega) (fun j h1 h2 => ?_) ?_
    · obtain ⟨p, e1, k1⟩ := at_pair r1 j h1
      obtain ⟨q, e2, k2⟩ := at_pair r2 j h2
      exact tw_run I 60 X.A.in1 (by show X.A.units + 1 + 60 < cLine; omega) p q _ _ (hp j p q e1 e2) k1 k2
    · rw [all_true fun _ => rfl]
      exact ⟨.bl true, H, I, rfl, q⟩
  · cases (show v = Value.ref a from rx)
    cases (show u = Value.ref c from ry)
    obtain ⟨us, r1, p1, _⟩ := I.tuple ha
    obtain ⟨vs, r2, p2, _⟩ := I.tuple hc
    have hsz : us.toArray.size = vs.toArray.size := by rw [List.size_toArray, List.size_toArray, ← r1.length, ← r2.length]; exact hl
    refine SeqAt.eq_tupleAt (e := fun _ => true) p1 p2 (by omega) (fun j h1 h2 => ?_) ?_
    · obtain ⟨p, e1, k1⟩ := at_pair r1 j h1
      obtain ⟨q, e2, k2⟩ := at_pair r2 j h2
      exact tw_run I 60 X.A.in1 (by show X.A.units + 1 + 60 < cLine; omega) p q _ _ (hp j p q e1 e2) k1 k2
    · rw [all_true fun _ => rfl, hsz]
      simp only [beq_self_eq_true, Bool.and_self]
      exact ⟨.bl true, H, I, rfl, q⟩
theorem op_twNe (hu : X.A.units + 64 < cLine) : OpR X (compareOp .NotEq) (rTw X.K false) := by
  intro pins s σ H x y v u Q I rx ry h
  obtain ⟨h, q⟩ := h
  rcases h with ⟨a, c, xs, ys, rfl, rfl, ha, hc, hl, hp⟩ | ⟨a, c, xs, ys, rfl, rfl, ha, hc, hl, hp⟩
  · cases (show v = Value.ref a from rx)
    cases (show u = Value.ref c from ry)
    obtain ⟨us, r1, p1, _⟩ := I.list ha
    obtain ⟨vs, r2, p2, _⟩ := I.list hc
    have k := SeqAt.RcNeAt.lists (A := X.A) (e := fun _ => true) p1.isList p2.isList (by rw [List.size_toArray, List.size_toArray, ← r1.length, ← r2.length]; exact hl) (by omega) fun j h1 h2 => by
      obtain ⟨p, e1, k1⟩ := at_pair r1 j h1
      obtain ⟨q, e2, k2⟩ := at_pair r2 j h2
      exact tw_run I 60 X.A.in1 (by show X.A.units + 1 + 60 < cLine; omega) p q _ _ (hp j p q e1 e2) k1 k2
    rw [all_true fun _ => rfl] at k
    exact k X.prog X.w X.xe _ ⟨.bl false, H, I, rfl, q⟩
  · cases (show v = Value.ref a from rx)
    cases (show u = Value.ref c from ry)
    obtain ⟨us, r1, p1, _⟩ := I.tuple ha
    obtain ⟨vs, r2, p2, _⟩ := I.tuple hc
    have hsz : us.toArray.size = vs.toArray.size := by rw [List.size_toArray, List.size_toArray, ← r1.length, ← r2.length]; exact hl
    have k := SeqAt.RcNeAt.tuples (A := X.A) (e := fun _ => true) p1 p2 (by omega) fun j h1 h2 => by
      obtain ⟨p, e1, k1⟩ := at_pair r1 j h1
      obtain ⟨q, e2, k2⟩ := at_pair r2 j h2
      exact tw_run I 60 X.A.in1 (by show X.A.units + 1 + 60 < cLine; omega) p q _ _ (hp j p q e1 e2) k1 k2
    rw [all_true fun _ => rfl, hsz] at k
    simp only [beq_self_eq_true, Bool.and_self, Bool.not_true] at k
    exact k X.prog X.w X.xe _ ⟨.bl false, H, I, rfl, q⟩
end
/-! ### the mirror -/
def fl1 : D → Option V
  | .non => some .non
  | .bl b => some (.bl b)
  | .int i => some (.int i)
  | .str s => some (.str s)
  | _ => none
def all2 (f : D → D → Bool) : List D → List D → Bool
  | [], [] => true
  | x :: xs, y :: ys => f x y && all2 f xs ys
  | _, _ => false
/-- the items of a tuple (true), of a list (false) -/
def sq2 (S : Store) : D → Option (Bool × List D)
  | .tup ds => some (true, ds)
  | .lst ds => some (false, ds)
  | .frz ds => some (false, ds)
  | .ref n => (lstAt S n).map fun ds => (false, ds)
  | _ => none
def twSq (f : D → D → Bool) (a b : Option (Bool × List D)) : Bool := match a, b with
  | some (true, xs), some (true, ys) => all2 f xs ys
  | some (false, xs), some (false, ys) => all2 f xs ys
  | _, _ => false
def refEq : D → D → Bool
  | .ref i, .ref j => decide (i = j)
  | _, _ => false
def flEq (x y : D) : Bool := match fl1 x, fl1 y with
  | some u, some v => eqV u v
  | _, _ => false
def twD (S : Store) : Nat → D → D → Bool
  | 0 => fun _ _ => false
  | n + 1 => fun x y => flEq x y || (refEq x y || twSq (twD S n) (sq2 S x) (sq2 S y))
def fTw (neg : Bool) : D → D → Store → Res D := fun x y S => if twSq (twD S 60) (sq2 S x) (sq2 S y) = true then .ok (.bl (!neg)) S else .bad
section
variable {G : Gd} {E : XK} {R φ : List Addr} {S : Store} {H : Hp}
theorem fl1_rv {x : D} {v u : V} (h : Rv G R φ H x v) (e : fl1 x = some u) : v = u ∧ flatV u = true := by
  cases x with
  | non => cases e; exact ⟨Rv.non_of h, rfl⟩
  | bl b => cases e; exact ⟨Rv.bl_of h, rfl⟩
  | int i => cases e; exact ⟨Rv.int_of h, rfl⟩
  | str s => cases e; exact ⟨Rv.str_of h, rfl⟩
  | _ => cases e
theorem all2_get {f : D → D → Bool} : ∀ {xs ys : List D}, all2 f xs ys = true → xs.length = ys.length ∧ ∀ (i : Nat) x y, xs[i]? = some x → ys[i]? = some y → f x y = true
  | [], [], _ => ⟨rfl, fun i x y h => by simp at h⟩
  | [], _ :: _, h => by cases h
  | _ :: _, [], h => by cases h
  | x :: xs, y :: ys, h => by
    unfold all2 at h
    obtain ⟨h1, h2⟩ := Bool.and_eq_true_iff.mp h
    obtain ⟨k1, k2⟩ := all2_get h2
    refine ⟨by rw [List.length_cons, List.length_cons, k1], fun i p q e1 e2 => ?_⟩
    cases i with
    | zero =>
      simp at e1 e2
      subst e1; subst e2
      exact h1
    | succ i =>
      simp at e1 e2
      exact k2 i p q e1 e2
theorem sq2_tup {x : D} {v : V} {xs : List D} (r : Rs G R φ S H) (h : Rv G R φ H x v) (e : sq2 S x = some (true, xs)) : ∃ a vs, v = .ref a ∧ SqT G.K H a vs ∧ RvL G R φ H xs vs := by
  cases x with
  | tup ds =>
    cases e
    obtain ⟨a, vs, rfl, h1, h2⟩ := Rv.tup_of h
    exact ⟨a, vs, rfl, h1, h2⟩
  | ref n =>
    change (lstAt S n).map (fun ds => (false, ds)) = _ at e
    cases hl : lstAt S n <;> rw [hl] at e <;> cases e
  | _ => cases e
theorem sq2_lst {x : D} {v : V} {xs : List D} (r : Rs G R φ S H) (h : Rv G R φ H x v) (e : sq2 S x = some (false, xs)) : ∃ a vs, v = .ref a ∧ SqL G.K H a vs ∧ RvL G R φ H xs vs := by
  cases x with
  | lst ds =>
    cases e
    obtain ⟨a, vs, rfl, _, _, h1, h2⟩ := Rv.lst_of h
    exact ⟨a, vs, rfl, .inl (.inl h1), h2⟩
  | frz ds =>
    cases e
    obtain ⟨a, vs, rfl, h1, h2⟩ := Rv.frz_of h
    exact ⟨a, vs, rfl, h1.sq, h2⟩
  | ref n =>
    change (lstAt S n).map (fun ds => (false, ds)) = _ at e
    cases hl : lstAt S n with
    | none => rw [hl] at e; cases e
    | some ds =>
      rw [hl] at e
      cases e
      obtain ⟨a, vs, rfl, _, h1, h2⟩ := r.lst h (lstAt_of hl)
      exact ⟨a, vs, rfl, .inl (.inl h1), h2⟩
  | _ => cases e
theorem twSq_rv {f : D → D → Bool} {n : Nat} (hf : ∀ {x y : D} {v u : V}, Rv G R φ H x v → Rv G R φ H y u → f x y = true → Tw G.K H n v u) (r : Rs G R φ S H) {x y : D} {v u : V} (hx : Rv G R φ H x v) (hy : Rv G R φ H y u) (e : twSq f (sq2 S x) (sq2 S y) = true) : TwT G.K H n v u := by
  unfold twSq at e
  split at e
  · rename_i xs ys e1 e2
    obtain ⟨a, vs, rfl, h1, h2⟩ := sq2_tup r hx e1
    obtain ⟨c, us, rfl, h3, h4⟩ := sq2_tup r hy e2
    obtain ⟨k1, k2⟩ := all2_get e
    refine .inr ⟨a, c, vs, us, rfl, rfl, h1, h3, by rw [← RvL.length h2, ← RvL.length h4, k1], fun i p q e1 e2 => ?_⟩
    obtain ⟨d1, q1, q2⟩ := RvL.getV h2 e1
    obtain ⟨d2, q3, q4⟩ := RvL.getV h4 e2
    exact hf q2 q4 (k2 i d1 d2 q1 q3)
  · rename_i xs ys e1 e2
    obtain ⟨a, vs, rfl, h1, h2⟩ := sq2_lst r hx e1
    obtain ⟨c, us, rfl, h3, h4⟩ := sq2_lst r hy e2
    obtain ⟨k1, k2⟩ := all2_get e
    refine .inl ⟨a, c, vs, us, rfl, rfl, h1, h3, by rw [← RvL.length h2, ← RvL.length h4, k1], fun i p q e1 e2 => ?_⟩
    obtain ⟨d1, q1, q2⟩ := RvL.getV h2 e1
    obtain ⟨d2, q3, q4⟩ := RvL.getV h4 e2
    exact hf q2 q4 (k2 i d1 d2 q1 q3)
  · cases e
theorem twD_rv (r : Rs G R φ S H) : ∀ (n : Nat) {x y : D} {v u : V}, Rv G R φ H x v → Rv G R φ H y u → twD S n x y = true → Tw G.K H n v u
  | 0, x, y, v, u, hx, hy, e => by cases e
  | n + 1, x, y, v, u, hx, hy, e => by
    unfold twD at e
    rcases Bool.or_eq_true_iff.mp e with e | e
    · unfold flEq at e
      split at e
      · rename_i p q e1 e2
        obtain ⟨rfl, f1⟩ := fl1_rv hx e1
        obtain ⟨rfl, f2⟩ := fl1_rv hy e2
        exact .inl ⟨f1, f2, e⟩
      · cases e
    · rcases Bool.or_eq_true_iff.mp e with e | e
      · unfold refEq at e
        split at e
        · rename_i i j
          have hij := of_decide_eq_true e
          subst hij
          unfold Rv at hx hy
          obtain ⟨a, rfl, e1⟩ := hx
          obtain ⟨c, rfl, e2⟩ := hy
          rw [e1] at e2
          cases e2
          exact .inr (.inl ⟨a, rfl, rfl⟩)
        · cases e
      · exact .inr (.inr (twSq_rv (twD_rv r n) r hx hy e))
theorem o_tw {neg : Bool} : Op2 G E (rTw G.K (!neg)) (fTw neg) := by
  intro R φ S H d e x y rs rd re
  unfold fTw
  split
  · rename_i h
    exact Run.ret rs Rv.bl fun Q q => ⟨twSq_rv (twD_rv rs 60) rs rd re h, q⟩
  · exact Run.bad
end
/-! ### what it comes to -/
theorem all2_map {α : Type} {f : D → D → Bool} {g h : α → D} {xs : List α} (k : ∀ x ∈ xs, f (g x) (h x) = true) : all2 f (xs.map g) (xs.map h) = true := by
  induction xs with
  | nil => rfl
  | cons x xs ih =>
    rw [List.map_cons, List.map_cons]
    show (f (g x) (h x) && all2 f (xs.map g) (xs.map h)) = true
    rw [k x List.mem_cons_self, ih fun y hy => k y (List.mem_cons_of_mem _ hy)]
    rfl
theorem all2_refl {f : D → D → Bool} {xs : List D} (k : ∀ x ∈ xs, f x x = true) : all2 f xs xs = true := by
  induction xs with
  | nil => rfl
  | cons x xs ih =>
    show (f x x && all2 f xs xs) = true
    rw [k x List.mem_cons_self, ih fun y hy => k y (List.mem_cons_of_mem _ hy)]
    rfl
mutual
/-- no error in it, at most so deep -/
def calmD : Nat → D → Bool
  | _, .non => true
  | _, .bl _ => true
  | _, .int _ => true
  | _, .str _ => true
  | _, .ref _ => true
  | n + 1, .tup ds => calmL n ds
  | n + 1, .lst ds => calmL n ds
  | n + 1, .frz ds => calmL n ds
  | _, _ => false
def calmL : Nat → List D → Bool
  | _, [] => true
  | n, d :: ds => calmD n d && calmL n ds
end
theorem calmL_mem {n : Nat} : ∀ {ds : List D} {d : D}, calmL n ds = true → d ∈ ds → calmD n d = true
  | [], d, _, h => (List.not_mem_nil h).elim
  | x :: ds, d, e, h => by
    unfold calmL at e
    obtain ⟨e1, e2⟩ := Bool.and_eq_true_iff.mp e
    rcases List.mem_cons.mp h with rfl | h
    · exact e1
    · exact calmL_mem e2 h
theorem calmL_of {n : Nat} : ∀ {ds : List D}, (∀ d ∈ ds, calmD n d = true) → calmL n ds = true
  | [], _ => by unfold calmL; rfl
  | x :: ds, h => by
    unfold calmL
    rw [h x List.mem_cons_self, calmL_of fun d hd => h d (List.mem_cons_of_mem _ hd)]
    rfl
theorem eqV_refl (v : V) (h : flatV v = true) : eqV v v = true := by
  cases v <;> first | exact beq_self_eq_true _ | rfl | (cases h)
theorem twD_refl (S : Store) : ∀ (n : Nat) (x : D), calmD n x = true → twD S (n + 1) x x = true
  | n, .non, _ => rfl
  | n, .bl b, _ => by unfold twD; show ((b == b) || _) = true; rw [beq_self_eq_true]; rfl
  | n, .int b, _ => by unfold twD; show ((b == b) || _) = true; rw [beq_self_eq_true]; rfl
  | n, .str b, _ => by unfold twD; show ((b == b) || _) = true; rw [beq_self_eq_true]; rfl
  | n, .ref i, _ => by
    unfold twD
    show (false || (decide (i = i) || _)) = true
    rw [decide_eq_true rfl]
    rfl
  | n + 1, .tup ds, h => by
    unfold calmD at h
    unfold twD
    show (false || (false || all2 (twD S (n + 1)) ds ds)) = true
    rw [all2_refl fun x hx => twD_refl S n x (calmL_mem h hx)]
    rfl
  | n + 1, .lst ds, h => by
    unfold calmD at h
    unfold twD
    show (false || (false || all2 (twD S (n + 1)) ds ds)) = true
    rw [all2_refl fun x hx => twD_refl S n x (calmL_mem h hx)]
    rfl
  | n + 1, .frz ds, h => by
    unfold calmD at h
    unfold twD
    show (false || (false || all2 (twD S (n + 1)) ds ds)) = true
    rw [all2_refl fun x hx => twD_refl S n x (calmL_mem h hx)]
    rfl
  | 0, .tup ds, h => by unfold calmD at h; cases h
  | 0, .lst ds, h => by unfold calmD at h; cases h
  | 0, .frz ds, h => by unfold calmD at h; cases h
  | n, .err _ _ _, h => by unfold calmD at h; cases h
end MM

/-! == () and == [] of tuples and lists of anything. -/
namespace MM
open PySem PySem.Spec L2 PyProof.Rows
def rEm (K : PySem.W.Frag) (neg : Bool) : R2 := fun x y H Q => ∃ a c xs, x = .ref a ∧ y = .ref c ∧ ((SqT K H a xs ∧ SqT K H c []) ∨ (SqL K H a xs ∧ SqL K H c [])) ∧ Q (.bl (if neg then !xs.isEmpty else xs.isEmpty)) H
section
variable {X : Cx}
theorem size_of_vals {xs : List V} {its : List Value} (r : Vals xs its) : its.toArray.size = xs.length := by rw [List.size_toArray, ← r.length]
theorem empty_size {xs : List V} {n : Nat} (h : n = xs.length) : (n == 0) = xs.isEmpty := by
  subst h
  cases xs <;> rfl
theorem op_emEq (hu : X.A.units + 64 < cLine) : OpR X (compareOp .Eq) (rEm X.K false) := by
  intro pins s σ H x y v u Q I rx ry h
  obtain ⟨a, c, xs, rfl, rfl, h, q⟩ := h
  cases (show v = Value.ref a from rx)
  cases (show u = Value.ref c from ry)
  rcases h with ⟨ha, hc⟩ | ⟨ha, hc⟩
  · obtain ⟨us, r1, p1, _⟩ := I.tuple ha
    obtain ⟨vs, r2, p2, _⟩ := I.tuple hc
    have s1 := size_of_vals r1
    have s2 : vs.toArray.size = 0 := size_of_vals r2
    refine SeqAt.eq_tupleAt (e := fun _ => true) p1 p2 (by omega) (fun j h1 h2 => absurd h2 (by omega)) ?_
    rw [s2, Nat.min_zero, empty_size s1]
    exact ⟨.bl xs.isEmpty, H, I, rfl, q⟩
  · obtain ⟨us, r1, p1, _⟩ := I.list ha
    obtain ⟨vs, r2, p2, _⟩ := I.list hc
    have s1 := size_of_vals r1
    have s2 : vs.toArray.size = 0 := size_of_vals r2
    cases xs with
    | nil =>
      refine SeqAt.eq_listAt (e := fun _ => true) p1.isList p2.isList (by rw [s1, s2]; rfl) (by omega) (fun j h1 h2 => absurd h2 (by omega)) ?_
      rw [all_true fun _ => rfl]
      exact ⟨.bl true, H, I, rfl, q⟩
    | cons z zs =>
      refine SeqAt.eq_list_lengthsAt p1.isList p2.isList (by rw [s1, s2]; rfl) (by omega) ?_
      exact ⟨.bl false, H, I, rfl, q⟩
theorem op_emNe (hu : X.A.units + 64 < cLine) : OpR X (compareOp .NotEq) (rEm X.K true) := by
  intro pins s σ H x y v u Q I rx ry h
  obtain ⟨a, c, xs, rfl, rfl, h, q⟩ := h
  cases (show v = Value.ref a from rx)
  cases (show u = Value.ref c from ry)
  rcases h with ⟨ha, hc⟩ | ⟨ha, hc⟩
  · obtain ⟨us, r1, p1, _⟩ := I.tuple ha
    obtain ⟨vs, r2, p2, _⟩ := I.tuple hc
    have s1 := size_of_vals r1
    have s2 : vs.toArray.size = 0 := size_of_vals r2
    have k := SeqAt.RcNeAt.tuples (A := X.A) (e := fun _ => true) p1 p2 (by omega) (fun j h1 h2 => absurd h2 (by omega))
    rw [s2, Nat.min_zero, empty_size s1] at k
    exact k X.prog X.w X.xe _ ⟨.bl (!xs.isEmpty), H, I, rfl, q⟩
  · obtain ⟨us, r1, p1, _⟩ := I.list ha
    obtain ⟨vs, r2, p2, _⟩ := I.list hc
    have s1 := size_of_vals r1
    have s2 : vs.toArray.size = 0 := size_of_vals r2
    cases xs with
    | nil =>
      have k := SeqAt.RcNeAt.lists (A := X.A) (e := fun _ => true) p1.isList p2.isList (by rw [s1, s2]; rfl) (by omega) (fun j h1 h2 => absurd h2 (by omega))
      rw [all_true fun _ => rfl] at k
      exact k X.prog X.w X.xe _ ⟨.bl false, H, I, rfl, q⟩
    | cons z zs =>
      have k := SeqAt.RcNeAt.lists_lengths (A := X.A) p1.isList p2.isList (by rw [s1, s2]; rfl) (by omega)
      exact k X.prog X.w X.xe _ ⟨.bl true, H, I, rfl, q⟩
end
def fEm (neg : Bool) : D → D → Store → Res D := fun x y S => match sq2 S x, sq2 S y with
  | some (true, xs), some (true, []) => .ok (.bl (if neg then !xs.isEmpty else xs.isEmpty)) S
  | some (false, xs), some (false, []) => .ok (.bl (if neg then !xs.isEmpty else xs.isEmpty)) S
  | _, _ => .bad
section
variable {G : Gd} {E : XK}
theorem rvl_empty {R φ : List Addr} {H : Hp} {xs : List D} {vs : List V} (h : RvL G R φ H xs vs) : vs.isEmpty = xs.isEmpty := by
  have l := RvL.length h
  cases xs <;> cases vs <;> first | rfl | (simp at l)
theorem rvl_nil {R φ : List Addr} {H : Hp} {vs : List V} (h : RvL G R φ H [] vs) : vs = [] := by
  have l := RvL.length h
  cases vs with
  | nil => rfl
  | cons _ _ => simp at l
theorem o_em {neg : Bool} : Op2 G E (rEm G.K neg) (fEm neg) := by
  intro R φ S H d e x y rs rd re
  unfold fEm
  split
  · rename_i xs e1 e2
    obtain ⟨a, vs, rfl, h1, h2⟩ := sq2_tup rs rd e1
    obtain ⟨c, us, rfl, h3, h4⟩ := sq2_tup rs re e2
    cases rvl_nil h4
    exact Run.ret rs Rv.bl fun Q q => ⟨a, c, vs, rfl, rfl, .inl ⟨h1, h3⟩, by rw [rvl_empty h2]; exact q⟩
  · rename_i xs e1 e2
    obtain ⟨a, vs, rfl, h1, h2⟩ := sq2_lst rs rd e1
    obtain ⟨c, us, rfl, h3, h4⟩ := sq2_lst rs re e2
    cases rvl_nil h4
    exact Run.ret rs Rv.bl fun Q q => ⟨a, c, vs, rfl, rfl, .inr ⟨h1, h3⟩, by rw [rvl_empty h2]; exact q⟩
  · exact Run.bad
end
end MM

/-! xs.index(y) of flat things, xs.count(b) of bools. -/
namespace MM
open PySem PySem.Spec L2 PyProof.Rows
/-- how many bools k are in a list of bools -/
def rCountB (K : PySem.W.Frag) : V → List V → Hp → VK → Prop := fun x xs H Q => ∃ (a : Addr) (bs : List Bool) (k : Bool), x = V.ref a ∧ xs = [.bl k] ∧ SqL K H a (bs.map V.bl) ∧ Q (.int (bs.countP (· == k) : Nat)) H
theorem bools_are : ∀ {bs : List Bool} {its : List Value}, Vals (bs.map V.bl) its → its = bs.map Value.bool
  | [], its, h => by cases h; rfl
  | b :: bs, its, h => by
    rw [List.map_cons] at h
    cases h with
    | cons h1 h2 =>
      cases h1
      rw [bools_are h2]
      rfl
theorem countP_bools (k : Bool) : ∀ bs : List Bool, (bs.map Value.bool).countP (isBoolOf k) = bs.countP (· == k)
  | [] => rfl
  | b :: bs => by
    rw [List.map_cons, List.countP_cons, List.countP_cons, countP_bools k bs]
    rfl
theorem mt_countB {X : Cx} : MtR X "list.count" (rCountB X.K) := by
  intro pins s σ H x xs v us Q I rx rxs h
  obtain ⟨a, bs, k, rfl, rfl, hs, q⟩ := h
  cases rx
  cases rxs with
  | cons ry rt =>
    cases rt
    cases ry
    obtain ⟨its, rv, ⟨⟨cls, dd, data, sl⟩, n, ho, hc, hdn, hd⟩, _⟩ := I.list hs
    simp only at hc hd
    subst hc hd
    have e := bools_are rv
    subst e
    refine call_meets PySem.F.slot_list_count ⟨_, ho, rfl⟩ PySem.F.entry_list_count (PySem.F.args_list_count_2 _ _) (SeqAt.list_countAt a (bs.map Value.bool).toArray n dd sl (.bool k) (isBoolOf k)) ⟨ho, fun y hy => ?_, ?_⟩
    · obtain ⟨b, _, rfl⟩ := List.mem_map.mp (show y ∈ bs.map Value.bool by simpa using hy)
      exact SeqAt.EqAt.bool_bool b k
    · rw [show (bs.map Value.bool).toArray.toList = bs.map Value.bool from rfl, countP_bools]
      exact ⟨.int _, H, I.tok _, ⟨_, rfl⟩, q⟩
/-! ### the mirrors -/
/-- a method of a list that only reads, of one argument -/
def mMetL (f : D → D → Store → Res D) (mo me : ME0) : ME0 := fun ρ S => (mo ρ S).bind fun o S1 => match sq2 S1 o with
  | some (false, _) => (me ρ S1).bind fun d S2 => f o d S2
  | _ => .bad
section
variable {T : List Addr} {X : Cx} {E : XK} {e o : Expr} {me mo : ME0} {pos apos cpos : Pos} {nm : Str} {id : String} {r : V → List V → Hp → VK → Prop} {f : D → D → Store → Res D}
theorem me_metL (slot : Slot "list" nm id) (hty : typeOf (.builtin id) = pure (.type "method_descriptor")) (hm : MtR X id r)
    (hf : ∀ {φ : List Addr} {R : List Addr} {S : Store} {H : Hp} {d k : D} {x y : V}, Rs (X.gd T) R φ S H → Rv (X.gd T) R φ H d x → Rv (X.gd T) R φ H k y → Run (X.gd T) E R φ H (RelV' (X.gd T) R) (f d k S) (fun Q => r x [y] H Q))
    (ho : ME T X E o mo) (he : ME T X E e me) (hbase : attributeBase o nm X.env (eval o X.env) = eval o X.env := by rfl)
    (hfew : ((backTo cpos (starEach [e] X.env)).all (fun x => !x.1) && (backToKw cpos (keywordEach [] X.env)).all (fun x => x.1.isSome)
      && decide ([e].length + ([] : List Keyword).length + (if ([] : List Keyword).isEmpty then 0 else 1) < 30)) = true := by rfl)
    (hline : (apos.endLine == cpos.line) = true := by rfl) (hs : starEach [e] X.env = (false, eval e X.env) :: starEach [] X.env := by rfl) (hplain : (backTo cpos (starEach [] X.env)).any (·.1) = false := by rfl) :
    ME T X E (.Call (.Attribute o nm apos) [e] [] cpos) (mMetL f mo me) := by
  obtain ⟨to, po, so⟩ := ho
  obtain ⟨te, pe, se⟩ := he
  refine ⟨_, pe_bm PySem.F.plainAttrs_list slot hty hm po (pa_cons pe pa_nil hs) hbase hfew hline hs hplain, fun σ H ρ φ R S rs rn => ?_⟩
  refine Run.bnd (c' := fun (x : V) H1 (Q : VK) => tyV X.K "list" x H1 ∧ te σ H1 fun y H2 => r x [y] H2 Q) (so σ H ρ φ R S rs rn) (fun d S1 φ1 x H1 _ l1 rs1 r1 => ?_) fun Q q => q
  split
  · rename_i ds0 h0
    obtain ⟨a, vs0, rfl, h1, h2⟩ := sq2_lst rs1 r1 h0
    exact Run.bnd (c' := fun (y : V) H2 (Q : VK) => r (.ref a) [y] H2 Q) (se σ H1 ρ φ1 R S1 rs1 (rn.le l1)) (fun d2 S2 φ2 y H2 _ l2 rs2 r2 => hf rs2 (Rv.le l2 r1) r2) fun Q q => ⟨.inl ⟨rfl, vs0, h1⟩, q⟩
  · exact Run.bad
end
/-- the first place of what is equal -/
def fstAt (y : D) : List D → Nat → Option Nat
  | [], _ => none
  | x :: xs, i => if flEq x y = true then some i else fstAt y xs (i + 1)
def fIndex : D → D → Store → Res D := fun o y S => match sq2 S o with
  | some (false, xs) => if (fl1 y).isSome = true ∧ xs.all (fun x => (fl1 x).isSome) = true then (match fstAt y xs 0 with
    | some i => .ok (.int i) S
    | none => .bad) else .bad
  | _ => .bad
def fCountB : D → D → Store → Res D := fun o y S => match sq2 S o, y with
  | some (false, xs), .bl k => match blsOf xs with
    | some bs => .ok (.int (bs.countP (· == k) : Nat)) S
    | none => .bad
  | _, _ => .bad
theorem fstAt_spec {y : D} : ∀ {xs : List D} {i j : Nat}, fstAt y xs i = some j → ∃ k, j = i + k ∧ (∃ x, xs[k]? = some x ∧ flEq x y = true) ∧ ∀ m x, m < k → xs[m]? = some x → flEq x y = false
  | [], i, j, h => by cases h
  | x :: xs, i, j, h => by
    unfold fstAt at h
    split at h
    · rename_i hx
      cases h
      exact ⟨0, rfl, ⟨x, rfl, hx⟩, fun m _ hm => absurd hm (Nat.not_lt_zero m)⟩
    · rename_i hx
      obtain ⟨k, e, ⟨z, e1, e2⟩, e3⟩ := fstAt_spec h
      refine ⟨k + 1, by omega, ⟨z, by simpa using e1, e2⟩, fun m w hm hw => ?_⟩
      cases m with
      | zero =>
        simp at hw
        subst hw
        exact Bool.eq_false_iff.mpr hx
      | succ m => exact e3 m w (by omega) (by simpa using hw)
section
variable {T : List Addr} {X : Cx} {E : XK} {e o : Expr} {me mo : ME0} {pos apos cpos : Pos}
theorem fl1_some {x : D} (h : (fl1 x).isSome = true) : ∃ v, fl1 x = some v := Option.isSome_iff_exists.mp h
theorem me_index (ho : ME T X E o mo) (he : ME T X E e me) (hbase : attributeBase o "index" X.env (eval o X.env) = eval o X.env := by rfl)
    (hfew : ((backTo cpos (starEach [e] X.env)).all (fun x => !x.1) && (backToKw cpos (keywordEach [] X.env)).all (fun x => x.1.isSome)
      && decide ([e].length + ([] : List Keyword).length + (if ([] : List Keyword).isEmpty then 0 else 1) < 30)) = true := by rfl)
    (hline : (apos.endLine == cpos.line) = true := by rfl) (hs : starEach [e] X.env = (false, eval e X.env) :: starEach [] X.env := by rfl) (hplain : (backTo cpos (starEach [] X.env)).any (·.1) = false := by rfl) :
    ME T X E (.Call (.Attribute o "index" apos) [e] [] cpos) (mMetL fIndex mo me) := by
  refine me_metL PySem.F.slot_list_index PySem.F.type_list_index mt_index (fun {φ R S H d k x y} rs rd rk => ?_) ho he hbase hfew hline hs hplain
  unfold fIndex
  split
  · rename_i xs h0
    split
    · rename_i hfl
      obtain ⟨hy, hxs⟩ := hfl
      split
      · rename_i i hi
        obtain ⟨a, vs, rfl, h1, h2⟩ := sq2_lst rs rd h0
        obtain ⟨u, hu⟩ := fl1_some hy
        obtain ⟨rfl, fy⟩ := fl1_rv rk hu
        have hat : ∀ (j : Nat) (z : V), vs[j]? = some z → ∃ p, xs[j]? = some p ∧ fl1 p = some z ∧ flatV z = true := fun j z e => by
          obtain ⟨p, e1, e2⟩ := RvL.getV h2 e
          obtain ⟨w, hw⟩ := fl1_some (List.all_eq_true.mp hxs p (List.mem_of_getElem? e1))
          obtain ⟨rfl, fw⟩ := fl1_rv e2 hw
          exact ⟨p, e1, hw, fw⟩
        have feq : ∀ {p : D} {z : V}, fl1 p = some z → flEq p k = eqV z y := fun {p z} e => by
          unfold flEq
          rw [e, hu]
        obtain ⟨j, e, ⟨p, e1, e2⟩, e3⟩ := fstAt_spec hi
        obtain ⟨z, hz, rz⟩ := RvL.get h2 e1
        obtain ⟨p', e1', hp, fz⟩ := hat j z hz
        rw [e1] at e1'
        cases e1'
        rw [feq hp] at e2
        have ei : i = j := by omega
        subst ei
        exact Run.ret rs Rv.int fun Q q => ⟨a, vs, y, i, z, rfl, rfl, h1, fy, List.all_eq_true.mpr fun w hw => by
          obtain ⟨m, hm⟩ := List.mem_iff_getElem?.mp hw
          obtain ⟨_, _, _, f⟩ := hat m w hm
          exact f, hz, e2, fun m z' hm hz' => by
          obtain ⟨p2, k1, k2, _⟩ := hat m z' hz'
          rw [← feq k2]
          exact e3 m p2 hm k1, q⟩
      · exact Run.bad
    · exact Run.bad
  · exact Run.bad
theorem me_countB (ho : ME T X E o mo) (he : ME T X E e me) (hbase : attributeBase o "count" X.env (eval o X.env) = eval o X.env := by rfl)
    (hfew : ((backTo cpos (starEach [e] X.env)).all (fun x => !x.1) && (backToKw cpos (keywordEach [] X.env)).all (fun x => x.1.isSome)
      && decide ([e].length + ([] : List Keyword).length + (if ([] : List Keyword).isEmpty then 0 else 1) < 30)) = true := by rfl)
    (hline : (apos.endLine == cpos.line) = true := by rfl) (hs : starEach [e] X.env = (false, eval e X.env) :: starEach [] X.env := by rfl) (hplain : (backTo cpos (starEach [] X.env)).any (·.1) = false := by rfl) :
    ME T X E (.Call (.Attribute o "count" apos) [e] [] cpos) (mMetL fCountB mo me) := by
  refine me_metL PySem.F.slot_list_count PySem.F.type_list_count mt_countB (fun {φ R S H d k x y} rs rd rk => ?_) ho he hbase hfew hline hs hplain
  unfold fCountB
  split
  · rename_i xs k h0 
    split
    · rename_i bs hb
      obtain ⟨a, vs, rfl, h1, h2⟩ := sq2_lst rs rd h0
      have e1 := Rv.bl_of rk
      subst e1
      have e2 := blsOf_vals h2 hb
      subst e2
      exact Run.ret rs Rv.int fun Q q => ⟨a, bs, k, rfl, rfl, h1, q⟩
    · exact Run.bad
  · exact Run.bad
end
end MM

/-! Errors that are made as values: C(), C(e), C(f = e); of own classes with such an __init__, and of ones without. -/
namespace MM
open PySem PySem.Spec PyProof.Rows L2
/-! ### C called with keywords, C an own class of errors -/
namespace EV
open PySem.Calls PySem.HandSPX
section
variable {M : Model} {A : Around} {Ex : Value → Shared → Prop} {hp : Heap} {gs : Array GenState} {dr : Drawn} {tk : Nat} {os : OsState}
variable {nm qn : Str} {c ns : Addr} {bs bm bb : List Value} {hd : Bool} {sn : List Str} {sub : List Value} {ab : Bool} {col : Option Bool} {dd : Option Addr} {m0 m1 m2 m3 m5 : Option Value} {b nid iid : String}
theorem chk_new (fa : ExcBaseFacts b nid iid bb) (eqm : ∀ t : String, bm.contains (.type t) = bb.contains (.type t)) {us : List Value} {kws : List (Str × Value)} {Q : Unit → Shared → Prop}
    (hk : hp.get? c = some (excClassObj nm qn c ns bs bm hd sn sub ab col dd m0 m1 m2 m3 m5 nid)) (hq : Q () ⟨hp, gs, dr, tk, os⟩) : wpAny M A (checkBuiltinCall nid ⟨.ref c :: us, kws⟩) Q Ex ⟨hp, gs, dr, tk, os⟩ := by
  have inb : (Value.ref c :: bm).contains (.type b) = true := by rw [List.contains_cons, eqm, fa.hasB, Bool.or_true]
  have nostar := fa.noStar
  simp only [checkBuiltinCall, fa.newKind, fa.newSplit, fa.newRow]
  repeat (first | refine wpAny_loadPart_at hk ?_ | (refine wpAny_isSubtype_exc hk ?_; rw [inb]) | refine wpAny_staticBase_exc hk ?_ | refine wpAny_madeBy_exc hk ?_ | simp only [bne_self_eq_false, Bool.false_eq_true, if_false] | wp_step)
  exact hq
end
section
variable {prog : Program} {w : World} {A : Around} {Ex : Value → Shared → Prop} {R : Result → Shared → Prop} {hp : Heap} {gs : Array GenState} {dr : Drawn} {tk : Nat} {os : OsState}
variable {nm qn : Str} {c ns : Addr} {bs bm bb : List Value} {hd : Bool} {sn : List Str} {sub : List Value} {ab : Bool} {col : Option Bool} {dd : Option Addr} {m0 m1 m2 m3 m5 : Option Value} {b nid iid : String}
theorem new_kw (fa : ExcBaseFacts b nid iid bb) (eqm : ∀ t : String, bm.contains (.type t) = bb.contains (.type t)) {us : List Value} {kws : List (Str × Value)}
    (hk : hp.get? c = some (excClassObj nm qn c ns bs bm hd sn sub ab col dd m0 m1 m2 m3 m5 nid)) (hus : us.length ≤ sizeLine)
    (hq : R (.ok (.ret (.ref (hp.objs.size + 1)))) ⟨(hp.push (PySem.W.kdv_tup us)).push (excO c hp.objs.size), gs, dr, tk, os⟩) :
    codeAny (model prog w) A (.builtin nid ⟨.ref c :: us, kws⟩) R ⟨hp, gs, dr, tk, os⟩ := by
  have tail := fa.ends
  have inb : (Value.ref c :: bm).contains (.type b) = true := by rw [List.contains_cons, eqm, fa.hasB, Bool.or_true]
  have noA : (Value.ref c :: bm).contains (.type "AttributeError") = false := by rw [List.contains_cons, eqm, fa.noAttr]; rfl
  have noN : (Value.ref c :: bm).contains (.type "NameError") = false := by rw [List.contains_cons, eqm, fa.noName]; rfl
  refine codeAny_builtinAt fa.entry ?_
  unfold Builtin.«BaseException.__new__»
  refine PySem.wpAt_bind ?_
  show PySem.wpAt _ _ _ (stack >>= _) _ _ _
  refine PySem.wpAt_bind (PySem.wpAt_stack fun p q => PySem.wpAt_of_wpAny ?_)
  wp_walk
  refine PySem.wpAt_of_wpAny ?_
  rw [fa.owner]
  repeat (first | with_reducible refine wpAny_madeHere_exc fa.canon hk ?_ | with_reducible refine wpAny_loadPart_at hk ?_ | (with_reducible refine wpAny_isSubtype_exc hk ?_; first | rw [inb] | rw [noA] | rw [noN]) | wp_step)
  show R _ _
  rw [Heap.size_push]
  exact hq
theorem tcall_kw (fa : ExcBaseFacts b nid iid bb) (eqm : ∀ t : String, bm.contains (.type t) = bb.contains (.type t)) {us : List Value} {kws : List (Str × Value)} {fi : Addr} {Q : Fin → Shared → Prop}
    (hk : hp.get? c = some (excClassObj nm qn c ns bs bm hd sn sub ab col dd m0 m1 m2 m3 m5 nid)) (hus : us.length ≤ sizeLine)
    (li : PySem.W.Looks (model prog w) hp (typeLookup (.ref c) "__init__") (some (.ref fi))) (lb : ∀ self, PySem.W.Looks (model prog w) hp (bindSpecial (.ref fi) self) (.ref fi, [self]))
    (hq : codeAny (model prog w) A (.call (.ref fi) ⟨.ref (hp.objs.size + 1) :: us, kws⟩)
      (fun r s' => match r with | .ok (.ret v) => v = .none ∧ Q (.done (.ret (.ref (hp.objs.size + 1)))) s' | .ok _ => False | .error e => Ex e s')
      ⟨(hp.push (PySem.W.kdv_tup us)).push (excO c hp.objs.size), gs, dr, tk, os⟩) :
    wpAny (model prog w) A (Builtin.«type.__call__» ⟨.ref c :: us, kws⟩) Q Ex ⟨hp, gs, dr, tk, os⟩ := by
  repeat (first | with_reducible refine wpAny_loadPart_at hk ?_ | with_reducible refine wpAny_madeBy_exc hk ?_ | wp_step)
  refine codeAny_call_builtin_code (Code.quiet_builtin _ fa.quiet) (chk_new fa eqm hk ?_)
  refine new_kw fa eqm hk hus ?_
  show wpAny _ _ _ _ _ _
  have kept : ∀ a o, hp.get? a = some o → ((hp.push (PySem.W.kdv_tup us)).push (excO c hp.objs.size)).get? a = some o := fun a o e => Heap.get?_push_of_some _ (Heap.get?_push_of_some _ e)
  have hk1 := kept _ _ hk
  have got : ((hp.push (PySem.W.kdv_tup us)).push (excO c hp.objs.size)).get? (hp.objs.size + 1) = some (excO c hp.objs.size) := by heap_get
  have self_in : (Value.ref c :: bm).contains (.ref c) = true := by simp
  have li1 := li.keeps kept
  have lb1 := (lb (.ref (hp.objs.size + 1))).keeps kept
  unfold isInstance
  repeat (first | with_reducible refine wpAny_loadPart_at got ?_ | (with_reducible refine wpAny_isSubtype_exc hk1 ?_; rw [self_in]) | wp_step)
  show wpAny _ _ (typeLookup (.ref c) _) _ _ _
  refine li1.at ?_
  refine wpAny_holding (wpAny_bind (lb1.at ?_))
  refine wpAny_bind (wpAny_call (codeAny_mono hq fun r s' z => ?_))
  rcases r with e | (v | _ | _ | _) <;> first | exact z | exact z.elim | skip
  obtain ⟨rfl, z⟩ := z
  first
    | exact wpAny_pure (wpAny_pure z)
    | (wp_walk; exact z)
theorem call_kw (fa : ExcBaseFacts b nid iid bb) (eqm : ∀ t : String, bm.contains (.type t) = bb.contains (.type t)) {us : List Value} {kws : List (Str × Value)} {fi : Addr}
    (hk : hp.get? c = some (excClassObj nm qn c ns bs bm hd sn sub ab col dd m0 m1 m2 m3 m5 nid)) (hus : us.length ≤ sizeLine)
    (li : PySem.W.Looks (model prog w) hp (typeLookup (.ref c) "__init__") (some (.ref fi))) (lb : ∀ self, PySem.W.Looks (model prog w) hp (bindSpecial (.ref fi) self) (.ref fi, [self]))
    (hq : codeAny (model prog w) (A.under (.builtin "type.__call__" ⟨.ref c :: us, kws⟩)) (.call (.ref fi) ⟨.ref (hp.objs.size + 1) :: us, kws⟩) (PySem.W.InitBack (hp.objs.size + 1) R)
      ⟨(hp.push (PySem.W.kdv_tup us)).push (excO c hp.objs.size), gs, dr, tk, os⟩) :
    codeAny (model prog w) A (.call (.ref c) ⟨us, kws⟩) R ⟨hp, gs, dr, tk, os⟩ := by
  have t1 := tc_lookup
  have t2 := tc_bind (.ref c)
  have ty : (⟨hp, gs, dr, tk, os⟩ : Shared).TypeIs (.ref c) "type" := ⟨_, hk, rfl⟩
  refine codeAny_of_tree ?_
  show wpAny _ _ (callAny (.ref c) _) _ _ _
  repeat (any_goals (first | assumption | with_reducible refine wpAny_loadPart_at hk ?_ | wp_step))
  refine ⟨rfl, ?_⟩
  refine codeAny_call_builtin_at (Code.quiet_builtin _ (by decide +kernel)) entry_typeCall (wpAny_check_type_call_sub hk (tcall_kw fa eqm hk hus li lb ?_))
  refine codeAny_mono hq fun r s' z => ?_
  rcases r with e | (v | _ | _ | _) <;> exact z
end
end EV
/-! ### what was made becomes a kept error -/
section
variable {X : Cx} {pins : List (Addr × Obj)} {σ : L2.St} {H : Hp} {s : Shared}
/-- a tracked thing, told otherwise -/
theorem inv_retag {a : Addr} {u u' : HO} (I : Inv X pins σ H s) (e : H a = some u) (ok : ObjOk X.prog X.w (upd H a u') s.heap a u') (n1 : ∀ xs, u ≠ .tup xs) (n2 : ∀ o v, u ≠ .frz o v) (n3 : ∀ ps, u ≠ .tbl ps) (n4 : ∀ x, u ≠ .own x) : Inv X pins σ (upd H a u') s := by
  have go : ∀ {b : Addr} {v : HO}, H b = some v → v ≠ u → upd H a u' b = some v := fun {b v} h n => by
    rw [upd_ne (fun z => by rw [z, e] at h; exact n (Option.some.inj h).symm)]
    exact h
  have U : Un X.fs [] H (upd H a u') s.heap s.heap := {
    keep := fun b o q _ _ _ => q
    slot := fun b o q _ _ _ => ⟨o.slots, q⟩
    free := fun b o q n _ => by rw [upd_ne (fun z => by rw [z, e] at n; cases n)]; exact n
    there := fun b o q _ => ⟨o, q⟩
    tups := fun b xs q => go q fun z => n1 xs z.symm
    frzs := fun b o v q => go q fun z => n2 o v z.symm
    tbls := fun b ps q => ⟨#[], by rw [go q fun z => n3 ps z.symm]; simp⟩ }
  have J := I.un (t' := s.toks) U fun b o q => ?_
  · exact J
  · by_cases hb : b = a
    · subst hb
      rw [upd_same] at q
      cases q
      exact ok
    · rw [upd_ne hb] at q
      exact (I.hok b o q).stay (fun c v _ z => z) (fun c hc => go hc fun z => n4 b z.symm) (fun c xs hc => go hc fun z => n1 xs z.symm)
theorem inv_kept {a C dx : Addr} {f : Str} {y : V} (I : Inv X pins σ H s) (ea : H a = some (exo a C (some dx))) (ed : H dx = some (exd dx [(f, y)])) (hne : dx ≠ a) : Inv X pins σ (upd (upd H dx (.xd [(f, y)])) a (exK a (.ref C) (some dx))) s := by
  obtain ⟨mA, hns, rel⟩ := exd_at I.hok ed
  have J := inv_retag (u' := .xd [(f, y)]) I ed (show ObjOk X.prog X.w _ s.heap dx (.xd [(f, y)]) from ⟨mA, hns, rel⟩) (fun _ => exd_tup) (fun _ _ z => by cases (show HO.ext _ = HO.frz _ _ from z)) (fun _ z => by cases (show HO.ext _ = HO.tbl _ from z)) (fun _ => exd_own)
  have ea' : upd H dx (.xd [(f, y)]) a = some (exo a C (some dx)) := by rw [upd_ne (Ne.symm hne)]; exact ea
  obtain ⟨t1, ho⟩ := exo_at J.hok ea'
  exact inv_retag J ea' (exK_ok ho ⟨rfl, rfl⟩ rfl) (fun _ => exo_tup) (fun _ _ => exo_frz) (fun _ => exo_tbl) (fun _ => exo_own)
end
/-! ### the readings -/
/-- a new error of C, its field y -/
def atNew (C : Addr) (f : Str) (y : V) (H1 : Hp) (Q : VK) : Prop := ∀ a dx, H1 a = none → H1 dx = none → dx ≠ a → Q (.ref a) (upd (upd H1 dx (.xd [(f, y)])) a (exK a (.ref C) (some dx)))
section
variable {X : Cx} {x f : Str} {C fI : Addr} {fd : FuncData} {p pos : Pos} {e : Expr}
theorem run_err {pins : List (Addr × Obj)} {σ : L2.St} {H : Hp} {s : Shared} {Q : VK} {n : Nat} {ks : List Str} {g : List Value → List Value → List Value} {gV : List V → List V → List V} {us ws : List Value} {vs zs : List V} {y : V}
    (M : ErrMk X.prog X.w X.K X.mg X.base x f C fI fd) (hr : Room 2 X.A) (hb : KBn X.K fd ["self", f] (n + 1) ks g gV) (hx : Passes (L2.CX X.prog X.w) X (fun _ _ _ => False)) (I : Inv X pins σ H s) (r : Vals vs us) (rz : Vals zs ws) (l1 : vs.length = n) (l2 : zs.length = ks.length)
    (hg : ∀ a : Addr, gV (.ref a :: vs) zs = [.ref a, y]) (hn : n ≤ 1000) (h : atNew C f y H Q) : wpAny (model X.prog X.w) X.A (call (.ref C) us (ks.zip ws)) (EP X pins σ Q) X.xe s := by
  obtain ⟨nm, qn, ns, bs, bm, sn, sub, ab, col, dd, k0, k1, k2, k3, k5, hC, hbm⟩ := M.T.cls
  obtain ⟨hp, gs, dr, tk, os⟩ := s
  have hsz : hp.objs.size ≤ hp.objs.size + 1 := Nat.le_succ _
  have fresh : H (hp.objs.size + 1) = none := I.hok.fresh hsz
  have kk : ∀ b o, hp.get? b = some o → ((hp.push (PySem.W.kdv_tup us)).push (PySem.HandSPX.excO C hp.objs.size)).get? b = some o := fun b o z => Heap.get?_push_of_some _ (Heap.get?_push_of_some _ z)
  have hget : ((hp.push (PySem.W.kdv_tup us)).push (PySem.HandSPX.excO C hp.objs.size)).get? (hp.objs.size + 1) = some (PySem.HandSPX.excO C hp.objs.size) := by heap_get
  have I2 : Inv X pins σ (upd H (hp.objs.size + 1) (exo (hp.objs.size + 1) C none)) ⟨(hp.push (PySem.W.kdv_tup us)).push (PySem.HandSPX.excO C hp.objs.size), gs, dr, tk, os⟩ :=
    I.laid (t' := tk) (h' := (hp.push (PySem.W.kdv_tup us)).push (PySem.HandSPX.excO C hp.objs.size)) kk hsz (exo_ok hget)
  have r1 : Vals (V.ref (hp.objs.size + 1) :: vs) (Value.ref (hp.objs.size + 1) :: us) := .cons rfl r
  have r2 := hb.rel r1 rz
  have e1 : (Value.ref (hp.objs.size + 1) :: us).length = n + 1 := r1.length.symm.trans (congrArg Nat.succ l1)
  have e2 : ws.length = ks.length := rz.length.symm.trans l2
  have hus : us.length ≤ sizeLine := by
    rw [← Paired.length r, l1, sizeLine_eq]
    omega
  have hq : spErr X.K f (gV (.ref (hp.objs.size + 1) :: vs) zs) (upd H (hp.objs.size + 1) (exo (hp.objs.size + 1) C none)) (fun v H2 => v = .non ∧ ∃ dx : Addr, H dx = none ∧ dx ≠ hp.objs.size + 1 ∧ H2 = upd (upd (upd H (hp.objs.size + 1) (exo (hp.objs.size + 1) C none)) dx (exd dx [(f, y)])) (hp.objs.size + 1) (exo (hp.objs.size + 1) C (some dx))) (fun _ _ _ => False) :=
    ⟨hp.objs.size + 1, C, y, hg _, M.T, M.no, upd_same, fun dx h1 h2 => ⟨rfl, dx, by rw [upd_ne h2] at h1; exact h1, h2, rfl⟩⟩
  refine wpAny_call (EV.call_kw PySem.F.excBase_ValueError (fun Y => PySem.HandSPX.refsVE_contains Y bm hbm) (I.kIn _ _ hC) hus (PySem.W.looks_findIn I.kIn M.iC) (fun self => PySem.W.bind_fn I.kIn self M.tI)
    (codeAny_mono (M.F.run _ X.stack _ _ ⟨Value.ref (hp.objs.size + 1) :: us, ks.zip ws⟩ (g (Value.ref (hp.objs.size + 1) :: us) ws) _ _ (fun _ _ _ => False) (hr.make C us (ks.zip ws)) (I2.env0.make C us (ks.zip ws)) (hb.to _ (Value.ref (hp.objs.size + 1) :: us) ws I2.kIn e1 e2) r2 hq) fun r s' hq' => ?_))
  cases r with
  | error er => exact hx pins σ _ _ er s' I2 hq'
  | ok fl =>
    cases fl with
    | ret u =>
      obtain ⟨v, H', I3, rv, ev, dx, hdx, hne, eH⟩ := I2.after hq'
      subst ev
      cases rv
      have ea : H' (hp.objs.size + 1) = some (exo (hp.objs.size + 1) C (some dx)) := by rw [eH, upd_same]
      have ed : H' dx = some (exd dx [(f, y)]) := by rw [eH, upd_ne hne, upd_same]
      have J := inv_kept I3 ea ed hne
      have eq1 : upd (upd H' dx (.xd [(f, y)])) (hp.objs.size + 1) (exK (hp.objs.size + 1) (.ref C) (some dx)) = upd (upd H dx (.xd [(f, y)])) (hp.objs.size + 1) (exK (hp.objs.size + 1) (.ref C) (some dx)) := by
        funext b
        by_cases h1 : b = hp.objs.size + 1
        · rw [h1, upd_same, upd_same]
        · rw [upd_ne h1, upd_ne h1]
          by_cases h2 : b = dx
          · rw [h2, upd_same, upd_same]
          · rw [upd_ne h2, upd_ne h2, eH, upd_ne h1, upd_ne h2, upd_ne h1]
      rw [eq1] at J
      exact ⟨rfl, ⟨.ref (hp.objs.size + 1), _, J, rfl, h _ dx fresh hdx hne⟩⟩
    | next => exact False.elim hq'
    | brk => exact False.elim hq'
    | cont => exact False.elim hq'
/-- how C is called: by place, by name, without -/
structure ErrB (K : PySem.W.Frag) (f : Str) (fd : FuncData) : Prop where
  b1 : Binds K fd ["self", f] []
  b0 : KTd K fd ["self", f] [] 1 [0, 1] [.non]
  bk : KTd K fd ["self", f] [f] 1 [0, 1] [.non]
theorem pe_err1 {t : TA} (M : ErrMk X.prog X.w X.K X.mg X.base x f C fI fd) (hr : Room 2 X.A) (hx : Passes (L2.CX X.prog X.w) X (fun _ _ _ => False)) (hg : Gl X x) (ha : PA X [e] t)
    (hdb : (x == ("__debug__" : Str)) = false := by decide) (he : starEach [e] X.env = (false, eval e X.env) :: starEach [] X.env := by rfl) (hpl : (backTo pos (starEach [] X.env)).any (·.1) = false := by rfl) :
    PE X (.Call (.Name x p) [e] [] pos) (fun σ H Q => t σ H fun vs H1 => ∃ y, vs = [y] ∧ atNew C f y H1 Q) := by
  refine ⟨fun pins s σ H Q I h => ?_⟩
  refine wpAny_Call_Name_kw (ld_glob I hg M.m ?_ hdb)
  refine PySem.W.callWith_K (h₀ := X.base) I.ok.mod.kin M.T.kC (thn (ha.run pos pins s σ H _ I h) fun us s1 ⟨vs, H1, I1, r1, y, ey, q1⟩ => ⟨I1.kIn, ?_⟩) he hpl
  subst ey
  have hto : ∀ (s : Shared) (us ws : List Value), X.K.In s.heap → us.length = 1 + 1 → ws.length = ([] : List Str).length → BindsTo s fd ⟨us, ([] : List Str).zip ws⟩ ((["self", f] : List Str).zip us) := fun s us ws K1 l1 l2 => by
    have hw : ws = [] := List.eq_nil_of_length_eq_zero l2
    subst hw
    have hbb := M.b s us K1 (by rw [List.append_nil, l1]; rfl)
    rw [List.append_nil] at hbb
    exact hbb
  have hb : KBn X.K fd ["self", f] (1 + 1) [] (fun us ws => us) (fun vs zs => vs) := ⟨hto, fun r _ => r⟩
  exact run_err (us := us) (ws := []) (zs := []) (ks := []) M hr hb hx I1 r1 .nil rfl rfl (fun _ => rfl) (by decide) q1
theorem pe_err0 (M : ErrMk X.prog X.w X.K X.mg X.base x f C fI fd) (B : ErrB X.K f fd) (hr : Room 2 X.A) (hx : Passes (L2.CX X.prog X.w) X (fun _ _ _ => False)) (hg : Gl X x)
    (hdb : (x == ("__debug__" : Str)) = false := by decide) : PE X (.Call (.Name x p) [] [] pos) (fun σ H Q => atNew C f .non H Q) := by
  refine ⟨fun pins s σ H Q I h => ?_⟩
  refine wpAny_Call_Name_kw (ld_glob I hg M.m ?_ hdb)
  obtain ⟨its, hv, hb⟩ := B.b0
  refine PySem.W.callWith_K0 I.kIn M.T.kC ?_
  have hl : its.length = 1 := (Vals.length hv).symm
  refine run_err (us := []) (ws := []) (zs := []) (vs := []) (ks := []) (n := 0) M hr hb hx I .nil .nil rfl rfl (fun a => ?_) (by decide) h
  unfold perm
  rw [hl]
  rfl
theorem pe_errK {kp : Pos} {te : TA} (M : ErrMk X.prog X.w X.K X.mg X.base x f C fI fd) (B : ErrB X.K f fd) (hr : Room 2 X.A) (hx : Passes (L2.CX X.prog X.w) X (fun _ _ _ => False)) (hg : Gl X x) (hkw : PK X [⟨some f, e, kp⟩] te)
    (hall : (backToKw pos (keywordEach [⟨some f, e, kp⟩] X.env)).all (·.1.isSome) = true := by rfl) (hks : (backToKw pos (keywordEach [⟨some f, e, kp⟩] X.env)).filterMap (·.1) = [f] := by rfl) (hdb : (x == ("__debug__" : Str)) = false := by decide)
    (hpl : ((backTo pos (starEach [] X.env)).any (·.1) || (backToKw pos (keywordEach [⟨some f, e, kp⟩] X.env)).any (·.1.isNone)) = false := by rfl) :
    PE X (.Call (.Name x p) [] [⟨some f, e, kp⟩] pos) (fun σ H Q => te σ H fun vs H1 => ∃ y, vs = [y] ∧ atNew C f y H1 Q) := by
  refine ⟨fun pins s σ H Q I h => ?_⟩
  refine wpAny_Call_Name_kw (ld_glob I hg M.m ?_ hdb)
  obtain ⟨its, hv, hb⟩ := B.bk
  refine PySem.W.callWith_KW0 (h₀ := X.base) I.ok.mod.kin M.T.kC hall ?_ hpl
  refine thn (hkw.run pos pins s σ H _ I h) fun ws s2 ⟨zs, H2, I2, rz, y, ey, q2⟩ => ⟨I2.kIn, ?_⟩
  subst ey
  rw [hks]
  have hl : its.length = 1 := (Vals.length hv).symm
  refine run_err (us := []) (ws := ws) (zs := [y]) (vs := []) (ks := [f]) (n := 0) M hr hb hx I2 .nil rz rfl rfl (fun a => ?_) (by decide) q2
  unfold perm
  rw [hl]
  rfl
/-- an own class of errors without __init__ -/
structure ErrN (K : PySem.W.Frag) (mg : Str → Option Value) (x : Str) (C : Addr) : Prop where
  m : mg x = some (.ref C)
  q : PySem.W.excIn K C [.type "ValueError", .type "Exception", .type "BaseException", .type "object"] "ValueError.__new__" = true
  kC : PySem.W.keepIn K (.ref C) = true
theorem pe_errN (N : ErrN X.K X.mg x C) (hg : Gl X x) (hdb : (x == ("__debug__" : Str)) = false := by decide) : PE X (.Call (.Name x p) [] [] pos) (fun σ H Q => ∀ a, H a = none → Q (.ref a) (upd H a (exK a (.ref C) none))) := by
  refine ⟨fun pins s σ H Q I h => ?_⟩
  refine wpAny_Call_Name_kw (ld_glob I hg N.m ?_ hdb)
  refine PySem.W.callWith_K0 I.kIn N.kC ?_
  show wpAny _ _ (call (.ref C) []) _ _ _
  obtain ⟨bm, ns, nm, qn, bs, hdct, sn, sub, ab, col, dd, k0, k1, k2, k3, k5, mN, hC, hN, hni, T⟩ := exc_obj I.kIn N.q
  refine wpAny_call_exc_subT PySem.F.excBase_ValueError T hC hN hni (fun h' a hm => ?_) (by show 0 ≤ sizeLine; exact Nat.zero_le _)
  have hn : H a = none := I.hok.gone hm.new
  obtain ⟨t, ht, _, _⟩ := hm.there
  exact ⟨.ref a, upd H a (exK a (.ref C) none), I.laidN hm.keeps hm.new hn (exK_ok ht ⟨rfl, rfl⟩ rfl), rfl, h a hn⟩
end
/-! ### the mirrors -/
def mErr (x f : Str) (ma : MA0) : ME0 := fun ρ S => (ma ρ S).bind fun ds S1 => match ds with
  | [d] => .ok (.err x f [d]) S1
  | _ => .bad
section
variable {T : List Addr} {X : Cx} {E : XK} {e : Expr} {ma : MA0} {x f : Str} {C fI : Addr} {fd : FuncData} {p pos : Pos} {R φ : List Addr} {S : Store} {H : Hp}
theorem run_new {d : D} {y : V} (hm : X.mg x = some (.ref C)) (rs : Rs (X.gd T) R φ S H) (h : Rv (X.gd T) R φ H d y) : Run (X.gd T) E R φ H (RelV' (X.gd T) R) (.ok (.err x f [d]) S) (fun Q => atNew C f y H Q) := by
  intro Q hq _ _ a dx ha hd hne
  have l1 := Le.new rs (o := .xd [(f, y)]) hd
  have s1 := rs.new (o := .xd [(f, y)]) hd
  have ha' : upd H dx (.xd [(f, y)]) a = none := by rw [upd_ne (Ne.symm hne)]; exact ha
  have l2 := Le.new s1 (o := exK a (.ref C) (some dx)) ha'
  have s2 := s1.new (o := exK a (.ref C) (some dx)) ha'
  have f1 := rs.fresh hd
  have f2 := s1.fresh ha'
  refine hq (.err x f [d]) S φ (.ref a) _ rfl (l1.trans l2) s2 ?_
  show Rv (X.gd T) R φ _ (.err x f [d]) (.ref a)
  unfold Rv
  refine ⟨[y], ⟨a, .ref C, some dx, rfl, f2.1, f2.2, hm, upd_same, .inr ⟨dx, y, rfl, rfl, f1.1, f1.2, ?_⟩⟩, RvL.cons (Rv.le (l1.trans l2) h) RvL.nil⟩
  rw [upd_ne hne, upd_same]
theorem me_err1 (M : ErrMk X.prog X.w X.K X.mg X.base x f C fI fd) (hr : Room 2 X.A) (hx : Passes (L2.CX X.prog X.w) X (fun _ _ _ => False)) (hg : Gl X x) (ha : MA T X E [e] ma)
    (hdb : (x == ("__debug__" : Str)) = false := by decide) (he : starEach [e] X.env = (false, eval e X.env) :: starEach [] X.env := by rfl) (hpl : (backTo pos (starEach [] X.env)).any (·.1) = false := by rfl) :
    ME T X E (.Call (.Name x p) [e] [] pos) (mErr x f ma) := by
  obtain ⟨t, pt, st⟩ := ha
  refine ⟨_, pe_err1 M hr hx hg pt hdb he hpl, fun σ H ρ φ R S rs rn => ?_⟩
  refine Run.bnd (c' := fun (vs : List V) H1 (Q : VK) => ∃ y, vs = [y] ∧ atNew C f y H1 Q) (st σ H ρ φ R S rs rn) (fun ds S1 φ1 vs H1 e0 l1 rs1 r1 => ?_) fun Q q => q
  split
  · obtain ⟨y, rfl, h1⟩ := RvL.one_of r1
    exact Run.conv (run_new M.m rs1 h1) fun Q q => ⟨y, rfl, q⟩
  · exact Run.bad
theorem me_err0 (M : ErrMk X.prog X.w X.K X.mg X.base x f C fI fd) (B : ErrB X.K f fd) (hr : Room 2 X.A) (hx : Passes (L2.CX X.prog X.w) X (fun _ _ _ => False)) (hg : Gl X x)
    (hdb : (x == ("__debug__" : Str)) = false := by decide) : ME T X E (.Call (.Name x p) [] [] pos) (mC (.err x f [.non])) :=
  ⟨_, pe_err0 M B hr hx hg hdb, fun σ H ρ φ R S rs rn => run_new M.m rs Rv.non⟩
theorem me_errK {kp : Pos} (M : ErrMk X.prog X.w X.K X.mg X.base x f C fI fd) (B : ErrB X.K f fd) (hr : Room 2 X.A) (hx : Passes (L2.CX X.prog X.w) X (fun _ _ _ => False)) (hg : Gl X x) (hk : MKn T X E [⟨some f, e, kp⟩] ma)
    (hall : (backToKw pos (keywordEach [⟨some f, e, kp⟩] X.env)).all (·.1.isSome) = true := by rfl) (hks : (backToKw pos (keywordEach [⟨some f, e, kp⟩] X.env)).filterMap (·.1) = [f] := by rfl) (hdb : (x == ("__debug__" : Str)) = false := by decide)
    (hpl : ((backTo pos (starEach [] X.env)).any (·.1) || (backToKw pos (keywordEach [⟨some f, e, kp⟩] X.env)).any (·.1.isNone)) = false := by rfl) :
    ME T X E (.Call (.Name x p) [] [⟨some f, e, kp⟩] pos) (mErr x f ma) := by
  obtain ⟨⟨t, pt, st⟩, _⟩ := hk
  refine ⟨_, pe_errK M B hr hx hg pt hall hks hdb hpl, fun σ H ρ φ R S rs rn => ?_⟩
  refine Run.bnd (c' := fun (vs : List V) H1 (Q : VK) => ∃ y, vs = [y] ∧ atNew C f y H1 Q) (st σ H ρ φ R S rs rn) (fun ds S1 φ1 vs H1 e0 l1 rs1 r1 => ?_) fun Q q => q
  split
  · obtain ⟨y, rfl, h1⟩ := RvL.one_of r1
    exact Run.conv (run_new M.m rs1 h1) fun Q q => ⟨y, rfl, q⟩
  · exact Run.bad
theorem me_errN (N : ErrN X.K X.mg x C) (hg : Gl X x) (hdb : (x == ("__debug__" : Str)) = false := by decide) : ME T X E (.Call (.Name x p) [] [] pos) (mC (.err x "" [])) := by
  refine ⟨_, pe_errN N hg hdb, fun σ H ρ φ R S rs rn Q hq _ _ a ha => ?_⟩
  have ln := Le.new rs (o := exK a (.ref C) none) ha
  have fr := rs.fresh ha
  refine hq (.err x "" []) S φ (.ref a) _ rfl ln (rs.new ha) ?_
  show Rv (X.gd T) R φ _ (.err x "" []) (.ref a)
  unfold Rv
  exact ⟨[], ⟨a, .ref C, none, rfl, fr.1, fr.2, N.m, upd_same, .inl ⟨rfl, rfl⟩⟩, RvL.nil⟩
/-- of which classes of errors we know that they are below a built-in one -/
def fIsiB (cs : List Str) : D → Store → Res D := fun x S => match x with
  | .err k _ _ => if k ∈ cs then .ok (.bl true) S else .bad
  | _ => .bad
theorem me_isiB {c : Str} {nm : String} {cs : List Str} {q : Pos} (I : ∀ k ∈ cs, ∃ D, ErrK X.K X.mg k D ∧ PySem.W.kitOne X.K (.ref D) (.type nm) = some true) {me : ME0} (hg : Gl X "isinstance") (hm : X.mg "isinstance" = none) (hgC : Gl X c) (hmC : X.mg c = none) (hbC : bootBuiltins c = some (.type nm)) (h : ME T X E e me) (hn : c ≠ "__name__" := by decide) (hdT : (c == ("__debug__" : Str)) = false := by decide)
    (he : starEach [e, .Name c q] X.env = (false, eval e X.env) :: starEach [.Name c q] X.env := by rfl) (he2 : starEach [.Name c q] X.env = (false, eval (.Name c q) X.env) :: starEach [] X.env := by rfl) (hpl : (backTo pos (starEach [.Name c q] X.env)).any (·.1) = false := by rfl) :
    ME T X E (.Call (.Name "isinstance" p) [e, .Name c q] [] pos) (mUn (fIsiB cs) me) := by
  obtain ⟨t, pt, st⟩ := h
  refine ⟨_, pe_callB (CallR.or call_isi call_isK) hg hm (by decide +kernel) (pa_cons pt (pa_cons (pe_bltn (v := .ty nm) hgC hmC hbC rfl hn hdT) pa_nil he2) he) (by decide) (by decide) he hpl, fun σ H ρ φ R S rs rn => ?_⟩
  refine Run.bnd (c' := fun (v : V) H1 (Q : VK) => rIsi X.K [v, .ty nm] H1 Q ∨ rIsK X.K [v, .ty nm] H1 Q) (st σ H ρ φ R S rs rn) (fun d S1 φ1 v H1 e0 l1 rs1 r1 => ?_) fun Q q => q
  unfold fIsiB
  split
  · rename_i k f ds
    split
    · rename_i hk
      obtain ⟨D, hD, hb⟩ := I k hk
      unfold Rv at r1
      obtain ⟨vs, ⟨a, Cv, dd, rfl, _, _, hmg, h1, h2⟩, _⟩ := r1
      have hmg' : X.mg k = some Cv := hmg
      rw [hD.m] at hmg'
      cases hmg'
      exact Run.ret rs1 Rv.bl fun Q q => .inr ⟨a, D, dd, .ty nm, .type nm, true, rfl, fun u r => r, h1, h2.h, hD.T, hb, q⟩
    · exact Run.bad
  · exact Run.bad
end
end MM
namespace MM
theorem nl_nil : ∀ (ρ : Rho) (S : Store) (ds : List D) (S' : Store), mNil ρ S = .ok ds S' → ds.length = 0 := fun ρ S ds S' h => by cases h; rfl
theorem nl_cons {a : ME0} {mr : MA0} {n : Nat} (h : ∀ (ρ : Rho) (S : Store) (ds : List D) (S' : Store), mr ρ S = .ok ds S' → ds.length = n) : ∀ (ρ : Rho) (S : Store) (ds : List D) (S' : Store), mCons a mr ρ S = .ok ds S' → ds.length = n + 1 := fun ρ S ds S' e => by
  unfold mCons at e
  cases ha : a ρ S with
  | ok d S1 =>
    rw [ha] at e
    change ((mr ρ S1).bind fun xs S2 => .ok (d :: xs) S2) = _ at e
    cases hm : mr ρ S1 with
    | ok xs S2 =>
      rw [hm] at e
      cases e
      rw [List.length_cons, h _ _ _ _ hm]
    | exc x S2 => rw [hm] at e; cases e
    | bad => rw [hm] at e; cases e
  | exc x S1 => rw [ha] at e; cases e
  | bad => rw [ha] at e; cases e
end MM

/-! isinstance(ValueError(), C), C an own class. -/
namespace MM
open PySem PySem.Spec PyProof.Rows L2
section
variable {X : Cx} {e : Expr} {t : L2.St → Hp → XK → Prop}
/-- what makes an exception gives a value, too -/
theorem pe_made (he : PMk X e t) : PE X e (fun σ H Q => t σ H fun cls d H' => ∀ a, H' a = none → Q (.ref a) (upd H' a (exK a cls d))) := by
  refine ⟨fun pins s σ H Q I h => wpAny_mono (he pins s σ H _ I h) (fun u s' hu => ?_) fun _ _ x => x⟩
  obtain ⟨a, oe, vs, sI, H', cls, d, rfl, J, kk, hne, ha, hz, hd, _, na, hos, hb, _, q⟩ := hu
  exact ⟨.ref a, upd H' a (exK a cls d), J.call' (ch := []) hos (Un.laidN kk hne na) (HOk.laidN J.hok kk na (exK_ok ha hz hd)) hb (fun b z => absurd z (by simp)), rfl, q a na⟩
def rIsB (K : PySem.W.Frag) : List V → Hp → VK → Prop := fun xs H Q => ∃ (a : Addr) (d : Option Addr) (c : V) (cv : Value) (b : Bool), xs = [.ref a, c] ∧ (∀ u, RelV c u → u = cv) ∧ H a = some (exK a (.type "ValueError") d) ∧ PySem.W.kitOne K (.type "ValueError") cv = some b ∧ Q (.bl b) H
theorem call_isB : CallR X (.builtin "isinstance") (rIsB X.K) := by
  intro pins s σ H xs us Q I r h
  obtain ⟨a, d, c, cv, b, rfl, hcv, ha, e, q⟩ := h
  cases r with
  | cons rx rr =>
    cases rr with
    | cons rt rr =>
      cases rr
      cases rx
      have ec := hcv _ rt
      subst ec
      have x : ObjOk X.prog X.w H s.heap a (exK a (.type "ValueError") d) := I.hok a _ ha
      obtain ⟨⟨oe, vs, e1, z, e2⟩, _⟩ := x
      exact PySem.W.kia_one (PySem.W.kitx_bexc PySem.F.excAttr_ValueError (by rw [typeLookup_type, builtinLookup_eq_fast]; kernel_rfl) (by kernel_rfl) (by decide)) I.kIn ⟨oe, e1, z.1⟩ e (fun z => nomatch z) fun tk => ⟨.bl b, H, I.kept (t' := tk) fun _ _ z => z, rfl, q⟩
theorem me_isiVE {T : List Addr} {E : XK} {c : Str} {C : Addr} {p q pos p2 pos2 : Pos} (hk : PySem.W.kitOne X.K (.type "ValueError") (.ref C) = some false) (hC : X.mg c = some (.ref C)) (hg : Gl X "isinstance") (hm : X.mg "isinstance" = none) (hgC : Gl X c) (hgV : Gl X "ValueError") (hmV : X.mg "ValueError" = none) (hdT : (c == ("__debug__" : Str)) = false := by decide)
    (he : starEach [.Call (.Name "ValueError" p2) [] [] pos2, .Name c q] X.env = (false, eval (.Call (.Name "ValueError" p2) [] [] pos2) X.env) :: starEach [.Name c q] X.env := by rfl) (he2 : starEach [.Name c q] X.env = (false, eval (.Name c q) X.env) :: starEach [] X.env := by rfl) (hpl : (backTo pos (starEach [.Name c q] X.env)).any (·.1) = false := by rfl) :
    ME T X E (.Call (.Name "isinstance" p) [.Call (.Name "ValueError" p2) [] [] pos2, .Name c q] [] pos) (mC (.bl false)) := by
  refine ⟨_, pe_callB call_isB hg hm (by decide +kernel) (pa_cons (pe_made (pmk_exb0 exb_ValueError hgV hmV boot_ValueError)) (pa_cons (pe_glob (v := .ref C) hgC hC rfl hdT) pa_nil he2) he) (by decide) (by decide) he hpl, fun σ H ρ φ R S rs rn Q hq _ _ a ha => ?_⟩
  refine ⟨a, none, .ref C, .ref C, false, rfl, fun u r => r, upd_same, hk, ?_⟩
  exact hq (.bl false) S φ (.bl false) _ rfl (Le.new rs ha) (rs.new ha) Rv.bl
end
end MM

/-! a + b of lists, by value or of the store; the sum by value or of the store. -/
namespace MM
open PySem PySem.Spec L2 PyProof.Rows
def lsOf (S : Store) : D → Option (List D)
  | .lst ds => some ds
  | .ref n => lstAt S n
  | _ => none
def fCatL : D → D → Store → Res D := fun x y S => match lsOf S x, lsOf S y with
  | some us, some vs => if us.length + vs.length ≤ sizeLine then .ok (.lst (us ++ vs)) S else .bad
  | _, _ => .bad
def fCatS : D → D → Store → Res D := fun x y S => match lsOf S x, lsOf S y with
  | some us, some vs => if us.length + vs.length ≤ sizeLine then .ok (.ref S.length) (S ++ [.lst (us ++ vs)]) else .bad
  | _, _ => .bad
section
variable {G : Gd} {E : XK} {R φ : List Addr} {S : Store} {H : Hp}
theorem lsOf_rv {x : D} {v : V} {us : List D} (r : Rs G R φ S H) (h : Rv G R φ H x v) (e : lsOf S x = some us) : ∃ a vs, v = .ref a ∧ H a = some (.lst vs) ∧ RvL G R φ H us vs := by
  cases x with
  | lst ds =>
    cases e
    obtain ⟨a, vs, rfl, _, _, h1, h2⟩ := Rv.lst_of h
    exact ⟨a, vs, rfl, h1, h2⟩
  | ref n =>
    obtain ⟨a, vs, rfl, _, h1, h2⟩ := r.lst h (lstAt_of e)
    exact ⟨a, vs, rfl, h1, h2⟩
  | _ => cases e
theorem o_catL : Op2 G E rCat fCatL := by
  intro R φ S H d e x y rs rd re
  unfold fCatL
  split
  · rename_i us vs e1 e2
    obtain ⟨p, xs, rfl, h1, h2⟩ := lsOf_rv rs rd e1
    obtain ⟨q, ys, rfl, h3, h4⟩ := lsOf_rv rs re e2
    split
    · rename_i hl
      rw [RvL.length h2, RvL.length h4] at hl
      exact Run.new (o := .lst (xs ++ ys)) rs (fun p hp => Rv.lst (rs.fresh hp).1 (rs.fresh hp).2 upd_same (RvL.append (RvL.le (Le.new rs hp) h2) (RvL.le (Le.new rs hp) h4))) fun Q q => ⟨_, _, xs, ys, rfl, rfl, h1, h3, hl, q⟩
    · exact Run.bad
  · exact Run.bad
theorem o_catS : Op2 G E rCat fCatS := by
  intro R φ S H d e x y rs rd re
  unfold fCatS
  split
  · rename_i us vs e1 e2
    obtain ⟨p, xs, rfl, h1, h2⟩ := lsOf_rv rs rd e1
    obtain ⟨q, ys, rfl, h3, h4⟩ := lsOf_rv rs re e2
    split
    · rename_i hl
      rw [RvL.length h2, RvL.length h4] at hl
      exact Run.alloc (o := .lst (xs ++ ys)) (o' := .lst (us ++ vs)) rs (fun p hp => Ro.mkL upd_same (RvL.append (RvL.le (Le.alloc rs hp) h2) (RvL.le (Le.alloc rs hp) h4))) fun Q q => ⟨_, _, xs, ys, rfl, rfl, h1, h3, hl, q⟩
    · exact Run.bad
  · exact Run.bad
end
section
variable {T : List Addr} {X : Cx} {E : XK} {a b : Expr} {ma mb : ME0} {pos : Pos}
theorem me_catL (ha : ME T X E a ma) (hb : ME T X E b mb) : ME T X E (.BinOp a .Add b pos) (mOp fCatL ma mb) := me_bin op_cat o_catL ha hb
theorem me_catS (ha : ME T X E a ma) (hb : ME T X E b mb) : ME T X E (.BinOp a .Add b pos) (mOp fCatS ma mb) := me_bin op_cat o_catS ha hb
end
end MM

/-! len(d) of a dict. -/
namespace MM
open PySem PySem.Spec PyProof.Rows L2
def fLenD : List D → Store → Res D := fun ds S => match ds with
  | [d] => match dctAt S d with
    | some kvs => .ok (.int kvs.length) S
    | none => .bad
  | _ => .bad
section
variable {X : Cx} {G : Gd} {E : XK} {T : List Addr} {e : Expr} {mr : MA0} {p pos : Pos}
theorem call_lenR : CallR X (.builtin "len") (fun xs H Q => ∃ (a : Addr) (kvs : List (Key × V)), xs = [V.ref a] ∧ Rd H a (.dK kvs) ∧ Q (.int kvs.length) H) := by
  intro pins s σ H xs us Q I r h
  obtain ⟨a, kvs, rfl, ha, q⟩ := h
  obtain ⟨u, rfl, ru⟩ := vals1 r
  cases ru
  exact d_len I ha fun t s' I' => ⟨.int kvs.length, H, I', ⟨t, rfl⟩, q⟩
theorem o_lenD : OpL G E (fun xs H Q => ∃ (a : Addr) (kvs : List (Key × V)), xs = [V.ref a] ∧ Rd H a (.dK kvs) ∧ Q (.int kvs.length) H) fLenD := by
  intro R φ S H ds xs rs rv
  unfold fLenD
  split
  · split
    · rename_i d kvs e1
      obtain ⟨v, rfl, h1⟩ := RvL.one_of rv
      obtain ⟨n, a, vs, rfl, rfl, ha, h2, h3⟩ := dct_of rs h1 e1
      refine Run.ret rs Rv.int fun Q q => ⟨a, _, rfl, h2, ?_⟩
      have l3 := RvL.length h3
      rw [List.length_map] at l3
      rw [List.length_zip, List.length_map, ← l3, Nat.min_self]
      exact q
    · exact Run.bad
  · exact Run.bad
theorem me_lenD (hg : Gl X "len") (hm : X.mg "len" = none) (ha : MAn T X E [e] mr) (he : starEach [e] X.env = (false, eval e X.env) :: starEach [] X.env := by rfl) (hpl : (backTo pos (starEach [] X.env)).any (·.1) = false := by rfl) :
    ME T X E (.Call (.Name "len" p) [e] [] pos) (mCall fLenD mr) := me_cb call_lenR o_lenD hg hm PySem.boot_len ha (by decide) (by decide) he hpl
end
end MM

/-! What sums of lists, index, count, made errors, the same things come to. -/
namespace MM
open PySem L2
section
variable {Q : D → Store → Prop} {QA : List D → Store → Prop} {QT : Bool → Store → Prop} {QS : Fl × Rho → Store → Prop} {QI : ItD → Store → Prop} {E : Er → Store → Prop} {S : Store} {ρ : Rho}
theorem W_catL {x y : D} {us vs : List D} (h1 : lsOf S x = some us) (h2 : lsOf S y = some vs) (h : us.length + vs.length ≤ sizeLine) : W (fCatL x y S) Q E = Q (.lst (us ++ vs)) S := by
  unfold fCatL
  rw [h1, h2]
  dsimp only
  rw [if_pos h]
  rfl
theorem W_catS {x y : D} {us vs : List D} (h1 : lsOf S x = some us) (h2 : lsOf S y = some vs) (h : us.length + vs.length ≤ sizeLine) : W (fCatS x y S) Q E = Q (.ref S.length) (S ++ [.lst (us ++ vs)]) := by
  unfold fCatS
  rw [h1, h2]
  dsimp only
  rw [if_pos h]
  rfl
theorem lsOf_ref {n : Nat} {us : List D} (h : S[n]? = some (.lst us)) : lsOf S (.ref n) = some us := by
  show lstAt S n = some us
  unfold lstAt
  rw [h]
theorem lsOf_lst {us : List D} : lsOf S (.lst us) = some us := rfl
def kMet (Q : D → Store → Prop) (E : Er → Store → Prop) (f : D → D → Store → Res D) (me : ME0) (ρ : Rho) : D → Store → Prop := fun o S1 => match sq2 S1 o with
  | some (false, _) => W (me ρ S1) (fun d S2 => W (f o d S2) Q E) E
  | _ => False
theorem W_metL {f : D → D → Store → Res D} {mo me : ME0} : W (mMetL f mo me ρ S) Q E = W (mo ρ S) (kMet Q E f me ρ) E := by
  unfold mMetL
  rw [W_bind]
  congr 1
  funext o S1
  unfold kMet
  generalize sq2 S1 o = x
  match x with
  | none => rfl
  | some (true, _) => rfl
  | some (false, _) =>
    dsimp only
    rw [W_bind]
theorem k_metL {f : D → D → Store → Res D} {me : ME0} {ds : List D} : kMet Q E f me ρ (.lst ds) S = W (me ρ S) (kOp2 Q E f (.lst ds)) E := rfl
theorem k_metR {f : D → D → Store → Res D} {me : ME0} {n : Nat} {ds : List D} (h : S[n]? = some (.lst ds)) : kMet Q E f me ρ (.ref n) S = W (me ρ S) (kOp2 Q E f (.ref n)) E := by
  show (match (lstAt S n).map (fun ds => (false, ds)) with
  | some (false, _) => W (me ρ S) (fun d S2 => W (f (.ref n) d S2) Q E) E
  | _ => False) = _
  have e : lstAt S n = some ds := lsOf_ref h
  rw [e]
  rfl
def kErr (Q : D → Store → Prop) (x f : Str) : List D → Store → Prop := fun ds S1 => match ds with
  | [d] => Q (.err x f [d]) S1
  | _ => False
theorem W_err {x f : Str} {ma : MA0} : W (mErr x f ma ρ S) Q E = W (ma ρ S) (kErr Q x f) E := by
  unfold mErr
  rw [W_bind]
  congr 1
  funext ds S1
  match ds with
  | [] => rfl
  | [_] => rfl
  | _ :: _ :: _ => rfl
theorem k_err {x f : Str} {d : D} : kErr Q x f [d] S = Q (.err x f [d]) S := rfl
theorem W_tw {neg : Bool} {x y : D} (h : twSq (twD S 60) (sq2 S x) (sq2 S y) = true) : W (fTw neg x y S) Q E = Q (.bl (!neg)) S := by
  unfold fTw
  rw [if_pos h]
  rfl
theorem W_isiB {cs : List Str} {k f : Str} {ds : List D} (h : k ∈ cs) : W (fIsiB cs (.err k f ds) S) Q E = Q (.bl true) S := by
  show W (if k ∈ cs then .ok (.bl true) S else .bad) Q E = _
  rw [if_pos h]
  rfl
end
end MM

/-! The mirrors of the defs that the law reaches. -/
namespace MM
open PySem PySem.Spec L2 PyProof.Rows
def tab_InvalidMachine : List (Str × Bool) := [("InvalidMachine", true), ("InvalidMap", false), ("InvalidRow", false), ("InvalidSize", false)]
def tab_InvalidMap : List (Str × Bool) := [("InvalidMachine", false), ("InvalidMap", true), ("InvalidRow", false), ("InvalidSize", false)]
def tab_InvalidRow : List (Str × Bool) := [("InvalidMachine", false), ("InvalidMap", false), ("InvalidRow", true), ("InvalidSize", false)]
def tab_InvalidSize : List (Str × Bool) := [("InvalidMachine", false), ("InvalidMap", false), ("InvalidRow", false), ("InvalidSize", true)]
def tab_LazyError : List (Str × Bool) := [("InvalidMachine", true), ("InvalidMap", true), ("InvalidRow", true), ("InvalidSize", true)]
def ecs_size : List Str := ["InvalidSize"]
def ecs_thing : List Str := ["InvalidMachine", "InvalidMap", "InvalidRow"]
def m__law_purse : List D → Store → Res D := mDef 3 ((sSeq (sAsg (mC (.int 0)) (gN 2))
  (sSeq (sIf (mB (mOp fLtI (mVar 1) (mCall fLen (mCons (mVar 0) mNil)))) (sAsg (mOp fIxD (mVar 0) (mVar 1)) (gN 2)) sNx)
  (sRet (mLstS (mCons (mOp fMod (mCall fInt (mCons (mCall fMax2 (mCons (mOp fSub (mVar 2) (mOp fPowW (mC (.int 10)) (mC (.int 18)))) (mCons (mC (.int 0)) mNil))) mNil)) (mOp fPowW (mOp fPowW (mC (.int 10)) (mC (.int 60))) (mC (.int 8)))) (mCons (mOp fMod (mCall fInt (mCons (mVar 2) mNil)) (mC (.int 2147483647))) (mCons (mOp fMul (mC (.int 1000)) (mVar 1)) mNil))))))))
def m__law_mixed : List D → Store → Res D := mDef 3 ((sSeq (sAsg (mOp fMod (mCall fInt (mCons (mOp fAdd (mOp fAdd (mOp fAdd (mOp fMul (mVar 0) (mC (.int 2654435761))) (mOp fMul (mOp fMul (mC (.int 40503)) (mVar 1)) (mVar 1))) (mOp fMul (mC (.int 97)) (mVar 1))) (mC (.int 13))) mNil)) (mC (.int 2147483647))) (gN 2))
  (sRet (mOp fFloor (mOp fMod (mCall fInt (mCons (mOp fAdd (mOp fAdd (mOp fMul (mVar 2) (mVar 2)) (mOp fMul (mC (.int 7)) (mVar 2))) (mC (.int 11))) mNil)) (mC (.int 2147483629))) (mC (.int 3))))))
def m__law_draw : List D → Store → Res D := mDef 3 ((sSeq (sIf (mB (mOp fGtI (mOp fIxD (mVar 0) (mC (.int 0))) (mC (.int 0)))) (sSeq (sAsg (mOp fMod (mCall fInt (mCons (mOp fIxD (mVar 0) (mC (.int 0))) mNil)) (mVar 1)) (gN 2))
  (sSeq (sAsg (mOp fFloor (mOp fIxD (mVar 0) (mC (.int 0))) (mVar 1)) (gSt (mVar 0) (mC (.int 0))))
  (sRet (mVar 2)))) sNx)
  (sSeq (sAsg (mOp fAdd (mOp fIxD (mVar 0) (mC (.int 2))) (mC (.int 1))) (gSt (mVar 0) (mC (.int 2))))
  (sRet (mOp fMod (mCall fInt (mCons (mCall m__law_mixed (mCons (mOp fIxD (mVar 0) (mC (.int 1))) (mCons (mOp fIxD (mVar 0) (mC (.int 2))) mNil))) mNil)) (mVar 1))))))
def m__law_machine : List D → Store → Res D := mDef 8 ((sSeq (sAsg (mOp fAdd (mC (.int 1)) (mCall m__law_draw (mCons (mVar 0) (mCons (mVar 2) mNil)))) (gN 3))
  (sSeq (sAsg (mCall fTuple (mCons (mLc (miR1 (mCons (mVar 3) mNil)) (gN 6) mYes (mCall fTuple (mCons (mLc (miR1 (mCons (mVar 1) mNil)) (gN 7) mYes (mCall m__law_draw (mCons (mVar 0) (mCons (mVar 3) mNil))) [7]) mNil)) [6]) mNil)) (gN 4))
  (sSeq (sAsg (mOp fIxD (mLst (mCons (mC (.int 2)) (mCons (mC (.int 3)) (mCons (mC (.int 1)) (mCons (mC (.int 100)) mNil))))) (mCall m__law_draw (mCons (mVar 0) (mCons (mC (.int 4)) mNil)))) (gN 5))
  (sRet (mTup (mCons (mCall m__law_draw (mCons (mVar 0) (mCons (mVar 3) mNil))) (mCons (mVar 4) (mCons (mCall fTuple (mCons (mLc (miR1 (mCons (mVar 3) mNil)) (gN 6) mYes (mCall m__law_draw (mCons (mVar 0) (mCons (mVar 5) mNil))) [6]) mNil)) mNil)))))))))
def m__law_odd : List D → Store → Res D := mDef 3 ((sSeq (sAsg (mLst (mCons (mC .non) (mCons (mC (.bl true)) (mCons (mC (.str "0")) (mCons (mUn fNeg (mC (.int 1))) (mCons (mVar 1) (mCons (mC (.int 100)) (mCons (mTup mNil) (mCons (mLst mNil) (mCons (mTup (mCons (mC (.int 0)) mNil)) (mCons mDct0 (mCons (mOp fPowW (mC (.int 10)) (mC (.int 30))) (mCons (mOp fSub (mVar 1) (mC (.int 1))) (mCons (mC (.int 0)) (mCons (mC (.bl false)) (mCons (mLst (mCons (mC (.int 0)) mNil)) (mCons (mC (.int 99)) mNil))))))))))))))))) (gN 2))
  (sRet (mOp fIxD (mVar 2) (mCall m__law_draw (mCons (mVar 0) (mCons (mC (.int 16)) mNil)))))))
def m__law_bent_part : List D → Store → Res D := mDef 5 ((sSeq (sAsg (mCall (frS lList) (mCons (mVar 1) mNil)) (gN 1))
  (sSeq (sAsg (mCall m__law_draw (mCons (mVar 0) (mCons (mCall fLen (mCons (mVar 1) mNil)) mNil))) (gN 3))
  (sSeq (sIf (mAndT (mB (mOp (fEq2 false) (mVar 2) (mC (.int 0)))) (mAndT (mB (mUn (fIsi "tuple") (mOp fIxD (mVar 1) (mVar 3)))) (mB (mOp (fEm true) (mOp fIxD (mVar 1) (mVar 3)) (mTup mNil))))) (sSeq (sAsg (mCall m__law_draw (mCons (mVar 0) (mCons (mCall fLen (mCons (mOp fIxD (mVar 1) (mVar 3)) mNil)) mNil))) (gN 4))
  (sAsg (mOp fAdd (mOp fAdd (mSl (mOp fIxD (mVar 1) (mVar 3)) mNoPart (mPart (mVar 4))) (mTup (mCons (mCall m__law_odd (mCons (mVar 0) (mCons (mCall fLen (mCons (mVar 1) mNil)) mNil))) mNil))) (mSl (mOp fIxD (mVar 1) (mVar 3)) (mPart (mOp fAdd (mVar 4) (mC (.int 1)))) mNoPart)) (gSt (mVar 1) (mVar 3)))) (sIf (mB (mOp (fEq2 false) (mVar 2) (mC (.int 1)))) (sAsg (mCall m__law_odd (mCons (mVar 0) (mCons (mCall fLen (mCons (mVar 1) mNil)) mNil))) (gSt (mVar 1) (mVar 3))) (sIf (mB (mOp (fEq2 false) (mVar 2) (mC (.int 2)))) (sAsg (mOp fAdd (mSl (mVar 1) mNoPart (mPart (mVar 3))) (mSl (mVar 1) (mPart (mOp fAdd (mVar 3) (mC (.int 1)))) mNoPart)) (gN 1)) (sIf (mB (mOp (fEq2 false) (mVar 2) (mC (.int 3)))) (sAsg (mOp fCatL (mVar 1) (mLst (mCons (mOp fIxD (mVar 1) (mVar 3)) mNil))) (gN 1)) (sIf (mB (mUn (fIsi "tuple") (mOp fIxD (mVar 1) (mVar 3)))) (sAsg (mOp fIxD (mLst (mCons (mSl (mOp fIxD (mVar 1) (mVar 3)) (mPart (mC (.int 1))) mNoPart) (mCons (mOp fAdd (mOp fIxD (mVar 1) (mVar 3)) (mSl (mOp fIxD (mVar 1) (mVar 3)) mNoPart (mPart (mC (.int 1))))) (mCons (mCall (frL lList) (mCons (mOp fIxD (mVar 1) (mVar 3)) mNil)) (mCons (mOp fMul0 (mOp fIxD (mVar 1) (mVar 3)) (mC (.int 2))) mNil))))) (mCall m__law_draw (mCons (mVar 0) (mCons (mC (.int 4)) mNil)))) (gSt (mVar 1) (mVar 3))) sNx)))))
  (sRet (mOp fIxD (mLst (mCons (mCall fTuple (mCons (mVar 1) mNil)) (mCons (mVar 1) mNil))) (mCall fInt (mCons (mOp (fEq2 false) (mCall m__law_draw (mCons (mVar 0) (mCons (mC (.int 12)) mNil))) (mC (.int 0))) mNil))))))))
def m__law_bent : List D → Store → Res D := mDef 6 ((sSeq (sAsg (mCall (frS lList) (mCons (mVar 1) mNil)) (gN 2))
  (sSeq (sAsg (mCall m__law_draw (mCons (mVar 0) (mCons (mC (.int 8)) mNil))) (gN 3))
  (sSeq (sAsg (mOp fAdd (mC (.int 1)) (mCall m__law_draw (mCons (mVar 0) (mCons (mC (.int 2)) mNil)))) (gN 4))
  (sSeq (sIf (mAndT (mB (mOp fLtI (mVar 3) (mC (.int 5)))) (mAndT (mB (mUn (fIsi "tuple") (mOp fIxD (mVar 2) (mVar 4)))) (mB (mOp (fEm true) (mOp fIxD (mVar 2) (mVar 4)) (mTup mNil))))) (sSeq (sAsg (mCall m__law_bent_part (mCons (mVar 0) (mCons (mOp fIxD (mVar 2) (mVar 4)) (mCons (mVar 3) mNil)))) (gSt (mVar 2) (mVar 4)))
  (sRet (mCall fTuple (mCons (mVar 2) mNil)))) sNx)
  (sSeq (sIf (mB (mOp fLtI (mVar 3) (mC (.int 7)))) (sSeq (sAsg (mCall m__law_draw (mCons (mVar 0) (mCons (mC (.int 3)) mNil))) (gN 4))
  (sSeq (sAsg (mCall m__law_odd (mCons (mVar 0) (mCons (mIfE (mB (mUn (fIsi "tuple") (mOp fIxD (mVar 2) (mC (.int 1))))) (mCall fLen (mCons (mOp fIxD (mVar 2) (mC (.int 1))) mNil)) (mC (.int 1))) mNil))) (gSt (mVar 2) (mVar 4)))
  (sRet (mCall fTuple (mCons (mVar 2) mNil))))) sNx)
  (sSeq (sAsg (mLst (mCons (mCall fTuple (mCons (mSl (mVar 2) mNoPart (mPart (mC (.int 2)))) mNil)) (mCons (mCall fTuple (mCons (mOp fCatL (mVar 2) (mLst (mCons (mC (.int 0)) mNil))) mNil)) (mCons (mVar 2) (mCons (mC .non) (mCons (mTup mNil) (mCons (mC (.str "machine")) (mCons (mC (.int 7)) (mCons (mDisp [((mC (.str "a")), (mC (.int 1)))]) mNil))))))))) (gN 5))
  (sRet (mOp fIxD (mOp fAdd (mVar 5) (mLst (mCons (mTup (mCons (mOp fIxD (mVar 2) (mC (.int 0))) (mCons (mOp fIxD (mVar 2) (mC (.int 2))) (mCons (mOp fIxD (mVar 2) (mC (.int 1))) mNil)))) mNil))) (mCall m__law_draw (mCons (mVar 0) (mCons (mC (.int 9)) mNil))))))))))))
def m_is_integer : List D → Store → Res D := mDef 3 ((sRet (mAndV (mUn (fIsi "int") (mVar 0)) (mAndV (mNotV (mUn (fIsi "bool") (mVar 0))) (mCmpC fLeI fLeI (mVar 1) (mVar 0) (mVar 2))))))
def m_require_size : List D → Store → Res D := mDef 1 ((sIf (mNotT (mB (mCall m_is_integer (mCons (mVar 0) (mCons (mC (.int 1)) (mCons (mC (.int 4)) mNil)))))) (sRaise "InvalidSize" "size" (mCons (mVar 0) mNil)) sNx))
def m_is_row : List D → Store → Res D := mDef 3 ((sRet (mAndV (mUn (fIsi "tuple") (mVar 0)) (mCall fAll (mCons (mLc (miA (mVar 0)) (gN 2) mYes (mCall m_is_integer (mCons (mVar 2) (mCons (mC (.int 0)) (mCons (mOp fSub (mVar 1) (mC (.int 1))) mNil)))) [2]) mNil)))))
def m_fault_of : List D → Store → Res D := mDef 8 ((sSeq (sIf (mOrT (mNotT (mB (mUn (fIsi "tuple") (mVar 0)))) (mB (mOp (fEq2 true) (mCall fLen (mCons (mVar 0) mNil)) (mC (.int 3))))) (sRet (mTup (mCons (mC (.str "form")) mNil))) sNx)
  (sSeq (sAsg (mVar 0) (gTpA 3 (gsCons (gN 2) (gsCons (gN 3) (gsCons (gN 4) gsNil)))))
  (sSeq (sIf (mOrT (mNotT (mB (mUn (fIsi "tuple") (mVar 3)))) (mOrT (mNotT (mB (mUn (fIsi "tuple") (mVar 4)))) (mOrT (mB (mOp (fEm false) (mVar 3) (mTup mNil))) (mB (mOp (fEm false) (mVar 4) (mTup mNil)))))) (sRet (mTup (mCons (mC (.str "form")) mNil))) sNx)
  (sSeq (sFor (miE2 (mCons (mVar 3) mNil)) (gTpA 2 (gsCons (gN 5) (gsCons (gN 6) gsNil)))
  (sIf (mOrT (mNotT (mB (mCall m_is_row (mCons (mVar 6) (mCons (mCall fLen (mCons (mVar 3) mNil)) mNil))))) (mB (mOp (fEq2 true) (mCall fLen (mCons (mVar 6) mNil)) (mVar 1)))) (sRet (mTup (mCons (mC (.str "steps")) (mCons (mVar 5) mNil)))) sNx))
  (sSeq (sIf (mOrT (mB (mOp (fEq2 true) (mCall fLen (mCons (mVar 4) mNil)) (mCall fLen (mCons (mVar 3) mNil)))) (mNotT (mB (mCall fAll (mCons (mLc (miA (mVar 4)) (gN 7) mYes (mCall m_is_integer (mCons (mVar 7) (mCons (mC (.int 0)) (mCons (mC (.int 99)) mNil)))) [7]) mNil))))) (sRet (mTup (mCons (mC (.str "answers")) mNil))) sNx)
  (sRet (mIfE (mB (mCall m_is_integer (mCons (mVar 2) (mCons (mC (.int 0)) (mCons (mOp fSub (mCall fLen (mCons (mVar 3) mNil)) (mC (.int 1))) mNil))))) (mC .non) (mTup (mCons (mC (.str "start")) mNil))))))))))
def m_check_machine : List D → Store → Res D := mDef 2 ((sSeq (sExpr (mCall m_require_size (mCons (mVar 1) mNil)))
  (sRet (mCall m_fault_of (mCons (mVar 0) (mCons (mVar 1) mNil))))))
def m__law_int : List D → Store → Res D := mDef 2 ((sRet (mAndV (mUn (fIsi "int") (mVar 0)) (mAndV (mNotV (mUn (fIsi "bool") (mVar 0))) (mCmpC fLeI fLeI (mC (.int 0)) (mVar 0) (mVar 1))))))
def m__law_ints : List D → Store → Res D := mDef 3 ((sRet (mAndV (mUn (fIsi "tuple") (mVar 0)) (mOp (fEm false) (mLc (miA (mVar 0)) (gN 2) (mNotT (mB (mCall m__law_int (mCons (mVar 2) (mCons (mVar 1) mNil))))) (mVar 2) [2]) (mLst mNil)))))
def m__law_due : List D → Store → Res D := mDef 4 ((sSeq (sIf (mOrT (mNotT (mB (mUn (fIsi "tuple") (mVar 0)))) (mOrT (mB (mOp (fEq2 true) (mCall fLen (mCons (mVar 0) mNil)) (mC (.int 3)))) (mNotT (mB (mUn (fIsi "tuple") (mOp fIxD (mVar 0) (mC (.int 1)))))))) (sRet (mTup (mCons (mC (.str "form")) mNil))) sNx)
  (sSeq (sIf (mOrT (mNotT (mB (mUn (fIsi "tuple") (mOp fIxD (mVar 0) (mC (.int 2)))))) (mOrT (mB (mOp (fEq2 false) (mCall fLen (mCons (mOp fIxD (mVar 0) (mC (.int 1))) mNil)) (mC (.int 0)))) (mB (mOp (fEq2 false) (mCall fLen (mCons (mOp fIxD (mVar 0) (mC (.int 2))) mNil)) (mC (.int 0)))))) (sRet (mTup (mCons (mC (.str "form")) mNil))) sNx)
  (sSeq (sAsg (mCall fLen (mCons (mOp fIxD (mVar 0) (mC (.int 1))) mNil)) (gN 2))
  (sSeq (sFor (miR1 (mCons (mVar 2) mNil)) (gN 3)
  (sIf (mOrT (mNotT (mB (mCall m__law_ints (mCons (mOp fIxD (mOp fIxD (mVar 0) (mC (.int 1))) (mVar 3)) (mCons (mOp fSub (mVar 2) (mC (.int 1))) mNil))))) (mB (mOp (fEq2 true) (mCall fLen (mCons (mOp fIxD (mOp fIxD (mVar 0) (mC (.int 1))) (mVar 3)) mNil)) (mVar 1)))) (sRet (mTup (mCons (mC (.str "steps")) (mCons (mVar 3) mNil)))) sNx))
  (sSeq (sIf (mOrT (mB (mOp (fEq2 true) (mCall fLen (mCons (mOp fIxD (mVar 0) (mC (.int 2))) mNil)) (mVar 2))) (mNotT (mB (mCall m__law_ints (mCons (mOp fIxD (mVar 0) (mC (.int 2))) (mCons (mC (.int 99)) mNil)))))) (sRet (mTup (mCons (mC (.str "answers")) mNil))) sNx)
  (sRet (mOp fIxD (mLst (mCons (mTup (mCons (mC (.str "start")) mNil)) (mCons (mC .non) mNil))) (mCall fInt (mCons (mCall m__law_int (mCons (mOp fIxD (mVar 0) (mC (.int 0))) (mCons (mOp fSub (mVar 2) (mC (.int 1))) mNil))) mNil))))))))))
def m_size_of : List D → Store → Res D := mDef 2 ((sRet (mNext (miR2 (mCons (mC (.int 1)) (mCons (mOp fAdd (mC (.int 4)) (mC (.int 1))) mNil))) (gN 1) (mB (mOp (fIs false) (mCall m_fault_of (mCons (mVar 0) (mCons (mVar 1) mNil))) (mC .non))) (mVar 1) [1])))
def m_require_machine : List D → Store → Res D := mDef 1 ((sIf (mB (mOp (fIs false) (mCall m_size_of (mCons (mVar 0) mNil)) (mC .non))) (sRaise "InvalidMachine" "thing" (mCons (mVar 0) mNil)) sNx))
def m_answer : List D → Store → Res D := mDef 2 ((sSeq (sExpr (mCall m_require_machine (mCons (mVar 0) mNil)))
  (sSeq (sIf (mNotT (mB (mCall m_is_row (mCons (mVar 1) (mCons (mCall m_size_of (mCons (mVar 0) mNil)) mNil))))) (sRaise "InvalidRow" "thing" (mCons (mVar 1) mNil)) sNx)
  sNever)))
def m_least_machine : List D → Store → Res D := mDef 16 ((sSeq (sExpr (mCall m_require_machine (mCons (mVar 0) mNil)))
  (sSeq sNever
  (sSeq sNever
  (sSeq sNever
  (sSeq sNever
  (sSeq sNever
  (sSeq sNever
  (sSeq sNever
  (sSeq sNever
  (sSeq sNever
  sNever)))))))))))
def m_machines_parted : List D → Store → Res D := mDef 2 ((sSeq (sExpr (mCall m_require_machine (mCons (mVar 0) mNil)))
  (sSeq (sIf (mB (mOp (fEq2 true) (mCall m_size_of (mCons (mVar 1) mNil)) (mCall m_size_of (mCons (mVar 0) mNil)))) (sRaise "InvalidMachine" "thing" (mCons (mVar 1) mNil)) sNx)
  sNever)))
def m_mapped : List D → Store → Res D := mDef 5 ((sSeq (sExpr (mCall m_require_machine (mCons (mVar 0) mNil)))
  (sSeq (sIf (mOrT (mNotT (mB (mCall m_is_row (mCons (mVar 1) (mCons (mCall m_size_of (mCons (mVar 0) mNil)) mNil))))) (mNotT (mB (mCmpC fLeI fLeI (mC (.int 1)) (mCall fLen (mCons (mVar 1) mNil)) (mC (.int 4)))))) (sRaise "InvalidMap" "thing" (mCons (mVar 1) mNil)) sNx)
  (sSeq sNever
  sNever))))
def m_turned : List D → Store → Res D := mDef 12 ((sSeq (sAsg (mCall m_least_machine (mCons (mVar 0) mNil)) (gN 1))
  (sSeq sNever
  (sSeq sNever
  (sSeq sNever
  (sSeq sNever
  (sSeq sNever
  (sSeq sNever
  sNever))))))))
def m__law_asked : List D → Store → Res D := mDef 5 ((sSeq (sAsg (mC .non) (gN 3))
  (sSeq (sTry tab_LazyError 4 3 (sIfC (mB (mOp (fEq2 false) (mVar 0) (mC (.int 0)))) (sExpr (mCallC m_answer (mCons (mVar 1) (mCons (mVar 2) mNil))))
  (sIfC (mB (mOp (fEq2 false) (mVar 0) (mC (.int 1)))) (sExpr (mCallC (fun ws S => m_least_machine (perm 0 1 [0] [] ws) S) (mCons (mVar 1) mNil)))
  (sIfC (mB (mOp (fEq2 false) (mVar 0) (mC (.int 2)))) (sExpr (mCallC m_machines_parted (mCons (mVar 1) (mCons (mVar 2) mNil))))
  (sIfC (mB (mOp (fEq2 false) (mVar 0) (mC (.int 3)))) (sExpr (mCallC m_mapped (mCons (mVar 1) (mCons (mVar 2) mNil))))
  (sIfC (mB (mOp (fEq2 false) (mVar 0) (mC (.int 4)))) (sExpr (mCallC m_turned (mCons (mVar 1) mNil)))
  (sExpr (mCallC m_check_machine (mCons (mVar 1) (mCons (mVar 2) mNil))))))))))
  (sSeq (sIf (mB (mUn (fIsiE "InvalidMachine" tab_InvalidMachine) (mVar 3))) (sRet (mLst (mCons (mC (.str "machine")) (mCons (mUn (fFldE "thing" ecs_thing) (mVar 3)) mNil)))) sNx)
  (sSeq (sIf (mB (mUn (fIsiE "InvalidRow" tab_InvalidRow) (mVar 3))) (sRet (mLst (mCons (mC (.str "row")) (mCons (mUn (fFldE "thing" ecs_thing) (mVar 3)) mNil)))) sNx)
  (sSeq (sIf (mB (mUn (fIsiE "InvalidMap" tab_InvalidMap) (mVar 3))) (sRet (mLst (mCons (mC (.str "map")) (mCons (mUn (fFldE "thing" ecs_thing) (mVar 3)) mNil)))) sNx)
  (sSeq (sIf (mB (mUn (fIsiE "InvalidSize" tab_InvalidSize) (mVar 3))) (sRet (mLst (mCons (mC (.str "size")) (mCons (mUn (fFldE "size" ecs_size) (mVar 3)) mNil)))) sNx)
  (sRet (mLst (mCons (mC (.str "none")) (mCons (mOp (fIs false) (mVar 3) (mC .non)) mNil)))))))))))
def m__law_doors_right : List D → Store → Res D := mDef 12 ((sSeq (sAsg (mOp fIxD (mLst (mCons (mC .non) (mCons (mC (.int 0)) (mCons (mLst (mCons (mC (.int 0)) mNil)) (mCons (mTup (mCons (mVar 2) mNil)) (mCons (mTup (mCons (mC (.int 0)) (mCons (mUn fNeg (mC (.int 1))) mNil))) (mCons (mTup (mCons (mC (.bl true)) mNil)) (mCons (mC (.str "0")) (mCons (mTup (mCons (mC (.int 0)) (mCons (mC .non) mNil))) (mCons (mTup (mCons (mTup (mCons (mC (.int 0)) mNil)) mNil)) mNil)))))))))) (mCall m__law_draw (mCons (mVar 0) (mCons (mC (.int 9)) mNil)))) (gN 4))
  (sSeq (sFor (miR1 (mCons (mC (.int 5)) mNil)) (gN 5)
  (sIf (mB (mOp (fTw true) (mCall m__law_asked (mCons (mVar 5) (mCons (mVar 3) (mCons (mVar 4) mNil)))) (mLst (mCons (mC (.str "machine")) (mCons (mVar 3) mNil))))) (sRet (mC (.bl false))) sNx))
  (sSeq (sIf (mOrT (mB (mOp (fTw true) (mCall m__law_asked (mCons (mC (.int 0)) (mCons (mVar 1) (mCons (mVar 4) mNil)))) (mLst (mCons (mC (.str "row")) (mCons (mVar 4) mNil))))) (mB (mOp (fTw true) (mCall m__law_asked (mCons (mC (.int 2)) (mCons (mVar 1) (mCons (mVar 3) mNil)))) (mLst (mCons (mC (.str "machine")) (mCons (mVar 3) mNil)))))) (sRet (mC (.bl false))) sNx)
  (sSeq (sAsg (mLst (mCons (mCall m__law_asked (mCons (mC (.int 2)) (mCons (mVar 3) (mCons (mVar 1) mNil)))) (mCons (mCall m__law_asked (mCons (mC (.int 0)) (mCons (mVar 3) (mCons (mTup mNil) mNil)))) (mCons (mCall m__law_asked (mCons (mC (.int 3)) (mCons (mVar 3) (mCons (mTup (mCons (mC (.int 0)) mNil)) mNil)))) mNil)))) (gN 6))
  (sSeq (sIf (mB (mOp (fTw true) (mVar 6) (mOp fMul (mLst (mCons (mLst (mCons (mC (.str "machine")) (mCons (mVar 3) mNil))) mNil)) (mC (.int 3))))) (sRet (mC (.bl false))) sNx)
  (sSeq (sAsg (mOp fAdd (mOp fMul (mTup (mCons (mC (.int 0)) mNil)) (mC (.int 59))) (mTup (mCons (mVar 2) mNil))) (gN 7))
  (sSeq (sIf (mB (mOp (fTw true) (mCall m__law_asked (mCons (mC (.int 0)) (mCons (mVar 1) (mCons (mVar 7) mNil)))) (mLst (mCons (mC (.str "row")) (mCons (mVar 7) mNil))))) (sRet (mC (.bl false))) sNx)
  (sSeq (sFor (miA (mLst (mCons (mVar 4) (mCons (mTup mNil) (mCons (mOp fMul (mTup (mCons (mC (.int 0)) mNil)) (mC (.int 5))) (mCons (mLst (mCons (mC (.int 0)) mNil)) (mCons (mTup (mCons (mC (.int 0)) (mCons (mC (.int 0)) (mCons (mC (.int 0)) (mCons (mVar 2) mNil))))) (mCons (mOp fMul (mTup (mCons (mC (.int 0)) mNil)) (mC (.int 6))) mNil)))))))) (gN 8)
  (sIf (mB (mOp (fTw true) (mCall m__law_asked (mCons (mC (.int 3)) (mCons (mVar 1) (mCons (mVar 8) mNil)))) (mLst (mCons (mC (.str "map")) (mCons (mVar 8) mNil))))) (sRet (mC (.bl false))) sNx))
  (sSeq (sAsg (mCall m__law_machine (mCons (mVar 0) (mCons (mOp fAdd (mC (.int 1)) (mOp fMod (mCall fInt (mCons (mOp fAdd (mVar 2) (mCall m__law_draw (mCons (mVar 0) (mCons (mC (.int 3)) mNil)))) mNil)) (mC (.int 4)))) (mCons (mC (.int 3)) mNil)))) (gN 9))
  (sSeq (sIf (mB (mOp (fTw true) (mCall m__law_asked (mCons (mC (.int 2)) (mCons (mVar 1) (mCons (mVar 9) mNil)))) (mLst (mCons (mC (.str "machine")) (mCons (mVar 9) mNil))))) (sRet (mC (.bl false))) sNx)
  (sSeq (sAsg (mOp fIxD (mLst (mCons (mC .non) (mCons (mC (.int 0)) (mCons (mC (.int 5)) (mCons (mUn fNeg (mC (.int 1))) (mCons (mC (.bl true)) (mCons (mC (.str "2")) (mCons (mTup (mCons (mC (.int 2)) mNil)) (mCons (mLst (mCons (mC (.int 2)) mNil)) mNil))))))))) (mCall m__law_draw (mCons (mVar 0) (mCons (mC (.int 8)) mNil)))) (gN 10))
  (sRet (mOp (fTw false) (mLc (miA (mTup (mCons (mVar 1) (mCons (mVar 3) (mCons (mC .non) mNil))))) (gN 11) mYes (mCall m__law_asked (mCons (mC (.int 5)) (mCons (mVar 11) (mCons (mVar 10) mNil)))) [11]) (mOp fMul (mLst (mCons (mLst (mCons (mC (.str "size")) (mCons (mVar 10) mNil))) mNil)) (mC (.int 3)))))))))))))))))
@[irreducible] def m_law : List D → Store → Res D := mDef 9 ((sSeq (sFor (miR1 (mCons (mOp fAdd (mC (.int 1)) (mCall fMin2 (mCons (mC (.int 6)) (mCons (mCall fLen (mCons (mVar 0) mNil)) mNil)))) mNil)) (gN 1)
  (sSeq (sAsg (mCall m__law_purse (mCons (mVar 0) (mCons (mVar 1) mNil))) (gN 2))
  (sFor (miR1 (mCons (mC (.int 6)) mNil)) (gN 3)
  (sSeq (sAsg (mOp fAdd (mC (.int 1)) (mCall m__law_draw (mCons (mVar 2) (mCons (mC (.int 4)) mNil)))) (gN 4))
  (sSeq (sAsg (mCall m__law_machine (mCons (mVar 2) (mCons (mVar 4) (mCons (mC (.int 4)) mNil)))) (gN 5))
  (sSeq (sAsg (mVar 5) (gN 6))
  (sSeq (sFor (miR1 (mCons (mOp fAdd (mC (.int 1)) (mCall m__law_draw (mCons (mVar 2) (mCons (mC (.int 2)) mNil)))) mNil)) (gN 7)
  (sIf (mAndT (mB (mUn (fIsi "tuple") (mVar 6))) (mB (mOp (fEq2 false) (mCall fLen (mCons (mVar 6) mNil)) (mC (.int 3))))) (sAsg (mCall m__law_bent (mCons (mVar 2) (mCons (mVar 6) mNil))) (gN 6)) sNx))
  (sSeq (sIf (mB (mOp (fEq2 true) (mCall m_check_machine (mCons (mVar 6) (mCons (mVar 4) mNil))) (mCall m__law_due (mCons (mVar 6) (mCons (mVar 4) mNil))))) (sRet (mC (.bl false))) sNx)
  (sIf (mB (mOp (fEq2 false) (mLc (miR2 (mCons (mC (.int 1)) (mCons (mC (.int 5)) mNil))) (gN 8) mYes (mOp (fIs false) (mCall m__law_due (mCons (mVar 6) (mCons (mVar 8) mNil))) (mC .non)) [8]) (mOp fMul (mLst (mCons (mC (.bl false)) mNil)) (mC (.int 4))))) (sIf (mNotT (mB (mCall m__law_doors_right (mCons (mVar 2) (mCons (mVar 5) (mCons (mVar 4) (mCons (mVar 6) mNil))))))) (sRet (mC (.bl false))) sNx) sNx)))))))))
  (sRet (mOp (fEq2 false) (mCall m_check_machine (mCons (mTup (mCons (mC (.int 0)) (mCons (mTup (mCons (mTup (mCons (mC (.int 0)) (mCons (mC (.int 0)) mNil))) (mCons (mTup (mCons (mC (.int 0)) mNil)) mNil))) (mCons (mTup (mCons (mC (.int 0)) (mCons (mC (.int 0)) mNil))) mNil)))) (mCons (mC (.int 2)) mNil))) (mTup (mCons (mC (.str "steps")) (mCons (mC (.int 1)) mNil)))))))
end MM

namespace MM
open PySem PySem.Spec L2 PyProof.Rows
/-! ### the text by places, what is asked of the top -/
def topS (i : Nat) : Stmt := PySem.Challenge.pw_lazytags_k02_machines_checked.main.body.getD i (.Pass ⟨0, 0, 0, 0⟩)
abbrev s__law_purse : Stmt := topS 29
abbrev s__law_mixed : Stmt := topS 28
abbrev s__law_draw : Stmt := topS 30
abbrev s__law_machine : Stmt := topS 31
abbrev s__law_odd : Stmt := topS 38
abbrev s__law_bent_part : Stmt := topS 39
abbrev s__law_bent : Stmt := topS 40
abbrev s_is_integer : Stmt := topS 11
abbrev s_require_size : Stmt := topS 13
abbrev s_is_row : Stmt := topS 12
abbrev s_fault_of : Stmt := topS 14
abbrev s_check_machine : Stmt := topS 15
abbrev s__law_int : Stmt := topS 35
abbrev s__law_ints : Stmt := topS 36
abbrev s__law_due : Stmt := topS 37
abbrev s_size_of : Stmt := topS 16
abbrev s_require_machine : Stmt := topS 17
abbrev s_answer : Stmt := topS 20
abbrev s_least_machine : Stmt := topS 22
abbrev s_machines_parted : Stmt := topS 24
abbrev s_mapped : Stmt := topS 25
abbrev s_turned : Stmt := topS 26
abbrev s__law_asked : Stmt := topS 41
abbrev s__law_doors_right : Stmt := topS 42
abbrev s_law : Stmt := topS 43
structure Bi (mg : Str → Option Value) : Prop where
  b_all : mg "all" = none
  b_bool : mg "bool" = none
  b_enumerate : mg "enumerate" = none
  b_int : mg "int" = none
  b_isinstance : mg "isinstance" = none
  b_len : mg "len" = none
  b_list : mg "list" = none
  b_max : mg "max" = none
  b_min : mg "min" = none
  b_next : mg "next" = none
  b_range : mg "range" = none
  b_tuple : mg "tuple" = none
  c_MOST_ANSWER : ∃ t, mg "MOST_ANSWER" = some (.int 99 t)
  c_MOST_VALUES : ∃ t, mg "MOST_VALUES" = some (.int 4 t)
abbrev s_InvalidMachine__init : Stmt := inClass (topS 3) 0
abbrev s_InvalidMap__init : Stmt := inClass (topS 5) 0
abbrev s_InvalidRow__init : Stmt := inClass (topS 4) 0
abbrev s_InvalidSize__init : Stmt := inClass (topS 2) 0
structure Errs (P : Program) (w : World) (K : PySem.W.Frag) (mg : Str → Option Value) (base : Heap) (C_InvalidMachine C_InvalidMap C_InvalidRow C_InvalidSize C_LazyError : Addr) (fI_InvalidMachine : Addr) (fD_InvalidMachine : FuncData) (fI_InvalidMap : Addr) (fD_InvalidMap : FuncData) (fI_InvalidRow : Addr) (fD_InvalidRow : FuncData) (fI_InvalidSize : Addr) (fD_InvalidSize : FuncData) : Prop where
  mk_InvalidMachine : ErrMk P w K mg base "InvalidMachine" "thing" C_InvalidMachine fI_InvalidMachine fD_InvalidMachine
  mk_InvalidMap : ErrMk P w K mg base "InvalidMap" "thing" C_InvalidMap fI_InvalidMap fD_InvalidMap
  mk_InvalidRow : ErrMk P w K mg base "InvalidRow" "thing" C_InvalidRow fI_InvalidRow fD_InvalidRow
  mk_InvalidSize : ErrMk P w K mg base "InvalidSize" "size" C_InvalidSize fI_InvalidSize fD_InvalidSize
  i_InvalidMachine : IsiE K mg "InvalidMachine" C_InvalidMachine tab_InvalidMachine
  i_InvalidMap : IsiE K mg "InvalidMap" C_InvalidMap tab_InvalidMap
  i_InvalidRow : IsiE K mg "InvalidRow" C_InvalidRow tab_InvalidRow
  i_InvalidSize : IsiE K mg "InvalidSize" C_InvalidSize tab_InvalidSize
  m_LazyError : mg "LazyError" = some (.ref C_LazyError)
  em_LazyError : ExmT K mg (.ref C_LazyError) tab_LazyError
  f_size : ∀ k ∈ ecs_size, ∃ D, ErrK K mg k D ∧ PySem.W.findIn K (.ref D) "size" = some none
  f_thing : ∀ k ∈ ecs_thing, ∃ D, ErrK K mg k D ∧ PySem.W.findIn K (.ref D) "thing" = some none
section
variable {T : List Addr} {P : Program} {w : World} {K : PySem.W.Frag} {mg : Str → Option Value} {base : Heap}
/-! ### _law_purse -/
theorem sc__law_purse : FnScope ["_law_script", "_law_at", "_law_cell"] ["_law_script", "_law_at"] (defScope s__law_purse) := ⟨rfl, rfl, rfl, by decide +kernel, rfl, by decide +kernel, by decide +kernel⟩
theorem ok__law_purse {f : Addr} {fd : FuncData} (D : DefAt K mg "_law_purse" s__law_purse f fd) (B : Bi mg) : Cl T P w K mg base 1 "_law_purse" ["_law_script", "_law_at"] f fd 2 m__law_purse := by
  refine ⟨fn_ok D.F sc__law_purse rfl (fun cdv A outer s H E hr => ?_), D.m, D.F.kp, D.F.binds fun _ _ _ _ _ _ us hl => match us, hl with | [_, _], _ => rfl⟩
  let X := cxOf (L2.CX P w) P w K mg base ["_law_script", "_law_at", "_law_cell"] "_law_purse" (defScope s__law_purse) f cdv A outer s H E
  have tk : Takes X (fun cls d _ H => E cls d H) := takes_of rfl rfl rfl rfl
  have hx : Passes (L2.CX P w) X E := passes_call tk fun _ _ _ _ z => z
  have po : PassesOwn (model P w) X.A X.env X.xe := passes_of rfl
  exact (mss_cons (ms_set (i := 2) sc__law_purse.nd rfl me_int)
      (mss_cons (ms_if (mt_cmp op_lt o_lt (me_var 1) (me_len (by rfl) B.b_len (ma_cons (me_var 0) ma_nil))) (mss_one (ms_set (i := 2) sc__law_purse.nd rfl (me_ixD hr.units (me_var 0) (me_var 1)))) mss_nil)
      (mss_one (ms_ret (me_lstS (ma_cons (me_mod (me_int1 (by rfl) B.b_int (ma_cons (me_max2 rfl (by rfl) B.b_max (ma_cons (me_sub (me_var 2) (me_powW me_int me_int)) (ma_cons me_int ma_nil))) ma_nil)) (me_powW (me_powW me_int me_int) me_int)) (ma_cons (me_mod (me_int1 (by rfl) B.b_int (ma_cons (me_var 2) ma_nil)) me_int) (ma_cons (me_mulA me_int (me_var 1)) ma_nil))))))))
/-! ### _law_mixed -/
theorem sc__law_mixed : FnScope ["_law_cell", "_law_k", "_law_number"] ["_law_cell", "_law_k"] (defScope s__law_mixed) := ⟨rfl, rfl, rfl, by decide +kernel, rfl, by decide +kernel, by decide +kernel⟩
theorem ok__law_mixed {f : Addr} {fd : FuncData} (D : DefAt K mg "_law_mixed" s__law_mixed f fd) (B : Bi mg) : Cl T P w K mg base 1 "_law_mixed" ["_law_cell", "_law_k"] f fd 2 m__law_mixed := by
  refine ⟨fn_ok D.F sc__law_mixed rfl (fun cdv A outer s H E hr => ?_), D.m, D.F.kp, D.F.binds fun _ _ _ _ _ _ us hl => match us, hl with | [_, _], _ => rfl⟩
  let X := cxOf (L2.CX P w) P w K mg base ["_law_cell", "_law_k", "_law_number"] "_law_mixed" (defScope s__law_mixed) f cdv A outer s H E
  have tk : Takes X (fun cls d _ H => E cls d H) := takes_of rfl rfl rfl rfl
  have hx : Passes (L2.CX P w) X E := passes_call tk fun _ _ _ _ z => z
  have po : PassesOwn (model P w) X.A X.env X.xe := passes_of rfl
  exact (mss_cons (ms_set (i := 2) sc__law_mixed.nd rfl (me_mod (me_int1 (by rfl) B.b_int (ma_cons (me_add (me_add (me_add (me_mulA (me_var 0) me_int) (me_mulA (me_mulA me_int (me_var 1)) (me_var 1))) (me_mulA me_int (me_var 1))) me_int) ma_nil)) me_int))
      (mss_one (ms_ret (me_floor (me_mod (me_int1 (by rfl) B.b_int (ma_cons (me_add (me_add (me_mulA (me_var 2) (me_var 2)) (me_mulA me_int (me_var 2))) me_int) ma_nil)) me_int) me_int))))
/-! ### _law_draw -/
theorem sc__law_draw : FnScope ["_law_purse_here", "_law_out_of", "_law_drawn"] ["_law_purse_here", "_law_out_of"] (defScope s__law_draw) := ⟨rfl, rfl, rfl, by decide +kernel, rfl, by decide +kernel, by decide +kernel⟩
theorem ok__law_draw {f : Addr} {fd : FuncData} (D : DefAt K mg "_law_draw" s__law_draw f fd) (B : Bi mg) {f__law_mixed : Addr} {fd__law_mixed : FuncData} (C__law_mixed : Cl T P w K mg base 1 "_law_mixed" ["_law_cell", "_law_k"] f__law_mixed fd__law_mixed 2 m__law_mixed) : Cl T P w K mg base 2 "_law_draw" ["_law_purse_here", "_law_out_of"] f fd 2 m__law_draw := by
  refine ⟨fn_ok D.F sc__law_draw rfl (fun cdv A outer s H E hr => ?_), D.m, D.F.kp, D.F.binds fun _ _ _ _ _ _ us hl => match us, hl with | [_, _], _ => rfl⟩
  let X := cxOf (L2.CX P w) P w K mg base ["_law_purse_here", "_law_out_of", "_law_drawn"] "_law_draw" (defScope s__law_draw) f cdv A outer s H E
  have tk : Takes X (fun cls d _ H => E cls d H) := takes_of rfl rfl rfl rfl
  have hx : Passes (L2.CX P w) X E := passes_call tk fun _ _ _ _ z => z
  have po : PassesOwn (model P w) X.A X.env X.xe := passes_of rfl
  exact (mss_cons (ms_if (mt_cmp op_gt o_gt (me_ixD hr.units (me_var 0) me_int) me_int) (mss_cons (ms_set (i := 2) sc__law_draw.nd rfl (me_mod (me_int1 (by rfl) B.b_int (ma_cons (me_ixD hr.units (me_var 0) me_int) ma_nil)) (me_var 1)))
      (mss_cons (ms_asg (me_floor (me_ixD hr.units (me_var 0) me_int) (me_var 1)) (mg_st hr.units (me_var 0) me_int))
      (mss_one (ms_ret (me_var 2))))) mss_nil)
      (mss_cons (ms_asg (me_add (me_ixD hr.units (me_var 0) me_int) me_int) (mg_st hr.units (me_var 0) me_int))
      (mss_one (ms_ret (me_mod (me_int1 (by rfl) B.b_int (ma_cons (me_call C__law_mixed.ok (hr.mono (by decide)) (by rfl) C__law_mixed.m C__law_mixed.kp C__law_mixed.b hx (ma_cons (me_ixD hr.units (me_var 0) me_int) (ma_cons (me_ixD hr.units (me_var 0) me_int) ma_nil))) ma_nil)) (me_var 1))))))
/-! ### _law_machine -/
theorem sc__law_machine : FnScope ["_law_purse_here", "_law_size", "_law_most", "_law_many", "_law_steps", "_law_few", "_law_state", "_law_value"] ["_law_purse_here", "_law_size", "_law_most"] (defScope s__law_machine) := ⟨rfl, rfl, rfl, by decide +kernel, rfl, by decide +kernel, by decide +kernel⟩
theorem ok__law_machine {f : Addr} {fd : FuncData} (D : DefAt K mg "_law_machine" s__law_machine f fd) (B : Bi mg) {f__law_draw : Addr} {fd__law_draw : FuncData} (C__law_draw : Cl T P w K mg base 2 "_law_draw" ["_law_purse_here", "_law_out_of"] f__law_draw fd__law_draw 2 m__law_draw) : Cl T P w K mg base 3 "_law_machine" ["_law_purse_here", "_law_size", "_law_most"] f fd 3 m__law_machine := by
  refine ⟨fn_ok D.F sc__law_machine rfl (fun cdv A outer s H E hr => ?_), D.m, D.F.kp, D.F.binds fun _ _ _ _ _ _ us hl => match us, hl with | [_, _, _], _ => rfl⟩
  let X := cxOf (L2.CX P w) P w K mg base ["_law_purse_here", "_law_size", "_law_most", "_law_many", "_law_steps", "_law_few", "_law_state", "_law_value"] "_law_machine" (defScope s__law_machine) f cdv A outer s H E
  have tk : Takes X (fun cls d _ H => E cls d H) := takes_of rfl rfl rfl rfl
  have hx : Passes (L2.CX P w) X E := passes_call tk fun _ _ _ _ z => z
  have po : PassesOwn (model P w) X.A X.env X.xe := passes_of rfl
  exact (mss_cons (ms_set (i := 3) sc__law_machine.nd rfl (me_add me_int (me_call C__law_draw.ok (hr.mono (by decide)) (by rfl) C__law_draw.m C__law_draw.kp C__law_draw.b hx (ma_cons (me_var 0) (ma_cons (me_var 2) ma_nil)))))
      (mss_cons (ms_set (i := 4) sc__law_machine.nd rfl (me_tuple (by rfl) B.b_tuple (ma_cons (me_lc (own := [("_law_state", 6)]) rfl sc__law_machine.nd (mi_range1 (by rfl) B.b_range (ma_cons (me_var 3) ma_nil)) (by kernel_rfl) ⟨fun _ _ _ _ _ => (mgc_name (i := 6) sc__law_machine.nd rfl (by decide)), fun _ _ _ _ _ => mts_nil, fun _ _ _ _ _ => (me_tuple (by rfl) B.b_tuple (ma_cons (me_lc (own := [("_law_value", 7)]) rfl sc__law_machine.nd (mi_range1 (by rfl) B.b_range (ma_cons (me_var 1) ma_nil)) (by kernel_rfl) ⟨fun _ _ _ _ _ => (mgc_name (i := 7) sc__law_machine.nd rfl (by decide)), fun _ _ _ _ _ => mts_nil, fun _ _ _ _ _ => (me_call C__law_draw.ok (hr.mono (by decide)) (by rfl) C__law_draw.m C__law_draw.kp C__law_draw.b passL (ma_cons (me_var 0) (ma_cons (me_var 3) ma_nil)))⟩) ma_nil))⟩) ma_nil)))
      (mss_cons (ms_set (i := 5) sc__law_machine.nd rfl (me_ixD hr.units (me_lst (ma_cons me_int (ma_cons me_int (ma_cons me_int (ma_cons me_int ma_nil))))) (me_call C__law_draw.ok (hr.mono (by decide)) (by rfl) C__law_draw.m C__law_draw.kp C__law_draw.b hx (ma_cons (me_var 0) (ma_cons me_int ma_nil)))))
      (mss_one (ms_ret (me_tup (ma_cons (me_call C__law_draw.ok (hr.mono (by decide)) (by rfl) C__law_draw.m C__law_draw.kp C__law_draw.b hx (ma_cons (me_var 0) (ma_cons (me_var 3) ma_nil))) (ma_cons (me_var 4) (ma_cons (me_tuple (by rfl) B.b_tuple (ma_cons (me_lc (own := [("_law_state", 6)]) rfl sc__law_machine.nd (mi_range1 (by rfl) B.b_range (ma_cons (me_var 3) ma_nil)) (by kernel_rfl) ⟨fun _ _ _ _ _ => (mgc_name (i := 6) sc__law_machine.nd rfl (by decide)), fun _ _ _ _ _ => mts_nil, fun _ _ _ _ _ => (me_call C__law_draw.ok (hr.mono (by decide)) (by rfl) C__law_draw.m C__law_draw.kp C__law_draw.b passL (ma_cons (me_var 0) (ma_cons (me_var 5) ma_nil)))⟩) ma_nil)) ma_nil)))))))))
/-! ### _law_odd -/
theorem sc__law_odd : FnScope ["_law_purse_here", "_law_many", "_law_odd_here"] ["_law_purse_here", "_law_many"] (defScope s__law_odd) := ⟨rfl, rfl, rfl, by decide +kernel, rfl, by decide +kernel, by decide +kernel⟩
theorem ok__law_odd {f : Addr} {fd : FuncData} (D : DefAt K mg "_law_odd" s__law_odd f fd) (B : Bi mg) {f__law_draw : Addr} {fd__law_draw : FuncData} (C__law_draw : Cl T P w K mg base 2 "_law_draw" ["_law_purse_here", "_law_out_of"] f__law_draw fd__law_draw 2 m__law_draw) : Cl T P w K mg base 3 "_law_odd" ["_law_purse_here", "_law_many"] f fd 2 m__law_odd := by
  refine ⟨fn_ok D.F sc__law_odd rfl (fun cdv A outer s H E hr => ?_), D.m, D.F.kp, D.F.binds fun _ _ _ _ _ _ us hl => match us, hl with | [_, _], _ => rfl⟩
  let X := cxOf (L2.CX P w) P w K mg base ["_law_purse_here", "_law_many", "_law_odd_here"] "_law_odd" (defScope s__law_odd) f cdv A outer s H E
  have tk : Takes X (fun cls d _ H => E cls d H) := takes_of rfl rfl rfl rfl
  have hx : Passes (L2.CX P w) X E := passes_call tk fun _ _ _ _ z => z
  have po : PassesOwn (model P w) X.A X.env X.xe := passes_of rfl
  exact (mss_cons (ms_set (i := 2) sc__law_odd.nd rfl (me_lst (ma_cons me_non (ma_cons me_bl (ma_cons me_str (ma_cons (me_neg me_int) (ma_cons (me_var 1) (ma_cons me_int (ma_cons (me_tup ma_nil) (ma_cons (me_lst ma_nil) (ma_cons (me_tup (ma_cons me_int ma_nil)) (ma_cons me_dct0 (ma_cons (me_powW me_int me_int) (ma_cons (me_sub (me_var 1) me_int) (ma_cons me_int (ma_cons me_bl (ma_cons (me_lst (ma_cons me_int ma_nil)) (ma_cons me_int ma_nil))))))))))))))))))
      (mss_one (ms_ret (me_ixD hr.units (me_var 2) (me_call C__law_draw.ok (hr.mono (by decide)) (by rfl) C__law_draw.m C__law_draw.kp C__law_draw.b hx (ma_cons (me_var 0) (ma_cons me_int ma_nil)))))))
/-! ### _law_bent_part -/
theorem sc__law_bent_part : FnScope ["_law_purse_here", "_law_row_here", "_law_way", "_law_at", "_law_place"] ["_law_purse_here", "_law_row_here", "_law_way"] (defScope s__law_bent_part) := ⟨rfl, rfl, rfl, by decide +kernel, rfl, by decide +kernel, by decide +kernel⟩
theorem ok__law_bent_part {f : Addr} {fd : FuncData} (D : DefAt K mg "_law_bent_part" s__law_bent_part f fd) (B : Bi mg) {f__law_draw : Addr} {fd__law_draw : FuncData} (C__law_draw : Cl T P w K mg base 2 "_law_draw" ["_law_purse_here", "_law_out_of"] f__law_draw fd__law_draw 2 m__law_draw) {f__law_odd : Addr} {fd__law_odd : FuncData} (C__law_odd : Cl T P w K mg base 3 "_law_odd" ["_law_purse_here", "_law_many"] f__law_odd fd__law_odd 2 m__law_odd) : Cl T P w K mg base 4 "_law_bent_part" ["_law_purse_here", "_law_row_here", "_law_way"] f fd 3 m__law_bent_part := by
  refine ⟨fn_ok D.F sc__law_bent_part rfl (fun cdv A outer s H E hr => ?_), D.m, D.F.kp, D.F.binds fun _ _ _ _ _ _ us hl => match us, hl with | [_, _, _], _ => rfl⟩
  let X := cxOf (L2.CX P w) P w K mg base ["_law_purse_here", "_law_row_here", "_law_way", "_law_at", "_law_place"] "_law_bent_part" (defScope s__law_bent_part) f cdv A outer s H E
  have tk : Takes X (fun cls d _ H => E cls d H) := takes_of rfl rfl rfl rfl
  have hx : Passes (L2.CX P w) X E := passes_call tk fun _ _ _ _ z => z
  have po : PassesOwn (model P w) X.A X.env X.xe := passes_of rfl
  exact (mss_cons (ms_set (i := 1) sc__law_bent_part.nd rfl (me_listS rfl (by rfl) B.b_list (ma_cons (me_var 1) ma_nil)))
      (mss_cons (ms_set (i := 3) sc__law_bent_part.nd rfl (me_call C__law_draw.ok (hr.mono (by decide)) (by rfl) C__law_draw.m C__law_draw.kp C__law_draw.b hx (ma_cons (me_var 0) (ma_cons (me_len (by rfl) B.b_len (ma_cons (me_var 1) ma_nil)) ma_nil))))
      (mss_cons (ms_if (mw_pt (mw_and (mt_cmp (op_eqD hr.units) o_eq2 (me_var 2) me_int) (mw_and (mt_val (me_isi (by rfl) B.b_isinstance (by rfl) B.b_tuple (by decide +kernel) (me_ixD hr.units (me_var 1) (me_var 3)))) (mw_and1 (mt_cmp (op_emNe hr.units) o_em (me_ixD hr.units (me_var 1) (me_var 3)) (me_tup ma_nil)))))) (mss_cons (ms_set (i := 4) sc__law_bent_part.nd rfl (me_call C__law_draw.ok (hr.mono (by decide)) (by rfl) C__law_draw.m C__law_draw.kp C__law_draw.b hx (ma_cons (me_var 0) (ma_cons (me_len (by rfl) B.b_len (ma_cons (me_ixD hr.units (me_var 1) (me_var 3)) ma_nil)) ma_nil))))
      (mss_one (ms_asg (me_add (me_add (me_sl (me_ixD hr.units (me_var 1) (me_var 3)) mo_none (mo_some (me_var 4))) (me_tup (ma_cons (me_call C__law_odd.ok (hr.mono (by decide)) (by rfl) C__law_odd.m C__law_odd.kp C__law_odd.b hx (ma_cons (me_var 0) (ma_cons (me_len (by rfl) B.b_len (ma_cons (me_var 1) ma_nil)) ma_nil))) ma_nil))) (me_sl (me_ixD hr.units (me_var 1) (me_var 3)) (mo_some (me_add (me_var 4) me_int)) mo_none)) (mg_st hr.units (me_var 1) (me_var 3))))) (mss_one (ms_if (mt_cmp (op_eqD hr.units) o_eq2 (me_var 2) me_int) (mss_one (ms_asg (me_call C__law_odd.ok (hr.mono (by decide)) (by rfl) C__law_odd.m C__law_odd.kp C__law_odd.b hx (ma_cons (me_var 0) (ma_cons (me_len (by rfl) B.b_len (ma_cons (me_var 1) ma_nil)) ma_nil))) (mg_st hr.units (me_var 1) (me_var 3)))) (mss_one (ms_if (mt_cmp (op_eqD hr.units) o_eq2 (me_var 2) me_int) (mss_one (ms_set (i := 1) sc__law_bent_part.nd rfl (me_add (me_sl (me_var 1) mo_none (mo_some (me_var 3))) (me_sl (me_var 1) (mo_some (me_add (me_var 3) me_int)) mo_none)))) (mss_one (ms_if (mt_cmp (op_eqD hr.units) o_eq2 (me_var 2) me_int) (mss_one (ms_set (i := 1) sc__law_bent_part.nd rfl (me_catL (me_var 1) (me_lst (ma_cons (me_ixD hr.units (me_var 1) (me_var 3)) ma_nil))))) (mss_one (ms_if (mt_val (me_isi (by rfl) B.b_isinstance (by rfl) B.b_tuple (by decide +kernel) (me_ixD hr.units (me_var 1) (me_var 3)))) (mss_one (ms_asg (me_ixD hr.units (me_lst (ma_cons (me_sl (me_ixD hr.units (me_var 1) (me_var 3)) (mo_some me_int) mo_none) (ma_cons (me_add (me_ixD hr.units (me_var 1) (me_var 3)) (me_sl (me_ixD hr.units (me_var 1) (me_var 3)) mo_none (mo_some me_int))) (ma_cons (me_list rfl (by rfl) B.b_list (ma_cons (me_ixD hr.units (me_var 1) (me_var 3)) ma_nil)) (ma_cons (me_mul0 (me_ixD hr.units (me_var 1) (me_var 3)) me_int) ma_nil))))) (me_call C__law_draw.ok (hr.mono (by decide)) (by rfl) C__law_draw.m C__law_draw.kp C__law_draw.b hx (ma_cons (me_var 0) (ma_cons me_int ma_nil)))) (mg_st hr.units (me_var 1) (me_var 3)))) mss_nil)))))))))
      (mss_one (ms_ret (me_ixD hr.units (me_lst (ma_cons (me_tuple (by rfl) B.b_tuple (ma_cons (me_var 1) ma_nil)) (ma_cons (me_var 1) ma_nil))) (me_int1 (by rfl) B.b_int (ma_cons (me_cmp (op_eqD hr.units) o_eq2 (me_call C__law_draw.ok (hr.mono (by decide)) (by rfl) C__law_draw.m C__law_draw.kp C__law_draw.b hx (ma_cons (me_var 0) (ma_cons me_int ma_nil))) me_int) ma_nil))))))))
/-! ### _law_bent -/
theorem sc__law_bent : FnScope ["_law_purse_here", "_law_thing", "_law_parts", "_law_way", "_law_which", "_law_whole"] ["_law_purse_here", "_law_thing"] (defScope s__law_bent) := ⟨rfl, rfl, rfl, by decide +kernel, rfl, by decide +kernel, by decide +kernel⟩
theorem ok__law_bent {f : Addr} {fd : FuncData} (D : DefAt K mg "_law_bent" s__law_bent f fd) (B : Bi mg) {f__law_bent_part : Addr} {fd__law_bent_part : FuncData} (C__law_bent_part : Cl T P w K mg base 4 "_law_bent_part" ["_law_purse_here", "_law_row_here", "_law_way"] f__law_bent_part fd__law_bent_part 3 m__law_bent_part) {f__law_draw : Addr} {fd__law_draw : FuncData} (C__law_draw : Cl T P w K mg base 2 "_law_draw" ["_law_purse_here", "_law_out_of"] f__law_draw fd__law_draw 2 m__law_draw) {f__law_odd : Addr} {fd__law_odd : FuncData} (C__law_odd : Cl T P w K mg base 3 "_law_odd" ["_law_purse_here", "_law_many"] f__law_odd fd__law_odd 2 m__law_odd) : Cl T P w K mg base 5 "_law_bent" ["_law_purse_here", "_law_thing"] f fd 2 m__law_bent := by
  refine ⟨fn_ok D.F sc__law_bent rfl (fun cdv A outer s H E hr => ?_), D.m, D.F.kp, D.F.binds fun _ _ _ _ _ _ us hl => match us, hl with | [_, _], _ => rfl⟩
  let X := cxOf (L2.CX P w) P w K mg base ["_law_purse_here", "_law_thing", "_law_parts", "_law_way", "_law_which", "_law_whole"] "_law_bent" (defScope s__law_bent) f cdv A outer s H E
  have tk : Takes X (fun cls d _ H => E cls d H) := takes_of rfl rfl rfl rfl
  have hx : Passes (L2.CX P w) X E := passes_call tk fun _ _ _ _ z => z
  have po : PassesOwn (model P w) X.A X.env X.xe := passes_of rfl
  exact (mss_cons (ms_set (i := 2) sc__law_bent.nd rfl (me_listS rfl (by rfl) B.b_list (ma_cons (me_var 1) ma_nil)))
      (mss_cons (ms_set (i := 3) sc__law_bent.nd rfl (me_call C__law_draw.ok (hr.mono (by decide)) (by rfl) C__law_draw.m C__law_draw.kp C__law_draw.b hx (ma_cons (me_var 0) (ma_cons me_int ma_nil))))
      (mss_cons (ms_set (i := 4) sc__law_bent.nd rfl (me_add me_int (me_call C__law_draw.ok (hr.mono (by decide)) (by rfl) C__law_draw.m C__law_draw.kp C__law_draw.b hx (ma_cons (me_var 0) (ma_cons me_int ma_nil)))))
      (mss_cons (ms_if (mw_pt (mw_and (mt_cmp op_lt o_lt (me_var 3) me_int) (mw_and (mt_val (me_isi (by rfl) B.b_isinstance (by rfl) B.b_tuple (by decide +kernel) (me_ixD hr.units (me_var 2) (me_var 4)))) (mw_and1 (mt_cmp (op_emNe hr.units) o_em (me_ixD hr.units (me_var 2) (me_var 4)) (me_tup ma_nil)))))) (mss_cons (ms_asg (me_call C__law_bent_part.ok (hr.mono (by decide)) (by rfl) C__law_bent_part.m C__law_bent_part.kp C__law_bent_part.b hx (ma_cons (me_var 0) (ma_cons (me_ixD hr.units (me_var 2) (me_var 4)) (ma_cons (me_var 3) ma_nil)))) (mg_st hr.units (me_var 2) (me_var 4)))
      (mss_one (ms_ret (me_tuple (by rfl) B.b_tuple (ma_cons (me_var 2) ma_nil))))) mss_nil)
      (mss_cons (ms_if (mt_cmp op_lt o_lt (me_var 3) me_int) (mss_cons (ms_set (i := 4) sc__law_bent.nd rfl (me_call C__law_draw.ok (hr.mono (by decide)) (by rfl) C__law_draw.m C__law_draw.kp C__law_draw.b hx (ma_cons (me_var 0) (ma_cons me_int ma_nil))))
      (mss_cons (ms_asg (me_call C__law_odd.ok (hr.mono (by decide)) (by rfl) C__law_odd.m C__law_odd.kp C__law_odd.b hx (ma_cons (me_var 0) (ma_cons (me_if (mt_val (me_isi (by rfl) B.b_isinstance (by rfl) B.b_tuple (by decide +kernel) (me_ixD hr.units (me_var 2) me_int))) (me_len (by rfl) B.b_len (ma_cons (me_ixD hr.units (me_var 2) me_int) ma_nil)) me_int) ma_nil))) (mg_st hr.units (me_var 2) (me_var 4)))
      (mss_one (ms_ret (me_tuple (by rfl) B.b_tuple (ma_cons (me_var 2) ma_nil)))))) mss_nil)
      (mss_cons (ms_set (i := 5) sc__law_bent.nd rfl (me_lst (ma_cons (me_tuple (by rfl) B.b_tuple (ma_cons (me_sl (me_var 2) mo_none (mo_some me_int)) ma_nil)) (ma_cons (me_tuple (by rfl) B.b_tuple (ma_cons (me_catL (me_var 2) (me_lst (ma_cons me_int ma_nil))) ma_nil)) (ma_cons (me_var 2) (ma_cons me_non (ma_cons (me_tup ma_nil) (ma_cons me_str (ma_cons me_int (ma_cons (me_disp (mps_cons me_str me_int mps_nil)) ma_nil))))))))))
      (mss_one (ms_ret (me_ixD hr.units (me_add (me_var 5) (me_lst (ma_cons (me_tup (ma_cons (me_ixD hr.units (me_var 2) me_int) (ma_cons (me_ixD hr.units (me_var 2) me_int) (ma_cons (me_ixD hr.units (me_var 2) me_int) ma_nil)))) ma_nil))) (me_call C__law_draw.ok (hr.mono (by decide)) (by rfl) C__law_draw.m C__law_draw.kp C__law_draw.b hx (ma_cons (me_var 0) (ma_cons me_int ma_nil))))))))))))
/-! ### is_integer -/
theorem sc_is_integer : FnScope ["thing", "low", "high"] ["thing", "low", "high"] (defScope s_is_integer) := ⟨rfl, rfl, rfl, by decide +kernel, rfl, by decide +kernel, by decide +kernel⟩
theorem ok_is_integer {f : Addr} {fd : FuncData} (D : DefAt K mg "is_integer" s_is_integer f fd) (B : Bi mg) : Cl T P w K mg base 1 "is_integer" ["thing", "low", "high"] f fd 3 m_is_integer := by
  refine ⟨fn_ok D.F sc_is_integer rfl (fun cdv A outer s H E hr => ?_), D.m, D.F.kp, D.F.binds fun _ _ _ _ _ _ us hl => match us, hl with | [_, _, _], _ => rfl⟩
  let X := cxOf (L2.CX P w) P w K mg base ["thing", "low", "high"] "is_integer" (defScope s_is_integer) f cdv A outer s H E
  have tk : Takes X (fun cls d _ H => E cls d H) := takes_of rfl rfl rfl rfl
  have hx : Passes (L2.CX P w) X E := passes_call tk fun _ _ _ _ z => z
  have po : PassesOwn (model P w) X.A X.env X.xe := passes_of rfl
  exact (mss_one (ms_ret (me_and (me_isi (by rfl) B.b_isinstance (by rfl) B.b_int (by decide +kernel) (me_var 0)) (me_and (me_not (me_isi (by rfl) B.b_isinstance (by rfl) B.b_bool (by decide +kernel) (me_var 0))) (me_one (me_chain op_le o_le op_le o_le (me_var 1) (me_var 0) (me_var 2)))))))
/-! ### require_size -/
theorem sc_require_size : FnScope ["size"] ["size"] (defScope s_require_size) := ⟨rfl, rfl, rfl, by decide +kernel, rfl, by decide +kernel, by decide +kernel⟩
theorem ok_require_size {f : Addr} {fd : FuncData} (D : DefAt K mg "require_size" s_require_size f fd) (B : Bi mg) {f_is_integer : Addr} {fd_is_integer : FuncData} (C_is_integer : Cl T P w K mg base 1 "is_integer" ["thing", "low", "high"] f_is_integer fd_is_integer 3 m_is_integer) {C_InvalidMachine C_InvalidMap C_InvalidRow C_InvalidSize C_LazyError : Addr} {fI_InvalidMachine : Addr} {fD_InvalidMachine : FuncData} {fI_InvalidMap : Addr} {fD_InvalidMap : FuncData} {fI_InvalidRow : Addr} {fD_InvalidRow : FuncData} {fI_InvalidSize : Addr} {fD_InvalidSize : FuncData} (EE : Errs P w K mg base C_InvalidMachine C_InvalidMap C_InvalidRow C_InvalidSize C_LazyError fI_InvalidMachine fD_InvalidMachine fI_InvalidMap fD_InvalidMap fI_InvalidRow fD_InvalidRow fI_InvalidSize fD_InvalidSize) : Cl T P w K mg base 3 "require_size" ["size"] f fd 1 m_require_size := by
  refine ⟨fn_ok D.F sc_require_size rfl (fun cdv A outer s H E hr => ?_), D.m, D.F.kp, D.F.binds fun _ _ _ _ _ _ us hl => match us, hl with | [_], _ => rfl⟩
  let X := cxOf (L2.CX P w) P w K mg base ["size"] "require_size" (defScope s_require_size) f cdv A outer s H E
  have tk : Takes X (fun cls d _ H => E cls d H) := takes_of rfl rfl rfl rfl
  have hx : Passes (L2.CX P w) X E := passes_call tk fun _ _ _ _ z => z
  have po : PassesOwn (model P w) X.A X.env X.xe := passes_of rfl
  exact (mss_one (ms_if (mt_not (mt_val (me_call C_is_integer.ok (hr.mono (by decide)) (by rfl) C_is_integer.m C_is_integer.kp C_is_integer.b hx (ma_cons (me_var 0) (ma_cons me_int (ma_cons (me_gint (by rfl) B.c_MOST_VALUES.choose_spec) ma_nil)))))) (mss_one (ms_raise rfl tk EE.mk_InvalidSize (hr.mono (by decide)) (by rfl) ((ma_cons (me_var 0) ma_nil)).1 (passes_call tk fun _ _ _ _ z => False.elim z))) mss_nil))
/-! ### is_row -/
theorem sc_is_row : FnScope ["thing", "size", "value"] ["thing", "size"] (defScope s_is_row) := ⟨rfl, rfl, rfl, by decide +kernel, rfl, by decide +kernel, by decide +kernel⟩
theorem ok_is_row {f : Addr} {fd : FuncData} (D : DefAt K mg "is_row" s_is_row f fd) (B : Bi mg) {f_is_integer : Addr} {fd_is_integer : FuncData} (C_is_integer : Cl T P w K mg base 1 "is_integer" ["thing", "low", "high"] f_is_integer fd_is_integer 3 m_is_integer) : Cl T P w K mg base 2 "is_row" ["thing", "size"] f fd 2 m_is_row := by
  refine ⟨fn_ok D.F sc_is_row rfl (fun cdv A outer s H E hr => ?_), D.m, D.F.kp, D.F.binds fun _ _ _ _ _ _ us hl => match us, hl with | [_, _], _ => rfl⟩
  let X := cxOf (L2.CX P w) P w K mg base ["thing", "size", "value"] "is_row" (defScope s_is_row) f cdv A outer s H E
  have tk : Takes X (fun cls d _ H => E cls d H) := takes_of rfl rfl rfl rfl
  have hx : Passes (L2.CX P w) X E := passes_call tk fun _ _ _ _ z => z
  have po : PassesOwn (model P w) X.A X.env X.xe := passes_of rfl
  exact (mss_one (ms_ret (me_and (me_isi (by rfl) B.b_isinstance (by rfl) B.b_tuple (by decide +kernel) (me_var 0)) (me_one (me_all rfl (by rfl) B.b_all (ma_cons (me_lc (own := [("value", 2)]) rfl sc_is_row.nd (mi_any (me_var 0)) (by kernel_rfl) ⟨fun _ _ _ _ _ => (mgc_name (i := 2) sc_is_row.nd rfl (by decide)), fun _ _ _ _ _ => mts_nil, fun _ _ _ _ _ => (me_call C_is_integer.ok (hr.mono (by decide)) (by rfl) C_is_integer.m C_is_integer.kp C_is_integer.b passL (ma_cons (me_var 2) (ma_cons me_int (ma_cons (me_sub (me_var 1) me_int) ma_nil))))⟩) ma_nil))))))
/-! ### fault_of -/
theorem sc_fault_of : FnScope ["thing", "size", "start", "steps", "answers", "k", "row", "one"] ["thing", "size"] (defScope s_fault_of) := ⟨rfl, rfl, rfl, by decide +kernel, rfl, by decide +kernel, by decide +kernel⟩
theorem ok_fault_of {f : Addr} {fd : FuncData} (D : DefAt K mg "fault_of" s_fault_of f fd) (B : Bi mg) {f_is_integer : Addr} {fd_is_integer : FuncData} (C_is_integer : Cl T P w K mg base 1 "is_integer" ["thing", "low", "high"] f_is_integer fd_is_integer 3 m_is_integer) {f_is_row : Addr} {fd_is_row : FuncData} (C_is_row : Cl T P w K mg base 2 "is_row" ["thing", "size"] f_is_row fd_is_row 2 m_is_row) : Cl T P w K mg base 3 "fault_of" ["thing", "size"] f fd 2 m_fault_of := by
  refine ⟨fn_ok D.F sc_fault_of rfl (fun cdv A outer s H E hr => ?_), D.m, D.F.kp, D.F.binds fun _ _ _ _ _ _ us hl => match us, hl with | [_, _], _ => rfl⟩
  let X := cxOf (L2.CX P w) P w K mg base ["thing", "size", "start", "steps", "answers", "k", "row", "one"] "fault_of" (defScope s_fault_of) f cdv A outer s H E
  have tk : Takes X (fun cls d _ H => E cls d H) := takes_of rfl rfl rfl rfl
  have hx : Passes (L2.CX P w) X E := passes_call tk fun _ _ _ _ z => z
  have po : PassesOwn (model P w) X.A X.env X.xe := passes_of rfl
  exact (mss_cons (ms_if (mw_pt (mw_or (mt_not (mt_val (me_isi (by rfl) B.b_isinstance (by rfl) B.b_tuple (by decide +kernel) (me_var 0)))) (mw_or1 (mt_cmp (op_neD hr.units) o_ne2 (me_len (by rfl) B.b_len (ma_cons (me_var 0) ma_nil)) me_int)))) (mss_one (ms_ret (me_tup (ma_cons me_str ma_nil)))) mss_nil)
      (mss_cons (ms_asg (me_var 0) (mg_tupA rfl (mgs_cons (mg_name (i := 2) sc_fault_of.nd rfl) (mgs_cons (mg_name (i := 3) sc_fault_of.nd rfl) (mgs_cons (mg_name (i := 4) sc_fault_of.nd rfl) mgs_nil)))))
      (mss_cons (ms_if (mw_pt (mw_or (mt_not (mt_val (me_isi (by rfl) B.b_isinstance (by rfl) B.b_tuple (by decide +kernel) (me_var 3)))) (mw_or (mt_not (mt_val (me_isi (by rfl) B.b_isinstance (by rfl) B.b_tuple (by decide +kernel) (me_var 4)))) (mw_or (mt_cmp (op_emEq hr.units) o_em (me_var 3) (me_tup ma_nil)) (mw_or1 (mt_cmp (op_emEq hr.units) o_em (me_var 4) (me_tup ma_nil))))))) (mss_one (ms_ret (me_tup (ma_cons me_str ma_nil)))) mss_nil)
      (mss_cons (ms_for po rfl (mi_enum2 (by rfl) B.b_enumerate (ma_cons (me_var 3) ma_nil)) (mg_tupA rfl (mgs_cons (mg_name (i := 5) sc_fault_of.nd rfl) (mgs_cons (mg_name (i := 6) sc_fault_of.nd rfl) mgs_nil))) (mss_one (ms_if (mw_pt (mw_or (mt_not (mt_val (me_call C_is_row.ok (hr.mono (by decide)) (by rfl) C_is_row.m C_is_row.kp C_is_row.b hx (ma_cons (me_var 6) (ma_cons (me_len (by rfl) B.b_len (ma_cons (me_var 3) ma_nil)) ma_nil))))) (mw_or1 (mt_cmp (op_neD hr.units) o_ne2 (me_len (by rfl) B.b_len (ma_cons (me_var 6) ma_nil)) (me_var 1))))) (mss_one (ms_ret (me_tup (ma_cons me_str (ma_cons (me_var 5) ma_nil))))) mss_nil)))
      (mss_cons (ms_if (mw_pt (mw_or (mt_cmp (op_neD hr.units) o_ne2 (me_len (by rfl) B.b_len (ma_cons (me_var 4) ma_nil)) (me_len (by rfl) B.b_len (ma_cons (me_var 3) ma_nil))) (mw_or1 (mt_not (mt_val (me_all rfl (by rfl) B.b_all (ma_cons (me_lc (own := [("one", 7)]) rfl sc_fault_of.nd (mi_any (me_var 4)) (by kernel_rfl) ⟨fun _ _ _ _ _ => (mgc_name (i := 7) sc_fault_of.nd rfl (by decide)), fun _ _ _ _ _ => mts_nil, fun _ _ _ _ _ => (me_call C_is_integer.ok (hr.mono (by decide)) (by rfl) C_is_integer.m C_is_integer.kp C_is_integer.b passL (ma_cons (me_var 7) (ma_cons me_int (ma_cons (me_gint (by rfl) B.c_MOST_ANSWER.choose_spec) ma_nil))))⟩) ma_nil))))))) (mss_one (ms_ret (me_tup (ma_cons me_str ma_nil)))) mss_nil)
      (mss_one (ms_ret (me_if (mt_val (me_call C_is_integer.ok (hr.mono (by decide)) (by rfl) C_is_integer.m C_is_integer.kp C_is_integer.b hx (ma_cons (me_var 2) (ma_cons me_int (ma_cons (me_sub (me_len (by rfl) B.b_len (ma_cons (me_var 3) ma_nil)) me_int) ma_nil))))) me_non (me_tup (ma_cons me_str ma_nil))))))))))
/-! ### check_machine -/
theorem sc_check_machine : FnScope ["thing", "size"] ["thing", "size"] (defScope s_check_machine) := ⟨rfl, rfl, rfl, by decide +kernel, rfl, by decide +kernel, by decide +kernel⟩
theorem ok_check_machine {f : Addr} {fd : FuncData} (D : DefAt K mg "check_machine" s_check_machine f fd) (B : Bi mg) {f_fault_of : Addr} {fd_fault_of : FuncData} (C_fault_of : Cl T P w K mg base 3 "fault_of" ["thing", "size"] f_fault_of fd_fault_of 2 m_fault_of) {f_require_size : Addr} {fd_require_size : FuncData} (C_require_size : Cl T P w K mg base 3 "require_size" ["size"] f_require_size fd_require_size 1 m_require_size) : Cl T P w K mg base 4 "check_machine" ["thing", "size"] f fd 2 m_check_machine := by
  refine ⟨fn_ok D.F sc_check_machine rfl (fun cdv A outer s H E hr => ?_), D.m, D.F.kp, D.F.binds fun _ _ _ _ _ _ us hl => match us, hl with | [_, _], _ => rfl⟩
  let X := cxOf (L2.CX P w) P w K mg base ["thing", "size"] "check_machine" (defScope s_check_machine) f cdv A outer s H E
  have tk : Takes X (fun cls d _ H => E cls d H) := takes_of rfl rfl rfl rfl
  have hx : Passes (L2.CX P w) X E := passes_call tk fun _ _ _ _ z => z
  have po : PassesOwn (model P w) X.A X.env X.xe := passes_of rfl
  exact (mss_cons (ms_expr (me_call C_require_size.ok (hr.mono (by decide)) (by rfl) C_require_size.m C_require_size.kp C_require_size.b hx (ma_cons (me_var 1) ma_nil)))
      (mss_one (ms_ret (me_call C_fault_of.ok (hr.mono (by decide)) (by rfl) C_fault_of.m C_fault_of.kp C_fault_of.b hx (ma_cons (me_var 0) (ma_cons (me_var 1) ma_nil))))))
/-! ### _law_int -/
theorem sc__law_int : FnScope ["_law_thing", "_law_most"] ["_law_thing", "_law_most"] (defScope s__law_int) := ⟨rfl, rfl, rfl, by decide +kernel, rfl, by decide +kernel, by decide +kernel⟩
theorem ok__law_int {f : Addr} {fd : FuncData} (D : DefAt K mg "_law_int" s__law_int f fd) (B : Bi mg) : Cl T P w K mg base 1 "_law_int" ["_law_thing", "_law_most"] f fd 2 m__law_int := by
  refine ⟨fn_ok D.F sc__law_int rfl (fun cdv A outer s H E hr => ?_), D.m, D.F.kp, D.F.binds fun _ _ _ _ _ _ us hl => match us, hl with | [_, _], _ => rfl⟩
  let X := cxOf (L2.CX P w) P w K mg base ["_law_thing", "_law_most"] "_law_int" (defScope s__law_int) f cdv A outer s H E
  have tk : Takes X (fun cls d _ H => E cls d H) := takes_of rfl rfl rfl rfl
  have hx : Passes (L2.CX P w) X E := passes_call tk fun _ _ _ _ z => z
  have po : PassesOwn (model P w) X.A X.env X.xe := passes_of rfl
  exact (mss_one (ms_ret (me_and (me_isi (by rfl) B.b_isinstance (by rfl) B.b_int (by decide +kernel) (me_var 0)) (me_and (me_not (me_isi (by rfl) B.b_isinstance (by rfl) B.b_bool (by decide +kernel) (me_var 0))) (me_one (me_chain op_le o_le op_le o_le me_int (me_var 0) (me_var 1)))))))
/-! ### _law_ints -/
theorem sc__law_ints : FnScope ["_law_thing", "_law_most", "_law_one"] ["_law_thing", "_law_most"] (defScope s__law_ints) := ⟨rfl, rfl, rfl, by decide +kernel, rfl, by decide +kernel, by decide +kernel⟩
theorem ok__law_ints {f : Addr} {fd : FuncData} (D : DefAt K mg "_law_ints" s__law_ints f fd) (B : Bi mg) {f__law_int : Addr} {fd__law_int : FuncData} (C__law_int : Cl T P w K mg base 1 "_law_int" ["_law_thing", "_law_most"] f__law_int fd__law_int 2 m__law_int) : Cl T P w K mg base 2 "_law_ints" ["_law_thing", "_law_most"] f fd 2 m__law_ints := by
  refine ⟨fn_ok D.F sc__law_ints rfl (fun cdv A outer s H E hr => ?_), D.m, D.F.kp, D.F.binds fun _ _ _ _ _ _ us hl => match us, hl with | [_, _], _ => rfl⟩
  let X := cxOf (L2.CX P w) P w K mg base ["_law_thing", "_law_most", "_law_one"] "_law_ints" (defScope s__law_ints) f cdv A outer s H E
  have tk : Takes X (fun cls d _ H => E cls d H) := takes_of rfl rfl rfl rfl
  have hx : Passes (L2.CX P w) X E := passes_call tk fun _ _ _ _ z => z
  have po : PassesOwn (model P w) X.A X.env X.xe := passes_of rfl
  exact (mss_one (ms_ret (me_and (me_isi (by rfl) B.b_isinstance (by rfl) B.b_tuple (by decide +kernel) (me_var 0)) (me_one (me_cmp (op_emEq hr.units) o_em (me_lc (own := [("_law_one", 2)]) rfl sc__law_ints.nd (mi_any (me_var 0)) (by kernel_rfl) ⟨fun _ _ _ _ _ => (mgc_name (i := 2) sc__law_ints.nd rfl (by decide)), fun _ _ _ _ _ => (mts_one (mt_not (mt_val (me_call C__law_int.ok (hr.mono (by decide)) (by rfl) C__law_int.m C__law_int.kp C__law_int.b passL (ma_cons (me_var 2) (ma_cons (me_var 1) ma_nil)))))), fun _ _ _ _ _ => (me_var 2)⟩) (me_lst ma_nil))))))
/-! ### _law_due -/
theorem sc__law_due : FnScope ["_law_thing", "_law_size", "_law_many", "_law_k"] ["_law_thing", "_law_size"] (defScope s__law_due) := ⟨rfl, rfl, rfl, by decide +kernel, rfl, by decide +kernel, by decide +kernel⟩
theorem ok__law_due {f : Addr} {fd : FuncData} (D : DefAt K mg "_law_due" s__law_due f fd) (B : Bi mg) {f__law_int : Addr} {fd__law_int : FuncData} (C__law_int : Cl T P w K mg base 1 "_law_int" ["_law_thing", "_law_most"] f__law_int fd__law_int 2 m__law_int) {f__law_ints : Addr} {fd__law_ints : FuncData} (C__law_ints : Cl T P w K mg base 2 "_law_ints" ["_law_thing", "_law_most"] f__law_ints fd__law_ints 2 m__law_ints) : Cl T P w K mg base 3 "_law_due" ["_law_thing", "_law_size"] f fd 2 m__law_due := by
  refine ⟨fn_ok D.F sc__law_due rfl (fun cdv A outer s H E hr => ?_), D.m, D.F.kp, D.F.binds fun _ _ _ _ _ _ us hl => match us, hl with | [_, _], _ => rfl⟩
  let X := cxOf (L2.CX P w) P w K mg base ["_law_thing", "_law_size", "_law_many", "_law_k"] "_law_due" (defScope s__law_due) f cdv A outer s H E
  have tk : Takes X (fun cls d _ H => E cls d H) := takes_of rfl rfl rfl rfl
  have hx : Passes (L2.CX P w) X E := passes_call tk fun _ _ _ _ z => z
  have po : PassesOwn (model P w) X.A X.env X.xe := passes_of rfl
  exact (mss_cons (ms_if (mw_pt (mw_or (mt_not (mt_val (me_isi (by rfl) B.b_isinstance (by rfl) B.b_tuple (by decide +kernel) (me_var 0)))) (mw_or (mt_cmp (op_neD hr.units) o_ne2 (me_len (by rfl) B.b_len (ma_cons (me_var 0) ma_nil)) me_int) (mw_or1 (mt_not (mt_val (me_isi (by rfl) B.b_isinstance (by rfl) B.b_tuple (by decide +kernel) (me_ixD hr.units (me_var 0) me_int)))))))) (mss_one (ms_ret (me_tup (ma_cons me_str ma_nil)))) mss_nil)
      (mss_cons (ms_if (mw_pt (mw_or (mt_not (mt_val (me_isi (by rfl) B.b_isinstance (by rfl) B.b_tuple (by decide +kernel) (me_ixD hr.units (me_var 0) me_int)))) (mw_or (mt_cmp (op_eqD hr.units) o_eq2 (me_len (by rfl) B.b_len (ma_cons (me_ixD hr.units (me_var 0) me_int) ma_nil)) me_int) (mw_or1 (mt_cmp (op_eqD hr.units) o_eq2 (me_len (by rfl) B.b_len (ma_cons (me_ixD hr.units (me_var 0) me_int) ma_nil)) me_int))))) (mss_one (ms_ret (me_tup (ma_cons me_str ma_nil)))) mss_nil)
      (mss_cons (ms_set (i := 2) sc__law_due.nd rfl (me_len (by rfl) B.b_len (ma_cons (me_ixD hr.units (me_var 0) me_int) ma_nil)))
      (mss_cons (ms_for po rfl (mi_range1 (by rfl) B.b_range (ma_cons (me_var 2) ma_nil)) (mg_name (i := 3) sc__law_due.nd rfl) (mss_one (ms_if (mw_pt (mw_or (mt_not (mt_val (me_call C__law_ints.ok (hr.mono (by decide)) (by rfl) C__law_ints.m C__law_ints.kp C__law_ints.b hx (ma_cons (me_ixD hr.units (me_ixD hr.units (me_var 0) me_int) (me_var 3)) (ma_cons (me_sub (me_var 2) me_int) ma_nil))))) (mw_or1 (mt_cmp (op_neD hr.units) o_ne2 (me_len (by rfl) B.b_len (ma_cons (me_ixD hr.units (me_ixD hr.units (me_var 0) me_int) (me_var 3)) ma_nil)) (me_var 1))))) (mss_one (ms_ret (me_tup (ma_cons me_str (ma_cons (me_var 3) ma_nil))))) mss_nil)))
      (mss_cons (ms_if (mw_pt (mw_or (mt_cmp (op_neD hr.units) o_ne2 (me_len (by rfl) B.b_len (ma_cons (me_ixD hr.units (me_var 0) me_int) ma_nil)) (me_var 2)) (mw_or1 (mt_not (mt_val (me_call C__law_ints.ok (hr.mono (by decide)) (by rfl) C__law_ints.m C__law_ints.kp C__law_ints.b hx (ma_cons (me_ixD hr.units (me_var 0) me_int) (ma_cons me_int ma_nil)))))))) (mss_one (ms_ret (me_tup (ma_cons me_str ma_nil)))) mss_nil)
      (mss_one (ms_ret (me_ixD hr.units (me_lst (ma_cons (me_tup (ma_cons me_str ma_nil)) (ma_cons me_non ma_nil))) (me_int1 (by rfl) B.b_int (ma_cons (me_call C__law_int.ok (hr.mono (by decide)) (by rfl) C__law_int.m C__law_int.kp C__law_int.b hx (ma_cons (me_ixD hr.units (me_var 0) me_int) (ma_cons (me_sub (me_var 2) me_int) ma_nil))) ma_nil))))))))))
/-! ### size_of -/
theorem sc_size_of : FnScope ["thing", "size"] ["thing"] (defScope s_size_of) := ⟨rfl, rfl, rfl, by decide +kernel, rfl, by decide +kernel, by decide +kernel⟩
theorem ok_size_of {f : Addr} {fd : FuncData} (D : DefAt K mg "size_of" s_size_of f fd) (B : Bi mg) {f_fault_of : Addr} {fd_fault_of : FuncData} (C_fault_of : Cl T P w K mg base 3 "fault_of" ["thing", "size"] f_fault_of fd_fault_of 2 m_fault_of) {c Pt : Addr} (TB : GxR.TabB base mg c Pt) (hfc : fd.code = .ref c) (hPT : Pt ∈ T) : Cl T P w K mg base 7 "size_of" ["thing"] f fd 1 m_size_of := by
  refine ⟨fn_okC D.F hfc sc_size_of rfl (fun A outer s H E hr => ?_), D.m, D.F.kp, D.F.binds fun _ _ _ _ _ _ us hl => match us, hl with | [_], _ => rfl⟩
  let X := cxOf (L2.CX P w) P w K mg base ["thing", "size"] "size_of" (defScope s_size_of) f (.ref c) A outer s H E
  have tk : Takes X (fun cls d _ H => E cls d H) := takes_of rfl rfl rfl rfl
  have hx : Passes (L2.CX P w) X E := passes_call tk fun _ _ _ _ z => z
  have po : PassesOwn (model P w) X.A X.env X.xe := passes_of rfl
  exact (mss_one (ms_ret (me_next (own := [("size", 1)]) (k := 0) rfl sc_size_of.nd (hr.mono (by decide)) (by rfl) B.b_next TB rfl hPT (mi_range2 (by rfl) B.b_range (ma_cons me_int (ma_cons (me_add (me_gint (by rfl) B.c_MOST_VALUES.choose_spec) me_int) ma_nil))) (by kernel_rfl) ⟨fun _ _ _ _ _ _ => (mgc_name (i := 1) sc_size_of.nd rfl (by decide)), fun _ _ _ _ _ _ => (mts_one (mt_cmp op_isN o_isN (me_call C_fault_of.ok ((hr.mono (by decide : 3 + 3 ≤ _)).in1.in1.deeper _) (by rfl) C_fault_of.m C_fault_of.kp C_fault_of.b passL (ma_cons (me_var 0) (ma_cons (me_var 1) ma_nil))) me_non)), fun _ _ _ _ _ _ => (me_var 1)⟩)))
/-! ### require_machine -/
theorem sc_require_machine : FnScope ["machine"] ["machine"] (defScope s_require_machine) := ⟨rfl, rfl, rfl, by decide +kernel, rfl, by decide +kernel, by decide +kernel⟩
theorem ok_require_machine {f : Addr} {fd : FuncData} (D : DefAt K mg "require_machine" s_require_machine f fd) (B : Bi mg) {f_size_of : Addr} {fd_size_of : FuncData} (C_size_of : Cl T P w K mg base 7 "size_of" ["thing"] f_size_of fd_size_of 1 m_size_of) {C_InvalidMachine C_InvalidMap C_InvalidRow C_InvalidSize C_LazyError : Addr} {fI_InvalidMachine : Addr} {fD_InvalidMachine : FuncData} {fI_InvalidMap : Addr} {fD_InvalidMap : FuncData} {fI_InvalidRow : Addr} {fD_InvalidRow : FuncData} {fI_InvalidSize : Addr} {fD_InvalidSize : FuncData} (EE : Errs P w K mg base C_InvalidMachine C_InvalidMap C_InvalidRow C_InvalidSize C_LazyError fI_InvalidMachine fD_InvalidMachine fI_InvalidMap fD_InvalidMap fI_InvalidRow fD_InvalidRow fI_InvalidSize fD_InvalidSize) : Cl T P w K mg base 8 "require_machine" ["machine"] f fd 1 m_require_machine := by
  refine ⟨fn_ok D.F sc_require_machine rfl (fun cdv A outer s H E hr => ?_), D.m, D.F.kp, D.F.binds fun _ _ _ _ _ _ us hl => match us, hl with | [_], _ => rfl⟩
  let X := cxOf (L2.CX P w) P w K mg base ["machine"] "require_machine" (defScope s_require_machine) f cdv A outer s H E
  have tk : Takes X (fun cls d _ H => E cls d H) := takes_of rfl rfl rfl rfl
  have hx : Passes (L2.CX P w) X E := passes_call tk fun _ _ _ _ z => z
  have po : PassesOwn (model P w) X.A X.env X.xe := passes_of rfl
  exact (mss_one (ms_if (mt_cmp op_isN o_isN (me_call C_size_of.ok (hr.mono (by decide)) (by rfl) C_size_of.m C_size_of.kp C_size_of.b hx (ma_cons (me_var 0) ma_nil)) me_non) (mss_one (ms_raise rfl tk EE.mk_InvalidMachine (hr.mono (by decide)) (by rfl) ((ma_cons (me_var 0) ma_nil)).1 (passes_call tk fun _ _ _ _ z => False.elim z))) mss_nil))
/-! ### answer -/
theorem sc_answer : FnScope ["machine", "row"] ["machine", "row"] (defScope s_answer) := ⟨rfl, rfl, rfl, by decide +kernel, rfl, by decide +kernel, by decide +kernel⟩
theorem ok_answer {f : Addr} {fd : FuncData} (D : DefAt K mg "answer" s_answer f fd) (B : Bi mg) {f_is_row : Addr} {fd_is_row : FuncData} (C_is_row : Cl T P w K mg base 2 "is_row" ["thing", "size"] f_is_row fd_is_row 2 m_is_row) {f_require_machine : Addr} {fd_require_machine : FuncData} (C_require_machine : Cl T P w K mg base 8 "require_machine" ["machine"] f_require_machine fd_require_machine 1 m_require_machine) {f_size_of : Addr} {fd_size_of : FuncData} (C_size_of : Cl T P w K mg base 7 "size_of" ["thing"] f_size_of fd_size_of 1 m_size_of) {C_InvalidMachine C_InvalidMap C_InvalidRow C_InvalidSize C_LazyError : Addr} {fI_InvalidMachine : Addr} {fD_InvalidMachine : FuncData} {fI_InvalidMap : Addr} {fD_InvalidMap : FuncData} {fI_InvalidRow : Addr} {fD_InvalidRow : FuncData} {fI_InvalidSize : Addr} {fD_InvalidSize : FuncData} (EE : Errs P w K mg base C_InvalidMachine C_InvalidMap C_InvalidRow C_InvalidSize C_LazyError fI_InvalidMachine fD_InvalidMachine fI_InvalidMap fD_InvalidMap fI_InvalidRow fD_InvalidRow fI_InvalidSize fD_InvalidSize) : Cl T P w K mg base 9 "answer" ["machine", "row"] f fd 2 m_answer := by
  refine ⟨fn_ok D.F sc_answer rfl (fun cdv A outer s H E hr => ?_), D.m, D.F.kp, D.F.binds fun _ _ _ _ _ _ us hl => match us, hl with | [_, _], _ => rfl⟩
  let X := cxOf (L2.CX P w) P w K mg base ["machine", "row"] "answer" (defScope s_answer) f cdv A outer s H E
  have tk : Takes X (fun cls d _ H => E cls d H) := takes_of rfl rfl rfl rfl
  have hx : Passes (L2.CX P w) X E := passes_call tk fun _ _ _ _ z => z
  have po : PassesOwn (model P w) X.A X.env X.xe := passes_of rfl
  exact (mss_cons (ms_expr (me_call C_require_machine.ok (hr.mono (by decide)) (by rfl) C_require_machine.m C_require_machine.kp C_require_machine.b hx (ma_cons (me_var 0) ma_nil)))
      (mss_cons (ms_if (mt_not (mt_val (me_call C_is_row.ok (hr.mono (by decide)) (by rfl) C_is_row.m C_is_row.kp C_is_row.b hx (ma_cons (me_var 1) (ma_cons (me_call C_size_of.ok (hr.mono (by decide)) (by rfl) C_size_of.m C_size_of.kp C_size_of.b hx (ma_cons (me_var 0) ma_nil)) ma_nil))))) (mss_one (ms_raise rfl tk EE.mk_InvalidRow (hr.mono (by decide)) (by rfl) ((ma_cons (me_var 1) ma_nil)).1 (passes_call tk fun _ _ _ _ z => False.elim z))) mss_nil)
      (mss_one ms_never)))
/-! ### least_machine -/
theorem sc_least_machine : FnScope ["machine", "order", "classes", "many", "chosen", "state", "places", "states", "steps", "told", "numbers", "place", "one", "number", "row", "after"] ["machine"] (defScope s_least_machine) := ⟨rfl, rfl, rfl, by decide +kernel, rfl, by decide +kernel, by decide +kernel⟩
theorem ok_least_machine {f : Addr} {fd : FuncData} (D : DefAt K mg "least_machine" s_least_machine f fd) (B : Bi mg) {f_require_machine : Addr} {fd_require_machine : FuncData} (C_require_machine : Cl T P w K mg base 8 "require_machine" ["machine"] f_require_machine fd_require_machine 1 m_require_machine) : Cl T P w K mg base 9 "least_machine" ["machine"] f fd 1 m_least_machine := by
  refine ⟨fn_ok D.F sc_least_machine rfl (fun cdv A outer s H E hr => ?_), D.m, D.F.kp, D.F.binds fun _ _ _ _ _ _ us hl => match us, hl with | [_], _ => rfl⟩
  let X := cxOf (L2.CX P w) P w K mg base ["machine", "order", "classes", "many", "chosen", "state", "places", "states", "steps", "told", "numbers", "place", "one", "number", "row", "after"] "least_machine" (defScope s_least_machine) f cdv A outer s H E
  have tk : Takes X (fun cls d _ H => E cls d H) := takes_of rfl rfl rfl rfl
  have hx : Passes (L2.CX P w) X E := passes_call tk fun _ _ _ _ z => z
  have po : PassesOwn (model P w) X.A X.env X.xe := passes_of rfl
  exact (mss_cons (ms_expr (me_call C_require_machine.ok (hr.mono (by decide)) (by rfl) C_require_machine.m C_require_machine.kp C_require_machine.b hx (ma_cons (me_var 0) ma_nil)))
      (mss_cons ms_never
      (mss_cons ms_never
      (mss_cons ms_never
      (mss_cons ms_never
      (mss_cons ms_never
      (mss_cons ms_never
      (mss_cons ms_never
      (mss_cons ms_never
      (mss_cons ms_never
      (mss_one ms_never)))))))))))
/-! ### machines_parted -/
theorem sc_machines_parted : FnScope ["one", "other"] ["one", "other"] (defScope s_machines_parted) := ⟨rfl, rfl, rfl, by decide +kernel, rfl, by decide +kernel, by decide +kernel⟩
theorem ok_machines_parted {f : Addr} {fd : FuncData} (D : DefAt K mg "machines_parted" s_machines_parted f fd) (B : Bi mg) {f_require_machine : Addr} {fd_require_machine : FuncData} (C_require_machine : Cl T P w K mg base 8 "require_machine" ["machine"] f_require_machine fd_require_machine 1 m_require_machine) {f_size_of : Addr} {fd_size_of : FuncData} (C_size_of : Cl T P w K mg base 7 "size_of" ["thing"] f_size_of fd_size_of 1 m_size_of) {C_InvalidMachine C_InvalidMap C_InvalidRow C_InvalidSize C_LazyError : Addr} {fI_InvalidMachine : Addr} {fD_InvalidMachine : FuncData} {fI_InvalidMap : Addr} {fD_InvalidMap : FuncData} {fI_InvalidRow : Addr} {fD_InvalidRow : FuncData} {fI_InvalidSize : Addr} {fD_InvalidSize : FuncData} (EE : Errs P w K mg base C_InvalidMachine C_InvalidMap C_InvalidRow C_InvalidSize C_LazyError fI_InvalidMachine fD_InvalidMachine fI_InvalidMap fD_InvalidMap fI_InvalidRow fD_InvalidRow fI_InvalidSize fD_InvalidSize) : Cl T P w K mg base 9 "machines_parted" ["one", "other"] f fd 2 m_machines_parted := by
  refine ⟨fn_ok D.F sc_machines_parted rfl (fun cdv A outer s H E hr => ?_), D.m, D.F.kp, D.F.binds fun _ _ _ _ _ _ us hl => match us, hl with | [_, _], _ => rfl⟩
  let X := cxOf (L2.CX P w) P w K mg base ["one", "other"] "machines_parted" (defScope s_machines_parted) f cdv A outer s H E
  have tk : Takes X (fun cls d _ H => E cls d H) := takes_of rfl rfl rfl rfl
  have hx : Passes (L2.CX P w) X E := passes_call tk fun _ _ _ _ z => z
  have po : PassesOwn (model P w) X.A X.env X.xe := passes_of rfl
  exact (mss_cons (ms_expr (me_call C_require_machine.ok (hr.mono (by decide)) (by rfl) C_require_machine.m C_require_machine.kp C_require_machine.b hx (ma_cons (me_var 0) ma_nil)))
      (mss_cons (ms_if (mt_cmp (op_neD hr.units) o_ne2 (me_call C_size_of.ok (hr.mono (by decide)) (by rfl) C_size_of.m C_size_of.kp C_size_of.b hx (ma_cons (me_var 1) ma_nil)) (me_call C_size_of.ok (hr.mono (by decide)) (by rfl) C_size_of.m C_size_of.kp C_size_of.b hx (ma_cons (me_var 0) ma_nil))) (mss_one (ms_raise rfl tk EE.mk_InvalidMachine (hr.mono (by decide)) (by rfl) ((ma_cons (me_var 1) ma_nil)).1 (passes_call tk fun _ _ _ _ z => False.elim z))) mss_nil)
      (mss_one ms_never)))
/-! ### mapped -/
theorem sc_mapped : FnScope ["machine", "mapping", "steps", "row", "value"] ["machine", "mapping"] (defScope s_mapped) := ⟨rfl, rfl, rfl, by decide +kernel, rfl, by decide +kernel, by decide +kernel⟩
theorem ok_mapped {f : Addr} {fd : FuncData} (D : DefAt K mg "mapped" s_mapped f fd) (B : Bi mg) {f_is_row : Addr} {fd_is_row : FuncData} (C_is_row : Cl T P w K mg base 2 "is_row" ["thing", "size"] f_is_row fd_is_row 2 m_is_row) {f_require_machine : Addr} {fd_require_machine : FuncData} (C_require_machine : Cl T P w K mg base 8 "require_machine" ["machine"] f_require_machine fd_require_machine 1 m_require_machine) {f_size_of : Addr} {fd_size_of : FuncData} (C_size_of : Cl T P w K mg base 7 "size_of" ["thing"] f_size_of fd_size_of 1 m_size_of) {C_InvalidMachine C_InvalidMap C_InvalidRow C_InvalidSize C_LazyError : Addr} {fI_InvalidMachine : Addr} {fD_InvalidMachine : FuncData} {fI_InvalidMap : Addr} {fD_InvalidMap : FuncData} {fI_InvalidRow : Addr} {fD_InvalidRow : FuncData} {fI_InvalidSize : Addr} {fD_InvalidSize : FuncData} (EE : Errs P w K mg base C_InvalidMachine C_InvalidMap C_InvalidRow C_InvalidSize C_LazyError fI_InvalidMachine fD_InvalidMachine fI_InvalidMap fD_InvalidMap fI_InvalidRow fD_InvalidRow fI_InvalidSize fD_InvalidSize) : Cl T P w K mg base 9 "mapped" ["machine", "mapping"] f fd 2 m_mapped := by
  refine ⟨fn_ok D.F sc_mapped rfl (fun cdv A outer s H E hr => ?_), D.m, D.F.kp, D.F.binds fun _ _ _ _ _ _ us hl => match us, hl with | [_, _], _ => rfl⟩
  let X := cxOf (L2.CX P w) P w K mg base ["machine", "mapping", "steps", "row", "value"] "mapped" (defScope s_mapped) f cdv A outer s H E
  have tk : Takes X (fun cls d _ H => E cls d H) := takes_of rfl rfl rfl rfl
  have hx : Passes (L2.CX P w) X E := passes_call tk fun _ _ _ _ z => z
  have po : PassesOwn (model P w) X.A X.env X.xe := passes_of rfl
  exact (mss_cons (ms_expr (me_call C_require_machine.ok (hr.mono (by decide)) (by rfl) C_require_machine.m C_require_machine.kp C_require_machine.b hx (ma_cons (me_var 0) ma_nil)))
      (mss_cons (ms_if (mw_pt (mw_or (mt_not (mt_val (me_call C_is_row.ok (hr.mono (by decide)) (by rfl) C_is_row.m C_is_row.kp C_is_row.b hx (ma_cons (me_var 1) (ma_cons (me_call C_size_of.ok (hr.mono (by decide)) (by rfl) C_size_of.m C_size_of.kp C_size_of.b hx (ma_cons (me_var 0) ma_nil)) ma_nil))))) (mw_or1 (mt_not (mt_chain op_le o_le op_le o_le me_int (me_len (by rfl) B.b_len (ma_cons (me_var 1) ma_nil)) (me_gint (by rfl) B.c_MOST_VALUES.choose_spec)))))) (mss_one (ms_raise rfl tk EE.mk_InvalidMap (hr.mono (by decide)) (by rfl) ((ma_cons (me_var 1) ma_nil)).1 (passes_call tk fun _ _ _ _ z => False.elim z))) mss_nil)
      (mss_cons ms_never
      (mss_one ms_never))))
/-! ### turned -/
theorem sc_turned : FnScope ["machine", "least", "size", "places", "order", "steps", "at", "told", "row", "value", "after", "state"] ["machine"] (defScope s_turned) := ⟨rfl, rfl, rfl, by decide +kernel, rfl, by decide +kernel, by decide +kernel⟩
theorem ok_turned {f : Addr} {fd : FuncData} (D : DefAt K mg "turned" s_turned f fd) (B : Bi mg) {f_least_machine : Addr} {fd_least_machine : FuncData} (C_least_machine : Cl T P w K mg base 9 "least_machine" ["machine"] f_least_machine fd_least_machine 1 m_least_machine) : Cl T P w K mg base 10 "turned" ["machine"] f fd 1 m_turned := by
  refine ⟨fn_ok D.F sc_turned rfl (fun cdv A outer s H E hr => ?_), D.m, D.F.kp, D.F.binds fun _ _ _ _ _ _ us hl => match us, hl with | [_], _ => rfl⟩
  let X := cxOf (L2.CX P w) P w K mg base ["machine", "least", "size", "places", "order", "steps", "at", "told", "row", "value", "after", "state"] "turned" (defScope s_turned) f cdv A outer s H E
  have tk : Takes X (fun cls d _ H => E cls d H) := takes_of rfl rfl rfl rfl
  have hx : Passes (L2.CX P w) X E := passes_call tk fun _ _ _ _ z => z
  have po : PassesOwn (model P w) X.A X.env X.xe := passes_of rfl
  exact (mss_cons (ms_set (i := 1) sc_turned.nd rfl (me_call C_least_machine.ok (hr.mono (by decide)) (by rfl) C_least_machine.m C_least_machine.kp C_least_machine.b hx (ma_cons (me_var 0) ma_nil)))
      (mss_cons ms_never
      (mss_cons ms_never
      (mss_cons ms_never
      (mss_cons ms_never
      (mss_cons ms_never
      (mss_cons ms_never
      (mss_one ms_never))))))))
/-! ### _law_asked -/
theorem sc__law_asked : FnScope ["_law_way", "_law_one", "_law_two", "_law_error", "caught"] ["_law_way", "_law_one", "_law_two"] (defScope s__law_asked) := ⟨rfl, rfl, rfl, by decide +kernel, rfl, by decide +kernel, by decide +kernel⟩
theorem ok__law_asked {f : Addr} {fd : FuncData} (D : DefAt K mg "_law_asked" s__law_asked f fd) (B : Bi mg) {f_answer : Addr} {fd_answer : FuncData} (C_answer : Cl T P w K mg base 9 "answer" ["machine", "row"] f_answer fd_answer 2 m_answer) {f_check_machine : Addr} {fd_check_machine : FuncData} (C_check_machine : Cl T P w K mg base 4 "check_machine" ["thing", "size"] f_check_machine fd_check_machine 2 m_check_machine) {f_least_machine : Addr} {fd_least_machine : FuncData} (C_least_machine : Cl T P w K mg base 9 "least_machine" ["machine"] f_least_machine fd_least_machine 1 m_least_machine) {f_machines_parted : Addr} {fd_machines_parted : FuncData} (C_machines_parted : Cl T P w K mg base 9 "machines_parted" ["one", "other"] f_machines_parted fd_machines_parted 2 m_machines_parted) {f_mapped : Addr} {fd_mapped : FuncData} (C_mapped : Cl T P w K mg base 9 "mapped" ["machine", "mapping"] f_mapped fd_mapped 2 m_mapped) {f_turned : Addr} {fd_turned : FuncData} (C_turned : Cl T P w K mg base 10 "turned" ["machine"] f_turned fd_turned 1 m_turned) (D_least_machine : DefAt K mg "least_machine" s_least_machine f_least_machine fd_least_machine) {C_InvalidMachine C_InvalidMap C_InvalidRow C_InvalidSize C_LazyError : Addr} {fI_InvalidMachine : Addr} {fD_InvalidMachine : FuncData} {fI_InvalidMap : Addr} {fD_InvalidMap : FuncData} {fI_InvalidRow : Addr} {fD_InvalidRow : FuncData} {fI_InvalidSize : Addr} {fD_InvalidSize : FuncData} (EE : Errs P w K mg base C_InvalidMachine C_InvalidMap C_InvalidRow C_InvalidSize C_LazyError fI_InvalidMachine fD_InvalidMachine fI_InvalidMap fD_InvalidMap fI_InvalidRow fD_InvalidRow fI_InvalidSize fD_InvalidSize) : Cl T P w K mg base 11 "_law_asked" ["_law_way", "_law_one", "_law_two"] f fd 3 m__law_asked := by
  refine ⟨fn_ok D.F sc__law_asked rfl (fun cdv A outer s H E hr => ?_), D.m, D.F.kp, D.F.binds fun _ _ _ _ _ _ us hl => match us, hl with | [_, _, _], _ => rfl⟩
  let X := cxOf (L2.CX P w) P w K mg base ["_law_way", "_law_one", "_law_two", "_law_error", "caught"] "_law_asked" (defScope s__law_asked) f cdv A outer s H E
  have tk : Takes X (fun cls d _ H => E cls d H) := takes_of rfl rfl rfl rfl
  have hx : Passes (L2.CX P w) X E := passes_call tk fun _ _ _ _ z => z
  have po : PassesOwn (model P w) X.A X.env X.xe := passes_of rfl
  exact (mss_cons (ms_set (i := 3) sc__law_asked.nd rfl me_non)
      (mss_cons (ms_try (i := 4) (j := 3) rfl rfl rfl sc__law_asked.nd rfl rfl rfl rfl ⟨by rfl, by decide, .inl EE.m_LazyError⟩ tk EE.em_LazyError (mbs_if (fun _ _ => (mt_cmp (op_eqD hr.units) o_eq2 (me_var 0) me_int)) (mbs_expr (mes_call C_answer.ok (hr.mono (by decide)) (by rfl) C_answer.m C_answer.kp C_answer.b (fun _ _ => ((ma_cons (me_var 1) (ma_cons (me_var 2) ma_nil))).1) (nl_cons (nl_cons nl_nil)))) (mbs_if (fun _ _ => (mt_cmp (op_eqD hr.units) o_eq2 (me_var 0) me_int)) (mbs_expr (mes_callK0 C_least_machine.ok (hr.mono (by decide)) (by rfl) C_least_machine.m C_least_machine.kp (kto_of D_least_machine.F (ix := [0]) (n1 := 0) (n2 := 1) (fun _ _ _ _ _ _ us ws h1 h2 => match us, ws, h1, h2 with | [], [_], _, _ => rfl)) (by decide) (fun _ _ => (mk_cons (me_var 1) mk_nil)) (fun us ws h1 h2 => match us, ws, h1, h2 with | [], [_], _, _ => rfl))) (mbs_if (fun _ _ => (mt_cmp (op_eqD hr.units) o_eq2 (me_var 0) me_int)) (mbs_expr (mes_call C_machines_parted.ok (hr.mono (by decide)) (by rfl) C_machines_parted.m C_machines_parted.kp C_machines_parted.b (fun _ _ => ((ma_cons (me_var 1) (ma_cons (me_var 2) ma_nil))).1) (nl_cons (nl_cons nl_nil)))) (mbs_if (fun _ _ => (mt_cmp (op_eqD hr.units) o_eq2 (me_var 0) me_int)) (mbs_expr (mes_call C_mapped.ok (hr.mono (by decide)) (by rfl) C_mapped.m C_mapped.kp C_mapped.b (fun _ _ => ((ma_cons (me_var 1) (ma_cons (me_var 2) ma_nil))).1) (nl_cons (nl_cons nl_nil)))) (mbs_if (fun _ _ => (mt_cmp (op_eqD hr.units) o_eq2 (me_var 0) me_int)) (mbs_expr (mes_call C_turned.ok (hr.mono (by decide)) (by rfl) C_turned.m C_turned.kp C_turned.b (fun _ _ => ((ma_cons (me_var 1) ma_nil)).1) (nl_cons nl_nil))) (mbs_expr (mes_call C_check_machine.ok (hr.mono (by decide)) (by rfl) C_check_machine.m C_check_machine.kp C_check_machine.b (fun _ _ => ((ma_cons (me_var 1) (ma_cons (me_var 2) ma_nil))).1) (nl_cons (nl_cons nl_nil))))))))))
      (mss_cons (ms_if (mt_val (me_isiE EE.i_InvalidMachine (by rfl) B.b_isinstance (by rfl) (me_var 3))) (mss_one (ms_ret (me_lst (ma_cons me_str (ma_cons (me_fldE EE.f_thing (me_var 3)) ma_nil))))) mss_nil)
      (mss_cons (ms_if (mt_val (me_isiE EE.i_InvalidRow (by rfl) B.b_isinstance (by rfl) (me_var 3))) (mss_one (ms_ret (me_lst (ma_cons me_str (ma_cons (me_fldE EE.f_thing (me_var 3)) ma_nil))))) mss_nil)
      (mss_cons (ms_if (mt_val (me_isiE EE.i_InvalidMap (by rfl) B.b_isinstance (by rfl) (me_var 3))) (mss_one (ms_ret (me_lst (ma_cons me_str (ma_cons (me_fldE EE.f_thing (me_var 3)) ma_nil))))) mss_nil)
      (mss_cons (ms_if (mt_val (me_isiE EE.i_InvalidSize (by rfl) B.b_isinstance (by rfl) (me_var 3))) (mss_one (ms_ret (me_lst (ma_cons me_str (ma_cons (me_fldE EE.f_size (me_var 3)) ma_nil))))) mss_nil)
      (mss_one (ms_ret (me_lst (ma_cons me_str (ma_cons (me_cmp op_isN o_isN (me_var 3) me_non) ma_nil)))))))))))
/-! ### _law_doors_right -/
theorem sc__law_doors_right : FnScope ["_law_purse_here", "_law_asker", "_law_size", "_law_bad", "_law_odd_here", "_law_way", "_law_good", "_law_far", "_law_row_here", "_law_other", "_law_least", "_law_thing"] ["_law_purse_here", "_law_asker", "_law_size", "_law_bad"] (defScope s__law_doors_right) := ⟨rfl, rfl, rfl, by decide +kernel, rfl, by decide +kernel, by decide +kernel⟩
theorem ok__law_doors_right {f : Addr} {fd : FuncData} (D : DefAt K mg "_law_doors_right" s__law_doors_right f fd) (B : Bi mg) {f__law_asked : Addr} {fd__law_asked : FuncData} (C__law_asked : Cl T P w K mg base 11 "_law_asked" ["_law_way", "_law_one", "_law_two"] f__law_asked fd__law_asked 3 m__law_asked) {f__law_draw : Addr} {fd__law_draw : FuncData} (C__law_draw : Cl T P w K mg base 2 "_law_draw" ["_law_purse_here", "_law_out_of"] f__law_draw fd__law_draw 2 m__law_draw) {f__law_machine : Addr} {fd__law_machine : FuncData} (C__law_machine : Cl T P w K mg base 3 "_law_machine" ["_law_purse_here", "_law_size", "_law_most"] f__law_machine fd__law_machine 3 m__law_machine) : Cl T P w K mg base 12 "_law_doors_right" ["_law_purse_here", "_law_asker", "_law_size", "_law_bad"] f fd 4 m__law_doors_right := by
  refine ⟨fn_ok D.F sc__law_doors_right rfl (fun cdv A outer s H E hr => ?_), D.m, D.F.kp, D.F.binds fun _ _ _ _ _ _ us hl => match us, hl with | [_, _, _, _], _ => rfl⟩
  let X := cxOf (L2.CX P w) P w K mg base ["_law_purse_here", "_law_asker", "_law_size", "_law_bad", "_law_odd_here", "_law_way", "_law_good", "_law_far", "_law_row_here", "_law_other", "_law_least", "_law_thing"] "_law_doors_right" (defScope s__law_doors_right) f cdv A outer s H E
  have tk : Takes X (fun cls d _ H => E cls d H) := takes_of rfl rfl rfl rfl
  have hx : Passes (L2.CX P w) X E := passes_call tk fun _ _ _ _ z => z
  have po : PassesOwn (model P w) X.A X.env X.xe := passes_of rfl
  exact (mss_cons (ms_set (i := 4) sc__law_doors_right.nd rfl (me_ixD hr.units (me_lst (ma_cons me_non (ma_cons me_int (ma_cons (me_lst (ma_cons me_int ma_nil)) (ma_cons (me_tup (ma_cons (me_var 2) ma_nil)) (ma_cons (me_tup (ma_cons me_int (ma_cons (me_neg me_int) ma_nil))) (ma_cons (me_tup (ma_cons me_bl ma_nil)) (ma_cons me_str (ma_cons (me_tup (ma_cons me_int (ma_cons me_non ma_nil))) (ma_cons (me_tup (ma_cons (me_tup (ma_cons me_int ma_nil)) ma_nil)) ma_nil)))))))))) (me_call C__law_draw.ok (hr.mono (by decide)) (by rfl) C__law_draw.m C__law_draw.kp C__law_draw.b hx (ma_cons (me_var 0) (ma_cons me_int ma_nil)))))
      (mss_cons (ms_for po rfl (mi_range1 (by rfl) B.b_range (ma_cons me_int ma_nil)) (mg_name (i := 5) sc__law_doors_right.nd rfl) (mss_one (ms_if (mt_cmp (op_twNe hr.units) o_tw (me_call C__law_asked.ok (hr.mono (by decide)) (by rfl) C__law_asked.m C__law_asked.kp C__law_asked.b hx (ma_cons (me_var 5) (ma_cons (me_var 3) (ma_cons (me_var 4) ma_nil)))) (me_lst (ma_cons me_str (ma_cons (me_var 3) ma_nil)))) (mss_one (ms_ret me_bl)) mss_nil)))
      (mss_cons (ms_if (mw_pt (mw_or (mt_cmp (op_twNe hr.units) o_tw (me_call C__law_asked.ok (hr.mono (by decide)) (by rfl) C__law_asked.m C__law_asked.kp C__law_asked.b hx (ma_cons me_int (ma_cons (me_var 1) (ma_cons (me_var 4) ma_nil)))) (me_lst (ma_cons me_str (ma_cons (me_var 4) ma_nil)))) (mw_or1 (mt_cmp (op_twNe hr.units) o_tw (me_call C__law_asked.ok (hr.mono (by decide)) (by rfl) C__law_asked.m C__law_asked.kp C__law_asked.b hx (ma_cons me_int (ma_cons (me_var 1) (ma_cons (me_var 3) ma_nil)))) (me_lst (ma_cons me_str (ma_cons (me_var 3) ma_nil))))))) (mss_one (ms_ret me_bl)) mss_nil)
      (mss_cons (ms_set (i := 6) sc__law_doors_right.nd rfl (me_lst (ma_cons (me_call C__law_asked.ok (hr.mono (by decide)) (by rfl) C__law_asked.m C__law_asked.kp C__law_asked.b hx (ma_cons me_int (ma_cons (me_var 3) (ma_cons (me_var 1) ma_nil)))) (ma_cons (me_call C__law_asked.ok (hr.mono (by decide)) (by rfl) C__law_asked.m C__law_asked.kp C__law_asked.b hx (ma_cons me_int (ma_cons (me_var 3) (ma_cons (me_tup ma_nil) ma_nil)))) (ma_cons (me_call C__law_asked.ok (hr.mono (by decide)) (by rfl) C__law_asked.m C__law_asked.kp C__law_asked.b hx (ma_cons me_int (ma_cons (me_var 3) (ma_cons (me_tup (ma_cons me_int ma_nil)) ma_nil)))) ma_nil)))))
      (mss_cons (ms_if (mt_cmp (op_twNe hr.units) o_tw (me_var 6) (me_mulA (me_lst (ma_cons (me_lst (ma_cons me_str (ma_cons (me_var 3) ma_nil))) ma_nil)) me_int)) (mss_one (ms_ret me_bl)) mss_nil)
      (mss_cons (ms_set (i := 7) sc__law_doors_right.nd rfl (me_add (me_mulA (me_tup (ma_cons me_int ma_nil)) me_int) (me_tup (ma_cons (me_var 2) ma_nil))))
      (mss_cons (ms_if (mt_cmp (op_twNe hr.units) o_tw (me_call C__law_asked.ok (hr.mono (by decide)) (by rfl) C__law_asked.m C__law_asked.kp C__law_asked.b hx (ma_cons me_int (ma_cons (me_var 1) (ma_cons (me_var 7) ma_nil)))) (me_lst (ma_cons me_str (ma_cons (me_var 7) ma_nil)))) (mss_one (ms_ret me_bl)) mss_nil)
      (mss_cons (ms_for po rfl (mi_any (me_lst (ma_cons (me_var 4) (ma_cons (me_tup ma_nil) (ma_cons (me_mulA (me_tup (ma_cons me_int ma_nil)) me_int) (ma_cons (me_lst (ma_cons me_int ma_nil)) (ma_cons (me_tup (ma_cons me_int (ma_cons me_int (ma_cons me_int (ma_cons (me_var 2) ma_nil))))) (ma_cons (me_mulA (me_tup (ma_cons me_int ma_nil)) me_int) ma_nil)))))))) (mg_name (i := 8) sc__law_doors_right.nd rfl) (mss_one (ms_if (mt_cmp (op_twNe hr.units) o_tw (me_call C__law_asked.ok (hr.mono (by decide)) (by rfl) C__law_asked.m C__law_asked.kp C__law_asked.b hx (ma_cons me_int (ma_cons (me_var 1) (ma_cons (me_var 8) ma_nil)))) (me_lst (ma_cons me_str (ma_cons (me_var 8) ma_nil)))) (mss_one (ms_ret me_bl)) mss_nil)))
      (mss_cons (ms_set (i := 9) sc__law_doors_right.nd rfl (me_call C__law_machine.ok (hr.mono (by decide)) (by rfl) C__law_machine.m C__law_machine.kp C__law_machine.b hx (ma_cons (me_var 0) (ma_cons (me_add me_int (me_mod (me_int1 (by rfl) B.b_int (ma_cons (me_add (me_var 2) (me_call C__law_draw.ok (hr.mono (by decide)) (by rfl) C__law_draw.m C__law_draw.kp C__law_draw.b hx (ma_cons (me_var 0) (ma_cons me_int ma_nil)))) ma_nil)) me_int)) (ma_cons me_int ma_nil)))))
      (mss_cons (ms_if (mt_cmp (op_twNe hr.units) o_tw (me_call C__law_asked.ok (hr.mono (by decide)) (by rfl) C__law_asked.m C__law_asked.kp C__law_asked.b hx (ma_cons me_int (ma_cons (me_var 1) (ma_cons (me_var 9) ma_nil)))) (me_lst (ma_cons me_str (ma_cons (me_var 9) ma_nil)))) (mss_one (ms_ret me_bl)) mss_nil)
      (mss_cons (ms_set (i := 10) sc__law_doors_right.nd rfl (me_ixD hr.units (me_lst (ma_cons me_non (ma_cons me_int (ma_cons me_int (ma_cons (me_neg me_int) (ma_cons me_bl (ma_cons me_str (ma_cons (me_tup (ma_cons me_int ma_nil)) (ma_cons (me_lst (ma_cons me_int ma_nil)) ma_nil))))))))) (me_call C__law_draw.ok (hr.mono (by decide)) (by rfl) C__law_draw.m C__law_draw.kp C__law_draw.b hx (ma_cons (me_var 0) (ma_cons me_int ma_nil)))))
      (mss_one (ms_ret (me_cmp (op_twEq hr.units) o_tw (me_lc (own := [("_law_thing", 11)]) rfl sc__law_doors_right.nd (mi_any (me_tup (ma_cons (me_var 1) (ma_cons (me_var 3) (ma_cons me_non ma_nil))))) (by kernel_rfl) ⟨fun _ _ _ _ _ => (mgc_name (i := 11) sc__law_doors_right.nd rfl (by decide)), fun _ _ _ _ _ => mts_nil, fun _ _ _ _ _ => (me_call C__law_asked.ok (hr.mono (by decide)) (by rfl) C__law_asked.m C__law_asked.kp C__law_asked.b passL (ma_cons me_int (ma_cons (me_var 11) (ma_cons (me_var 10) ma_nil))))⟩) (me_mulA (me_lst (ma_cons (me_lst (ma_cons me_str (ma_cons (me_var 10) ma_nil))) ma_nil)) me_int)))))))))))))))
/-! ### law -/
theorem sc_law : FnScope ["_law_script", "_law_at", "_law_purse_here", "_law_turn", "_law_size", "_law_asker", "_law_thing", "_law_bend", "_law_other"] ["_law_script"] (defScope s_law) := ⟨rfl, rfl, rfl, by decide +kernel, rfl, by decide +kernel, by decide +kernel⟩
theorem ok_law {f : Addr} {fd : FuncData} (D : DefAt K mg "law" s_law f fd) (B : Bi mg) {f__law_bent : Addr} {fd__law_bent : FuncData} (C__law_bent : Cl T P w K mg base 5 "_law_bent" ["_law_purse_here", "_law_thing"] f__law_bent fd__law_bent 2 m__law_bent) {f__law_doors_right : Addr} {fd__law_doors_right : FuncData} (C__law_doors_right : Cl T P w K mg base 12 "_law_doors_right" ["_law_purse_here", "_law_asker", "_law_size", "_law_bad"] f__law_doors_right fd__law_doors_right 4 m__law_doors_right) {f__law_draw : Addr} {fd__law_draw : FuncData} (C__law_draw : Cl T P w K mg base 2 "_law_draw" ["_law_purse_here", "_law_out_of"] f__law_draw fd__law_draw 2 m__law_draw) {f__law_due : Addr} {fd__law_due : FuncData} (C__law_due : Cl T P w K mg base 3 "_law_due" ["_law_thing", "_law_size"] f__law_due fd__law_due 2 m__law_due) {f__law_machine : Addr} {fd__law_machine : FuncData} (C__law_machine : Cl T P w K mg base 3 "_law_machine" ["_law_purse_here", "_law_size", "_law_most"] f__law_machine fd__law_machine 3 m__law_machine) {f__law_purse : Addr} {fd__law_purse : FuncData} (C__law_purse : Cl T P w K mg base 1 "_law_purse" ["_law_script", "_law_at"] f__law_purse fd__law_purse 2 m__law_purse) {f_check_machine : Addr} {fd_check_machine : FuncData} (C_check_machine : Cl T P w K mg base 4 "check_machine" ["thing", "size"] f_check_machine fd_check_machine 2 m_check_machine) : Cl T P w K mg base 13 "law" ["_law_script"] f fd 1 m_law := by
  unfold m_law
  refine ⟨fn_ok D.F sc_law rfl (fun cdv A outer s H E hr => ?_), D.m, D.F.kp, D.F.binds fun _ _ _ _ _ _ us hl => match us, hl with | [_], _ => rfl⟩
  let X := cxOf (L2.CX P w) P w K mg base ["_law_script", "_law_at", "_law_purse_here", "_law_turn", "_law_size", "_law_asker", "_law_thing", "_law_bend", "_law_other"] "law" (defScope s_law) f cdv A outer s H E
  have tk : Takes X (fun cls d _ H => E cls d H) := takes_of rfl rfl rfl rfl
  have hx : Passes (L2.CX P w) X E := passes_call tk fun _ _ _ _ z => z
  have po : PassesOwn (model P w) X.A X.env X.xe := passes_of rfl
  exact (mss_cons (ms_for po rfl (mi_range1 (by rfl) B.b_range (ma_cons (me_add me_int (me_min2 rfl (by rfl) B.b_min (ma_cons me_int (ma_cons (me_len (by rfl) B.b_len (ma_cons (me_var 0) ma_nil)) ma_nil)))) ma_nil)) (mg_name (i := 1) sc_law.nd rfl) (mss_cons (ms_set (i := 2) sc_law.nd rfl (me_call C__law_purse.ok (hr.mono (by decide)) (by rfl) C__law_purse.m C__law_purse.kp C__law_purse.b hx (ma_cons (me_var 0) (ma_cons (me_var 1) ma_nil))))
      (mss_one (ms_for po rfl (mi_range1 (by rfl) B.b_range (ma_cons me_int ma_nil)) (mg_name (i := 3) sc_law.nd rfl) (mss_cons (ms_set (i := 4) sc_law.nd rfl (me_add me_int (me_call C__law_draw.ok (hr.mono (by decide)) (by rfl) C__law_draw.m C__law_draw.kp C__law_draw.b hx (ma_cons (me_var 2) (ma_cons me_int ma_nil)))))
      (mss_cons (ms_set (i := 5) sc_law.nd rfl (me_call C__law_machine.ok (hr.mono (by decide)) (by rfl) C__law_machine.m C__law_machine.kp C__law_machine.b hx (ma_cons (me_var 2) (ma_cons (me_var 4) (ma_cons me_int ma_nil)))))
      (mss_cons (ms_set (i := 6) sc_law.nd rfl (me_var 5))
      (mss_cons (ms_for po rfl (mi_range1 (by rfl) B.b_range (ma_cons (me_add me_int (me_call C__law_draw.ok (hr.mono (by decide)) (by rfl) C__law_draw.m C__law_draw.kp C__law_draw.b hx (ma_cons (me_var 2) (ma_cons me_int ma_nil)))) ma_nil)) (mg_name (i := 7) sc_law.nd rfl) (mss_one (ms_if (mw_pt (mw_and (mt_val (me_isi (by rfl) B.b_isinstance (by rfl) B.b_tuple (by decide +kernel) (me_var 6))) (mw_and1 (mt_cmp (op_eqD hr.units) o_eq2 (me_len (by rfl) B.b_len (ma_cons (me_var 6) ma_nil)) me_int)))) (mss_one (ms_set (i := 6) sc_law.nd rfl (me_call C__law_bent.ok (hr.mono (by decide)) (by rfl) C__law_bent.m C__law_bent.kp C__law_bent.b hx (ma_cons (me_var 2) (ma_cons (me_var 6) ma_nil))))) mss_nil)))
      (mss_cons (ms_if (mt_cmp (op_neD hr.units) o_ne2 (me_call C_check_machine.ok (hr.mono (by decide)) (by rfl) C_check_machine.m C_check_machine.kp C_check_machine.b hx (ma_cons (me_var 6) (ma_cons (me_var 4) ma_nil))) (me_call C__law_due.ok (hr.mono (by decide)) (by rfl) C__law_due.m C__law_due.kp C__law_due.b hx (ma_cons (me_var 6) (ma_cons (me_var 4) ma_nil)))) (mss_one (ms_ret me_bl)) mss_nil)
      (mss_one (ms_if (mt_cmp (op_eqD hr.units) o_eq2 (me_lc (own := [("_law_other", 8)]) rfl sc_law.nd (mi_range2 (by rfl) B.b_range (ma_cons me_int (ma_cons me_int ma_nil))) (by kernel_rfl) ⟨fun _ _ _ _ _ => (mgc_name (i := 8) sc_law.nd rfl (by decide)), fun _ _ _ _ _ => mts_nil, fun _ _ _ _ _ => (me_cmp op_isN o_isN (me_call C__law_due.ok (hr.mono (by decide)) (by rfl) C__law_due.m C__law_due.kp C__law_due.b passL (ma_cons (me_var 6) (ma_cons (me_var 8) ma_nil))) me_non)⟩) (me_mulA (me_lst (ma_cons me_bl ma_nil)) me_int)) (mss_one (ms_if (mt_not (mt_val (me_call C__law_doors_right.ok (hr.mono (by decide)) (by rfl) C__law_doors_right.m C__law_doors_right.kp C__law_doors_right.b hx (ma_cons (me_var 2) (ma_cons (me_var 5) (ma_cons (me_var 4) (ma_cons (me_var 6) ma_nil))))))) (mss_one (ms_ret me_bl)) mss_nil)) mss_nil)))))))))))
      (mss_one (ms_ret (me_cmp (op_eqD hr.units) o_eq2 (me_call C_check_machine.ok (hr.mono (by decide)) (by rfl) C_check_machine.m C_check_machine.kp C_check_machine.b hx (ma_cons (me_tup (ma_cons me_int (ma_cons (me_tup (ma_cons (me_tup (ma_cons me_int (ma_cons me_int ma_nil))) (ma_cons (me_tup (ma_cons me_int ma_nil)) ma_nil))) (ma_cons (me_tup (ma_cons me_int (ma_cons me_int ma_nil))) ma_nil)))) (ma_cons me_int ma_nil))) (me_tup (ma_cons me_str (ma_cons me_int ma_nil)))))))
end
/-! ### what the top has written -/
theorem law_mk {l : PySem.W.OpenLaw} {w : World} {q : Program} {K : PySem.W.Frag} {h : Heap} {mg : Str → Option Value} {fa : Addr} {f__law_purse : Addr} {od__law_purse an__law_purse : Option Addr} {sl__law_purse : Array (Option Value)} {oc__law_purse kV__law_purse dc__law_purse pm__law_purse ct__law_purse cd__law_purse : Value} {f__law_mixed : Addr} {od__law_mixed an__law_mixed : Option Addr} {sl__law_mixed : Array (Option Value)} {oc__law_mixed kV__law_mixed dc__law_mixed pm__law_mixed ct__law_mixed cd__law_mixed : Value} {f__law_draw : Addr} {od__law_draw an__law_draw : Option Addr} {sl__law_draw : Array (Option Value)} {oc__law_draw kV__law_draw dc__law_draw pm__law_draw ct__law_draw cd__law_draw : Value} {f__law_machine : Addr} {od__law_machine an__law_machine : Option Addr} {sl__law_machine : Array (Option Value)} {oc__law_machine kV__law_machine dc__law_machine pm__law_machine ct__law_machine cd__law_machine : Value} {f__law_odd : Addr} {od__law_odd an__law_odd : Option Addr} {sl__law_odd : Array (Option Value)} {oc__law_odd kV__law_odd dc__law_odd pm__law_odd ct__law_odd cd__law_odd : Value} {f__law_bent_part : Addr} {od__law_bent_part an__law_bent_part : Option Addr} {sl__law_bent_part : Array (Option Value)} {oc__law_bent_part kV__law_bent_part dc__law_bent_part pm__law_bent_part ct__law_bent_part cd__law_bent_part : Value} {f__law_bent : Addr} {od__law_bent an__law_bent : Option Addr} {sl__law_bent : Array (Option Value)} {oc__law_bent kV__law_bent dc__law_bent pm__law_bent ct__law_bent cd__law_bent : Value} {f_is_integer : Addr} {od_is_integer an_is_integer : Option Addr} {sl_is_integer : Array (Option Value)} {oc_is_integer kV_is_integer dc_is_integer pm_is_integer ct_is_integer cd_is_integer : Value} {f_require_size : Addr} {od_require_size an_require_size : Option Addr} {sl_require_size : Array (Option Value)} {oc_require_size kV_require_size dc_require_size pm_require_size ct_require_size cd_require_size : Value} {f_is_row : Addr} {od_is_row an_is_row : Option Addr} {sl_is_row : Array (Option Value)} {oc_is_row kV_is_row dc_is_row pm_is_row ct_is_row cd_is_row : Value} {f_fault_of : Addr} {od_fault_of an_fault_of : Option Addr} {sl_fault_of : Array (Option Value)} {oc_fault_of kV_fault_of dc_fault_of pm_fault_of ct_fault_of cd_fault_of : Value} {f_check_machine : Addr} {od_check_machine an_check_machine : Option Addr} {sl_check_machine : Array (Option Value)} {oc_check_machine kV_check_machine dc_check_machine pm_check_machine ct_check_machine cd_check_machine : Value} {f__law_int : Addr} {od__law_int an__law_int : Option Addr} {sl__law_int : Array (Option Value)} {oc__law_int kV__law_int dc__law_int pm__law_int ct__law_int cd__law_int : Value} {f__law_ints : Addr} {od__law_ints an__law_ints : Option Addr} {sl__law_ints : Array (Option Value)} {oc__law_ints kV__law_ints dc__law_ints pm__law_ints ct__law_ints cd__law_ints : Value} {f__law_due : Addr} {od__law_due an__law_due : Option Addr} {sl__law_due : Array (Option Value)} {oc__law_due kV__law_due dc__law_due pm__law_due ct__law_due cd__law_due : Value} {f_size_of : Addr} {od_size_of an_size_of : Option Addr} {sl_size_of : Array (Option Value)} {oc_size_of kV_size_of dc_size_of pm_size_of ct_size_of : Value} {cc_size_of P_size_of : Addr} {e_size_of : Value} {dd_size_of : Option Addr} {vs_size_of : Array Value} {sm_size_of : Array (Option Value)} {f_require_machine : Addr} {od_require_machine an_require_machine : Option Addr} {sl_require_machine : Array (Option Value)} {oc_require_machine kV_require_machine dc_require_machine pm_require_machine ct_require_machine cd_require_machine : Value} {f_answer : Addr} {od_answer an_answer : Option Addr} {sl_answer : Array (Option Value)} {oc_answer kV_answer dc_answer pm_answer ct_answer cd_answer : Value} {f_least_machine : Addr} {od_least_machine an_least_machine : Option Addr} {sl_least_machine : Array (Option Value)} {oc_least_machine kV_least_machine dc_least_machine pm_least_machine ct_least_machine cd_least_machine : Value} {f_machines_parted : Addr} {od_machines_parted an_machines_parted : Option Addr} {sl_machines_parted : Array (Option Value)} {oc_machines_parted kV_machines_parted dc_machines_parted pm_machines_parted ct_machines_parted cd_machines_parted : Value} {f_mapped : Addr} {od_mapped an_mapped : Option Addr} {sl_mapped : Array (Option Value)} {oc_mapped kV_mapped dc_mapped pm_mapped ct_mapped cd_mapped : Value} {f_turned : Addr} {od_turned an_turned : Option Addr} {sl_turned : Array (Option Value)} {oc_turned kV_turned dc_turned pm_turned ct_turned cd_turned : Value} {f__law_asked : Addr} {od__law_asked an__law_asked : Option Addr} {sl__law_asked : Array (Option Value)} {oc__law_asked kV__law_asked dc__law_asked pm__law_asked ct__law_asked cd__law_asked : Value} {f__law_doors_right : Addr} {od__law_doors_right an__law_doors_right : Option Addr} {sl__law_doors_right : Array (Option Value)} {oc__law_doors_right kV__law_doors_right dc__law_doors_right pm__law_doors_right ct__law_doors_right cd__law_doors_right : Value} {f_law : Addr} {od_law an_law : Option Addr} {sl_law : Array (Option Value)} {oc_law kV_law dc_law pm_law ct_law cd_law : Value} {C_InvalidMachine : Addr} {C_InvalidMap : Addr} {C_InvalidRow : Addr} {C_InvalidSize : Addr} {C_LazyError : Addr} {nm_InvalidMachine qu_InvalidMachine : Str} {N_InvalidMachine : Addr} {bs_InvalidMachine bm_InvalidMachine : List Value} {sn_InvalidMachine : List Str} {su_InvalidMachine : List Value} {ab_InvalidMachine : Bool} {co_InvalidMachine : Option Bool} {de_InvalidMachine : Option Addr} {m0_InvalidMachine m1_InvalidMachine m2_InvalidMachine m3_InvalidMachine m5_InvalidMachine : Option Value} {f_InvalidMachine__init : Addr} {od_InvalidMachine__init an_InvalidMachine__init : Option Addr} {sl_InvalidMachine__init : Array (Option Value)} {oc_InvalidMachine__init kV_InvalidMachine__init dc_InvalidMachine__init pm_InvalidMachine__init ct_InvalidMachine__init cd_InvalidMachine__init : Value} {TT_InvalidMachine__init : Addr} {te_InvalidMachine__init : Value} {td_InvalidMachine__init : Option Addr} {its_InvalidMachine__init : Array Value} {tn_InvalidMachine__init : Nat} {ts_InvalidMachine__init : Array (Option Value)} {nm_InvalidMap qu_InvalidMap : Str} {N_InvalidMap : Addr} {bs_InvalidMap bm_InvalidMap : List Value} {sn_InvalidMap : List Str} {su_InvalidMap : List Value} {ab_InvalidMap : Bool} {co_InvalidMap : Option Bool} {de_InvalidMap : Option Addr} {m0_InvalidMap m1_InvalidMap m2_InvalidMap m3_InvalidMap m5_InvalidMap : Option Value} {f_InvalidMap__init : Addr} {od_InvalidMap__init an_InvalidMap__init : Option Addr} {sl_InvalidMap__init : Array (Option Value)} {oc_InvalidMap__init kV_InvalidMap__init dc_InvalidMap__init pm_InvalidMap__init ct_InvalidMap__init cd_InvalidMap__init : Value} {TT_InvalidMap__init : Addr} {te_InvalidMap__init : Value} {td_InvalidMap__init : Option Addr} {its_InvalidMap__init : Array Value} {tn_InvalidMap__init : Nat} {ts_InvalidMap__init : Array (Option Value)} {nm_InvalidRow qu_InvalidRow : Str} {N_InvalidRow : Addr} {bs_InvalidRow bm_InvalidRow : List Value} {sn_InvalidRow : List Str} {su_InvalidRow : List Value} {ab_InvalidRow : Bool} {co_InvalidRow : Option Bool} {de_InvalidRow : Option Addr} {m0_InvalidRow m1_InvalidRow m2_InvalidRow m3_InvalidRow m5_InvalidRow : Option Value} {f_InvalidRow__init : Addr} {od_InvalidRow__init an_InvalidRow__init : Option Addr} {sl_InvalidRow__init : Array (Option Value)} {oc_InvalidRow__init kV_InvalidRow__init dc_InvalidRow__init pm_InvalidRow__init ct_InvalidRow__init cd_InvalidRow__init : Value} {TT_InvalidRow__init : Addr} {te_InvalidRow__init : Value} {td_InvalidRow__init : Option Addr} {its_InvalidRow__init : Array Value} {tn_InvalidRow__init : Nat} {ts_InvalidRow__init : Array (Option Value)} {nm_InvalidSize qu_InvalidSize : Str} {N_InvalidSize : Addr} {bs_InvalidSize bm_InvalidSize : List Value} {sn_InvalidSize : List Str} {su_InvalidSize : List Value} {ab_InvalidSize : Bool} {co_InvalidSize : Option Bool} {de_InvalidSize : Option Addr} {m0_InvalidSize m1_InvalidSize m2_InvalidSize m3_InvalidSize m5_InvalidSize : Option Value} {f_InvalidSize__init : Addr} {od_InvalidSize__init an_InvalidSize__init : Option Addr} {sl_InvalidSize__init : Array (Option Value)} {oc_InvalidSize__init kV_InvalidSize__init dc_InvalidSize__init pm_InvalidSize__init ct_InvalidSize__init cd_InvalidSize__init : Value} {TT_InvalidSize__init : Addr} {te_InvalidSize__init : Value} {td_InvalidSize__init : Option Addr} {its_InvalidSize__init : Array Value} {tn_InvalidSize__init : Nat} {ts_InvalidSize__init : Array (Option Value)} {t_MOST_ANSWER : Tok} {t_MOST_VALUES : Tok} (X : K.In h) (G : h.Ns mainGlobals mg) (N : Names q K mg h) (hfa : mg "law" = some (.ref fa))
    (a__law_purse : PySem.W.nsIn K mainGlobals "_law_purse" = some (some (.ref f__law_purse)))
    (l__law_purse : K.lookup f__law_purse = some ⟨oc__law_purse, od__law_purse, .func (PySem.W.fnOf "_law_purse" "_law_purse" (defArgs s__law_purse) (defBody s__law_purse) (defScope s__law_purse) .none kV__law_purse dc__law_purse pm__law_purse an__law_purse cd__law_purse ct__law_purse), sl__law_purse⟩)
    (c__law_purse : PySem.W.codeIn K cd__law_purse "_law_purse" = true)
    (k__law_purse : PySem.W.keepIn K (.ref f__law_purse) = true)
    (a__law_mixed : PySem.W.nsIn K mainGlobals "_law_mixed" = some (some (.ref f__law_mixed)))
    (l__law_mixed : K.lookup f__law_mixed = some ⟨oc__law_mixed, od__law_mixed, .func (PySem.W.fnOf "_law_mixed" "_law_mixed" (defArgs s__law_mixed) (defBody s__law_mixed) (defScope s__law_mixed) .none kV__law_mixed dc__law_mixed pm__law_mixed an__law_mixed cd__law_mixed ct__law_mixed), sl__law_mixed⟩)
    (c__law_mixed : PySem.W.codeIn K cd__law_mixed "_law_mixed" = true)
    (k__law_mixed : PySem.W.keepIn K (.ref f__law_mixed) = true)
    (a__law_draw : PySem.W.nsIn K mainGlobals "_law_draw" = some (some (.ref f__law_draw)))
    (l__law_draw : K.lookup f__law_draw = some ⟨oc__law_draw, od__law_draw, .func (PySem.W.fnOf "_law_draw" "_law_draw" (defArgs s__law_draw) (defBody s__law_draw) (defScope s__law_draw) .none kV__law_draw dc__law_draw pm__law_draw an__law_draw cd__law_draw ct__law_draw), sl__law_draw⟩)
    (c__law_draw : PySem.W.codeIn K cd__law_draw "_law_draw" = true)
    (k__law_draw : PySem.W.keepIn K (.ref f__law_draw) = true)
    (a__law_machine : PySem.W.nsIn K mainGlobals "_law_machine" = some (some (.ref f__law_machine)))
    (l__law_machine : K.lookup f__law_machine = some ⟨oc__law_machine, od__law_machine, .func (PySem.W.fnOf "_law_machine" "_law_machine" (defArgs s__law_machine) (defBody s__law_machine) (defScope s__law_machine) .none kV__law_machine dc__law_machine pm__law_machine an__law_machine cd__law_machine ct__law_machine), sl__law_machine⟩)
    (c__law_machine : PySem.W.codeIn K cd__law_machine "_law_machine" = true)
    (k__law_machine : PySem.W.keepIn K (.ref f__law_machine) = true)
    (a__law_odd : PySem.W.nsIn K mainGlobals "_law_odd" = some (some (.ref f__law_odd)))
    (l__law_odd : K.lookup f__law_odd = some ⟨oc__law_odd, od__law_odd, .func (PySem.W.fnOf "_law_odd" "_law_odd" (defArgs s__law_odd) (defBody s__law_odd) (defScope s__law_odd) .none kV__law_odd dc__law_odd pm__law_odd an__law_odd cd__law_odd ct__law_odd), sl__law_odd⟩)
    (c__law_odd : PySem.W.codeIn K cd__law_odd "_law_odd" = true)
    (k__law_odd : PySem.W.keepIn K (.ref f__law_odd) = true)
    (a__law_bent_part : PySem.W.nsIn K mainGlobals "_law_bent_part" = some (some (.ref f__law_bent_part)))
    (l__law_bent_part : K.lookup f__law_bent_part = some ⟨oc__law_bent_part, od__law_bent_part, .func (PySem.W.fnOf "_law_bent_part" "_law_bent_part" (defArgs s__law_bent_part) (defBody s__law_bent_part) (defScope s__law_bent_part) .none kV__law_bent_part dc__law_bent_part pm__law_bent_part an__law_bent_part cd__law_bent_part ct__law_bent_part), sl__law_bent_part⟩)
    (c__law_bent_part : PySem.W.codeIn K cd__law_bent_part "_law_bent_part" = true)
    (k__law_bent_part : PySem.W.keepIn K (.ref f__law_bent_part) = true)
    (a__law_bent : PySem.W.nsIn K mainGlobals "_law_bent" = some (some (.ref f__law_bent)))
    (l__law_bent : K.lookup f__law_bent = some ⟨oc__law_bent, od__law_bent, .func (PySem.W.fnOf "_law_bent" "_law_bent" (defArgs s__law_bent) (defBody s__law_bent) (defScope s__law_bent) .none kV__law_bent dc__law_bent pm__law_bent an__law_bent cd__law_bent ct__law_bent), sl__law_bent⟩)
    (c__law_bent : PySem.W.codeIn K cd__law_bent "_law_bent" = true)
    (k__law_bent : PySem.W.keepIn K (.ref f__law_bent) = true)
    (a_is_integer : PySem.W.nsIn K mainGlobals "is_integer" = some (some (.ref f_is_integer)))
    (l_is_integer : K.lookup f_is_integer = some ⟨oc_is_integer, od_is_integer, .func (PySem.W.fnOf "is_integer" "is_integer" (defArgs s_is_integer) (defBody s_is_integer) (defScope s_is_integer) .none kV_is_integer dc_is_integer pm_is_integer an_is_integer cd_is_integer ct_is_integer), sl_is_integer⟩)
    (c_is_integer : PySem.W.codeIn K cd_is_integer "is_integer" = true)
    (k_is_integer : PySem.W.keepIn K (.ref f_is_integer) = true)
    (a_require_size : PySem.W.nsIn K mainGlobals "require_size" = some (some (.ref f_require_size)))
    (l_require_size : K.lookup f_require_size = some ⟨oc_require_size, od_require_size, .func (PySem.W.fnOf "require_size" "require_size" (defArgs s_require_size) (defBody s_require_size) (defScope s_require_size) .none kV_require_size dc_require_size pm_require_size an_require_size cd_require_size ct_require_size), sl_require_size⟩)
    (c_require_size : PySem.W.codeIn K cd_require_size "require_size" = true)
    (k_require_size : PySem.W.keepIn K (.ref f_require_size) = true)
    (a_is_row : PySem.W.nsIn K mainGlobals "is_row" = some (some (.ref f_is_row)))
    (l_is_row : K.lookup f_is_row = some ⟨oc_is_row, od_is_row, .func (PySem.W.fnOf "is_row" "is_row" (defArgs s_is_row) (defBody s_is_row) (defScope s_is_row) .none kV_is_row dc_is_row pm_is_row an_is_row cd_is_row ct_is_row), sl_is_row⟩)
    (c_is_row : PySem.W.codeIn K cd_is_row "is_row" = true)
    (k_is_row : PySem.W.keepIn K (.ref f_is_row) = true)
    (a_fault_of : PySem.W.nsIn K mainGlobals "fault_of" = some (some (.ref f_fault_of)))
    (l_fault_of : K.lookup f_fault_of = some ⟨oc_fault_of, od_fault_of, .func (PySem.W.fnOf "fault_of" "fault_of" (defArgs s_fault_of) (defBody s_fault_of) (defScope s_fault_of) .none kV_fault_of dc_fault_of pm_fault_of an_fault_of cd_fault_of ct_fault_of), sl_fault_of⟩)
    (c_fault_of : PySem.W.codeIn K cd_fault_of "fault_of" = true)
    (k_fault_of : PySem.W.keepIn K (.ref f_fault_of) = true)
    (a_check_machine : PySem.W.nsIn K mainGlobals "check_machine" = some (some (.ref f_check_machine)))
    (l_check_machine : K.lookup f_check_machine = some ⟨oc_check_machine, od_check_machine, .func (PySem.W.fnOf "check_machine" "check_machine" (defArgs s_check_machine) (defBody s_check_machine) (defScope s_check_machine) .none kV_check_machine dc_check_machine pm_check_machine an_check_machine cd_check_machine ct_check_machine), sl_check_machine⟩)
    (c_check_machine : PySem.W.codeIn K cd_check_machine "check_machine" = true)
    (k_check_machine : PySem.W.keepIn K (.ref f_check_machine) = true)
    (a__law_int : PySem.W.nsIn K mainGlobals "_law_int" = some (some (.ref f__law_int)))
    (l__law_int : K.lookup f__law_int = some ⟨oc__law_int, od__law_int, .func (PySem.W.fnOf "_law_int" "_law_int" (defArgs s__law_int) (defBody s__law_int) (defScope s__law_int) .none kV__law_int dc__law_int pm__law_int an__law_int cd__law_int ct__law_int), sl__law_int⟩)
    (c__law_int : PySem.W.codeIn K cd__law_int "_law_int" = true)
    (k__law_int : PySem.W.keepIn K (.ref f__law_int) = true)
    (a__law_ints : PySem.W.nsIn K mainGlobals "_law_ints" = some (some (.ref f__law_ints)))
    (l__law_ints : K.lookup f__law_ints = some ⟨oc__law_ints, od__law_ints, .func (PySem.W.fnOf "_law_ints" "_law_ints" (defArgs s__law_ints) (defBody s__law_ints) (defScope s__law_ints) .none kV__law_ints dc__law_ints pm__law_ints an__law_ints cd__law_ints ct__law_ints), sl__law_ints⟩)
    (c__law_ints : PySem.W.codeIn K cd__law_ints "_law_ints" = true)
    (k__law_ints : PySem.W.keepIn K (.ref f__law_ints) = true)
    (a__law_due : PySem.W.nsIn K mainGlobals "_law_due" = some (some (.ref f__law_due)))
    (l__law_due : K.lookup f__law_due = some ⟨oc__law_due, od__law_due, .func (PySem.W.fnOf "_law_due" "_law_due" (defArgs s__law_due) (defBody s__law_due) (defScope s__law_due) .none kV__law_due dc__law_due pm__law_due an__law_due cd__law_due ct__law_due), sl__law_due⟩)
    (c__law_due : PySem.W.codeIn K cd__law_due "_law_due" = true)
    (k__law_due : PySem.W.keepIn K (.ref f__law_due) = true)
    (a_size_of : PySem.W.nsIn K mainGlobals "size_of" = some (some (.ref f_size_of)))
    (l_size_of : K.lookup f_size_of = some ⟨oc_size_of, od_size_of, .func (PySem.W.fnOf "size_of" "size_of" (defArgs s_size_of) (defBody s_size_of) (defScope s_size_of) .none kV_size_of dc_size_of pm_size_of an_size_of (.ref cc_size_of) ct_size_of), sl_size_of⟩)
    (c_size_of : PySem.W.codeIn K (.ref cc_size_of) "size_of" = true)
    (k_size_of : PySem.W.keepIn K (.ref f_size_of) = true)
    (g_size_of : K.lookup cc_size_of = some ⟨e_size_of, dd_size_of, .fields vs_size_of, sm_size_of⟩)
    (v_size_of : vs_size_of[11]? = some (.ref P_size_of))
    (h_size_of : PySem.W.codeHdIn K cc_size_of P_size_of = true)
    (n_size_of : K.lookup P_size_of = none)
    (q_size_of : ((recsOf q).any fun e => e.name == ("size_of" : Str)) = true)
    (a_require_machine : PySem.W.nsIn K mainGlobals "require_machine" = some (some (.ref f_require_machine)))
    (l_require_machine : K.lookup f_require_machine = some ⟨oc_require_machine, od_require_machine, .func (PySem.W.fnOf "require_machine" "require_machine" (defArgs s_require_machine) (defBody s_require_machine) (defScope s_require_machine) .none kV_require_machine dc_require_machine pm_require_machine an_require_machine cd_require_machine ct_require_machine), sl_require_machine⟩)
    (c_require_machine : PySem.W.codeIn K cd_require_machine "require_machine" = true)
    (k_require_machine : PySem.W.keepIn K (.ref f_require_machine) = true)
    (a_answer : PySem.W.nsIn K mainGlobals "answer" = some (some (.ref f_answer)))
    (l_answer : K.lookup f_answer = some ⟨oc_answer, od_answer, .func (PySem.W.fnOf "answer" "answer" (defArgs s_answer) (defBody s_answer) (defScope s_answer) .none kV_answer dc_answer pm_answer an_answer cd_answer ct_answer), sl_answer⟩)
    (c_answer : PySem.W.codeIn K cd_answer "answer" = true)
    (k_answer : PySem.W.keepIn K (.ref f_answer) = true)
    (a_least_machine : PySem.W.nsIn K mainGlobals "least_machine" = some (some (.ref f_least_machine)))
    (l_least_machine : K.lookup f_least_machine = some ⟨oc_least_machine, od_least_machine, .func (PySem.W.fnOf "least_machine" "least_machine" (defArgs s_least_machine) (defBody s_least_machine) (defScope s_least_machine) .none kV_least_machine dc_least_machine pm_least_machine an_least_machine cd_least_machine ct_least_machine), sl_least_machine⟩)
    (c_least_machine : PySem.W.codeIn K cd_least_machine "least_machine" = true)
    (k_least_machine : PySem.W.keepIn K (.ref f_least_machine) = true)
    (a_machines_parted : PySem.W.nsIn K mainGlobals "machines_parted" = some (some (.ref f_machines_parted)))
    (l_machines_parted : K.lookup f_machines_parted = some ⟨oc_machines_parted, od_machines_parted, .func (PySem.W.fnOf "machines_parted" "machines_parted" (defArgs s_machines_parted) (defBody s_machines_parted) (defScope s_machines_parted) .none kV_machines_parted dc_machines_parted pm_machines_parted an_machines_parted cd_machines_parted ct_machines_parted), sl_machines_parted⟩)
    (c_machines_parted : PySem.W.codeIn K cd_machines_parted "machines_parted" = true)
    (k_machines_parted : PySem.W.keepIn K (.ref f_machines_parted) = true)
    (a_mapped : PySem.W.nsIn K mainGlobals "mapped" = some (some (.ref f_mapped)))
    (l_mapped : K.lookup f_mapped = some ⟨oc_mapped, od_mapped, .func (PySem.W.fnOf "mapped" "mapped" (defArgs s_mapped) (defBody s_mapped) (defScope s_mapped) .none kV_mapped dc_mapped pm_mapped an_mapped cd_mapped ct_mapped), sl_mapped⟩)
    (c_mapped : PySem.W.codeIn K cd_mapped "mapped" = true)
    (k_mapped : PySem.W.keepIn K (.ref f_mapped) = true)
    (a_turned : PySem.W.nsIn K mainGlobals "turned" = some (some (.ref f_turned)))
    (l_turned : K.lookup f_turned = some ⟨oc_turned, od_turned, .func (PySem.W.fnOf "turned" "turned" (defArgs s_turned) (defBody s_turned) (defScope s_turned) .none kV_turned dc_turned pm_turned an_turned cd_turned ct_turned), sl_turned⟩)
    (c_turned : PySem.W.codeIn K cd_turned "turned" = true)
    (k_turned : PySem.W.keepIn K (.ref f_turned) = true)
    (a__law_asked : PySem.W.nsIn K mainGlobals "_law_asked" = some (some (.ref f__law_asked)))
    (l__law_asked : K.lookup f__law_asked = some ⟨oc__law_asked, od__law_asked, .func (PySem.W.fnOf "_law_asked" "_law_asked" (defArgs s__law_asked) (defBody s__law_asked) (defScope s__law_asked) .none kV__law_asked dc__law_asked pm__law_asked an__law_asked cd__law_asked ct__law_asked), sl__law_asked⟩)
    (c__law_asked : PySem.W.codeIn K cd__law_asked "_law_asked" = true)
    (k__law_asked : PySem.W.keepIn K (.ref f__law_asked) = true)
    (a__law_doors_right : PySem.W.nsIn K mainGlobals "_law_doors_right" = some (some (.ref f__law_doors_right)))
    (l__law_doors_right : K.lookup f__law_doors_right = some ⟨oc__law_doors_right, od__law_doors_right, .func (PySem.W.fnOf "_law_doors_right" "_law_doors_right" (defArgs s__law_doors_right) (defBody s__law_doors_right) (defScope s__law_doors_right) .none kV__law_doors_right dc__law_doors_right pm__law_doors_right an__law_doors_right cd__law_doors_right ct__law_doors_right), sl__law_doors_right⟩)
    (c__law_doors_right : PySem.W.codeIn K cd__law_doors_right "_law_doors_right" = true)
    (k__law_doors_right : PySem.W.keepIn K (.ref f__law_doors_right) = true)
    (a_law : PySem.W.nsIn K mainGlobals "law" = some (some (.ref f_law)))
    (l_law : K.lookup f_law = some ⟨oc_law, od_law, .func (PySem.W.fnOf "law" "law" (defArgs s_law) (defBody s_law) (defScope s_law) .none kV_law dc_law pm_law an_law cd_law ct_law), sl_law⟩)
    (c_law : PySem.W.codeIn K cd_law "law" = true)
    (k_law : PySem.W.keepIn K (.ref f_law) = true)
    (aC_InvalidMachine : PySem.W.nsIn K mainGlobals "InvalidMachine" = some (some (.ref C_InvalidMachine)))
    (aC_InvalidMap : PySem.W.nsIn K mainGlobals "InvalidMap" = some (some (.ref C_InvalidMap)))
    (aC_InvalidRow : PySem.W.nsIn K mainGlobals "InvalidRow" = some (some (.ref C_InvalidRow)))
    (aC_InvalidSize : PySem.W.nsIn K mainGlobals "InvalidSize" = some (some (.ref C_InvalidSize)))
    (aC_LazyError : PySem.W.nsIn K mainGlobals "LazyError" = some (some (.ref C_LazyError)))
    (ox_InvalidMachine : K.lookup C_InvalidMachine = some (excClassObj nm_InvalidMachine qu_InvalidMachine C_InvalidMachine N_InvalidMachine bs_InvalidMachine bm_InvalidMachine true sn_InvalidMachine su_InvalidMachine ab_InvalidMachine co_InvalidMachine de_InvalidMachine m0_InvalidMachine m1_InvalidMachine m2_InvalidMachine m3_InvalidMachine m5_InvalidMachine "ValueError.__new__"))
    (or_InvalidMachine : PySem.HandSPX.refsVE bm_InvalidMachine = true)
    (sa_InvalidMachine : PySem.W.findIn K (.ref C_InvalidMachine) "__setattr__" = some (some (.builtin "object.__setattr__")))
    (eC_InvalidMachine : PySem.W.subIn K (.ref C_InvalidMachine) (.type "BaseException") = some true)
    (tC_InvalidMachine : PySem.W.typeIn K (.ref C_InvalidMachine) = some (.type "type"))
    (kC_InvalidMachine : PySem.W.keepIn K (.ref C_InvalidMachine) = true)
    (na_InvalidMachine : PySem.W.findIn K (.ref C_InvalidMachine) "thing" = some none)
    (iC_InvalidMachine : PySem.W.findIn K (.ref C_InvalidMachine) "__init__" = some (some (.ref f_InvalidMachine__init)))
    (tI_InvalidMachine : PySem.W.typeIn K (.ref f_InvalidMachine__init) = some (.type "function"))
    (l_InvalidMachine__init : K.lookup f_InvalidMachine__init = some ⟨oc_InvalidMachine__init, od_InvalidMachine__init, .func (PySem.W.fnOf "__init__" "InvalidMachine.__init__" (defArgs s_InvalidMachine__init) (defBody s_InvalidMachine__init) (defScope s_InvalidMachine__init) (.ref TT_InvalidMachine__init) kV_InvalidMachine__init dc_InvalidMachine__init pm_InvalidMachine__init an_InvalidMachine__init cd_InvalidMachine__init ct_InvalidMachine__init), sl_InvalidMachine__init⟩)
    (lt_InvalidMachine__init : K.lookup TT_InvalidMachine__init = some ⟨te_InvalidMachine__init, td_InvalidMachine__init, .seq its_InvalidMachine__init tn_InvalidMachine__init, ts_InvalidMachine__init⟩)
    (lv_InvalidMachine__init : Vals [V.non] its_InvalidMachine__init.toList)
    (c_InvalidMachine__init : PySem.W.codeIn K cd_InvalidMachine__init "InvalidMachine.__init__" = true)
    (k_InvalidMachine__init : PySem.W.keepIn K (.ref f_InvalidMachine__init) = true)
    (ox_InvalidMap : K.lookup C_InvalidMap = some (excClassObj nm_InvalidMap qu_InvalidMap C_InvalidMap N_InvalidMap bs_InvalidMap bm_InvalidMap true sn_InvalidMap su_InvalidMap ab_InvalidMap co_InvalidMap de_InvalidMap m0_InvalidMap m1_InvalidMap m2_InvalidMap m3_InvalidMap m5_InvalidMap "ValueError.__new__"))
    (or_InvalidMap : PySem.HandSPX.refsVE bm_InvalidMap = true)
    (sa_InvalidMap : PySem.W.findIn K (.ref C_InvalidMap) "__setattr__" = some (some (.builtin "object.__setattr__")))
    (eC_InvalidMap : PySem.W.subIn K (.ref C_InvalidMap) (.type "BaseException") = some true)
    (tC_InvalidMap : PySem.W.typeIn K (.ref C_InvalidMap) = some (.type "type"))
    (kC_InvalidMap : PySem.W.keepIn K (.ref C_InvalidMap) = true)
    (na_InvalidMap : PySem.W.findIn K (.ref C_InvalidMap) "thing" = some none)
    (iC_InvalidMap : PySem.W.findIn K (.ref C_InvalidMap) "__init__" = some (some (.ref f_InvalidMap__init)))
    (tI_InvalidMap : PySem.W.typeIn K (.ref f_InvalidMap__init) = some (.type "function"))
    (l_InvalidMap__init : K.lookup f_InvalidMap__init = some ⟨oc_InvalidMap__init, od_InvalidMap__init, .func (PySem.W.fnOf "__init__" "InvalidMap.__init__" (defArgs s_InvalidMap__init) (defBody s_InvalidMap__init) (defScope s_InvalidMap__init) (.ref TT_InvalidMap__init) kV_InvalidMap__init dc_InvalidMap__init pm_InvalidMap__init an_InvalidMap__init cd_InvalidMap__init ct_InvalidMap__init), sl_InvalidMap__init⟩)
    (lt_InvalidMap__init : K.lookup TT_InvalidMap__init = some ⟨te_InvalidMap__init, td_InvalidMap__init, .seq its_InvalidMap__init tn_InvalidMap__init, ts_InvalidMap__init⟩)
    (lv_InvalidMap__init : Vals [V.non] its_InvalidMap__init.toList)
    (c_InvalidMap__init : PySem.W.codeIn K cd_InvalidMap__init "InvalidMap.__init__" = true)
    (k_InvalidMap__init : PySem.W.keepIn K (.ref f_InvalidMap__init) = true)
    (ox_InvalidRow : K.lookup C_InvalidRow = some (excClassObj nm_InvalidRow qu_InvalidRow C_InvalidRow N_InvalidRow bs_InvalidRow bm_InvalidRow true sn_InvalidRow su_InvalidRow ab_InvalidRow co_InvalidRow de_InvalidRow m0_InvalidRow m1_InvalidRow m2_InvalidRow m3_InvalidRow m5_InvalidRow "ValueError.__new__"))
    (or_InvalidRow : PySem.HandSPX.refsVE bm_InvalidRow = true)
    (sa_InvalidRow : PySem.W.findIn K (.ref C_InvalidRow) "__setattr__" = some (some (.builtin "object.__setattr__")))
    (eC_InvalidRow : PySem.W.subIn K (.ref C_InvalidRow) (.type "BaseException") = some true)
    (tC_InvalidRow : PySem.W.typeIn K (.ref C_InvalidRow) = some (.type "type"))
    (kC_InvalidRow : PySem.W.keepIn K (.ref C_InvalidRow) = true)
    (na_InvalidRow : PySem.W.findIn K (.ref C_InvalidRow) "thing" = some none)
    (iC_InvalidRow : PySem.W.findIn K (.ref C_InvalidRow) "__init__" = some (some (.ref f_InvalidRow__init)))
    (tI_InvalidRow : PySem.W.typeIn K (.ref f_InvalidRow__init) = some (.type "function"))
    (l_InvalidRow__init : K.lookup f_InvalidRow__init = some ⟨oc_InvalidRow__init, od_InvalidRow__init, .func (PySem.W.fnOf "__init__" "InvalidRow.__init__" (defArgs s_InvalidRow__init) (defBody s_InvalidRow__init) (defScope s_InvalidRow__init) (.ref TT_InvalidRow__init) kV_InvalidRow__init dc_InvalidRow__init pm_InvalidRow__init an_InvalidRow__init cd_InvalidRow__init ct_InvalidRow__init), sl_InvalidRow__init⟩)
    (lt_InvalidRow__init : K.lookup TT_InvalidRow__init = some ⟨te_InvalidRow__init, td_InvalidRow__init, .seq its_InvalidRow__init tn_InvalidRow__init, ts_InvalidRow__init⟩)
    (lv_InvalidRow__init : Vals [V.non] its_InvalidRow__init.toList)
    (c_InvalidRow__init : PySem.W.codeIn K cd_InvalidRow__init "InvalidRow.__init__" = true)
    (k_InvalidRow__init : PySem.W.keepIn K (.ref f_InvalidRow__init) = true)
    (ox_InvalidSize : K.lookup C_InvalidSize = some (excClassObj nm_InvalidSize qu_InvalidSize C_InvalidSize N_InvalidSize bs_InvalidSize bm_InvalidSize true sn_InvalidSize su_InvalidSize ab_InvalidSize co_InvalidSize de_InvalidSize m0_InvalidSize m1_InvalidSize m2_InvalidSize m3_InvalidSize m5_InvalidSize "ValueError.__new__"))
    (or_InvalidSize : PySem.HandSPX.refsVE bm_InvalidSize = true)
    (sa_InvalidSize : PySem.W.findIn K (.ref C_InvalidSize) "__setattr__" = some (some (.builtin "object.__setattr__")))
    (eC_InvalidSize : PySem.W.subIn K (.ref C_InvalidSize) (.type "BaseException") = some true)
    (tC_InvalidSize : PySem.W.typeIn K (.ref C_InvalidSize) = some (.type "type"))
    (kC_InvalidSize : PySem.W.keepIn K (.ref C_InvalidSize) = true)
    (na_InvalidSize : PySem.W.findIn K (.ref C_InvalidSize) "size" = some none)
    (iC_InvalidSize : PySem.W.findIn K (.ref C_InvalidSize) "__init__" = some (some (.ref f_InvalidSize__init)))
    (tI_InvalidSize : PySem.W.typeIn K (.ref f_InvalidSize__init) = some (.type "function"))
    (l_InvalidSize__init : K.lookup f_InvalidSize__init = some ⟨oc_InvalidSize__init, od_InvalidSize__init, .func (PySem.W.fnOf "__init__" "InvalidSize.__init__" (defArgs s_InvalidSize__init) (defBody s_InvalidSize__init) (defScope s_InvalidSize__init) (.ref TT_InvalidSize__init) kV_InvalidSize__init dc_InvalidSize__init pm_InvalidSize__init an_InvalidSize__init cd_InvalidSize__init ct_InvalidSize__init), sl_InvalidSize__init⟩)
    (lt_InvalidSize__init : K.lookup TT_InvalidSize__init = some ⟨te_InvalidSize__init, td_InvalidSize__init, .seq its_InvalidSize__init tn_InvalidSize__init, ts_InvalidSize__init⟩)
    (lv_InvalidSize__init : Vals [V.non] its_InvalidSize__init.toList)
    (c_InvalidSize__init : PySem.W.codeIn K cd_InvalidSize__init "InvalidSize.__init__" = true)
    (k_InvalidSize__init : PySem.W.keepIn K (.ref f_InvalidSize__init) = true)
    (kit_cl_InvalidMachine : (PySem.W.clsIn K C_InvalidMachine).isSome = true)
    (ga_InvalidMachine : PySem.W.findIn K (.ref C_InvalidMachine) "__getattribute__" = some (some (.builtin "BaseException.__getattribute__")))
    (gg_InvalidMachine : PySem.W.findIn K (.ref C_InvalidMachine) "__getattr__" = some none)
    (hd_InvalidMachine : PySem.W.hasDictIn K C_InvalidMachine = true)
    (ia_InvalidMachine : PySem.W.findIn K (.ref C_InvalidMachine) "__class__" = some (some (.builtin "object.__class__")))
    (ib_InvalidMachine : PySem.W.specialIn K (.builtin "object.__class__") "__get__" = some (some (.builtin "getset_descriptor.__get__")))
    (ic_InvalidMachine : PySem.W.takesIn K (.builtin "object.__class__") = some true)
    (id_InvalidMachine : PySem.W.mroIn K C_InvalidMachine (.type "object") = some true)
    (kit_InvalidMachine_InvalidMachine : PySem.W.kitOne K (.ref C_InvalidMachine) (.ref C_InvalidMachine) = some true)
    (kit_InvalidMachine_InvalidMap : PySem.W.kitOne K (.ref C_InvalidMachine) (.ref C_InvalidMap) = some false)
    (kit_InvalidMachine_InvalidRow : PySem.W.kitOne K (.ref C_InvalidMachine) (.ref C_InvalidRow) = some false)
    (kit_InvalidMachine_InvalidSize : PySem.W.kitOne K (.ref C_InvalidMachine) (.ref C_InvalidSize) = some false)
    (kit_x_InvalidMachine_LazyError : PySem.W.exmOne K (.ref C_InvalidMachine) (.ref C_LazyError) = some true)
    (kit_cl_InvalidMap : (PySem.W.clsIn K C_InvalidMap).isSome = true)
    (ga_InvalidMap : PySem.W.findIn K (.ref C_InvalidMap) "__getattribute__" = some (some (.builtin "BaseException.__getattribute__")))
    (gg_InvalidMap : PySem.W.findIn K (.ref C_InvalidMap) "__getattr__" = some none)
    (hd_InvalidMap : PySem.W.hasDictIn K C_InvalidMap = true)
    (ia_InvalidMap : PySem.W.findIn K (.ref C_InvalidMap) "__class__" = some (some (.builtin "object.__class__")))
    (ib_InvalidMap : PySem.W.specialIn K (.builtin "object.__class__") "__get__" = some (some (.builtin "getset_descriptor.__get__")))
    (ic_InvalidMap : PySem.W.takesIn K (.builtin "object.__class__") = some true)
    (id_InvalidMap : PySem.W.mroIn K C_InvalidMap (.type "object") = some true)
    (kit_InvalidMap_InvalidMachine : PySem.W.kitOne K (.ref C_InvalidMap) (.ref C_InvalidMachine) = some false)
    (kit_InvalidMap_InvalidMap : PySem.W.kitOne K (.ref C_InvalidMap) (.ref C_InvalidMap) = some true)
    (kit_InvalidMap_InvalidRow : PySem.W.kitOne K (.ref C_InvalidMap) (.ref C_InvalidRow) = some false)
    (kit_InvalidMap_InvalidSize : PySem.W.kitOne K (.ref C_InvalidMap) (.ref C_InvalidSize) = some false)
    (kit_x_InvalidMap_LazyError : PySem.W.exmOne K (.ref C_InvalidMap) (.ref C_LazyError) = some true)
    (kit_cl_InvalidRow : (PySem.W.clsIn K C_InvalidRow).isSome = true)
    (ga_InvalidRow : PySem.W.findIn K (.ref C_InvalidRow) "__getattribute__" = some (some (.builtin "BaseException.__getattribute__")))
    (gg_InvalidRow : PySem.W.findIn K (.ref C_InvalidRow) "__getattr__" = some none)
    (hd_InvalidRow : PySem.W.hasDictIn K C_InvalidRow = true)
    (ia_InvalidRow : PySem.W.findIn K (.ref C_InvalidRow) "__class__" = some (some (.builtin "object.__class__")))
    (ib_InvalidRow : PySem.W.specialIn K (.builtin "object.__class__") "__get__" = some (some (.builtin "getset_descriptor.__get__")))
    (ic_InvalidRow : PySem.W.takesIn K (.builtin "object.__class__") = some true)
    (id_InvalidRow : PySem.W.mroIn K C_InvalidRow (.type "object") = some true)
    (kit_InvalidRow_InvalidMachine : PySem.W.kitOne K (.ref C_InvalidRow) (.ref C_InvalidMachine) = some false)
    (kit_InvalidRow_InvalidMap : PySem.W.kitOne K (.ref C_InvalidRow) (.ref C_InvalidMap) = some false)
    (kit_InvalidRow_InvalidRow : PySem.W.kitOne K (.ref C_InvalidRow) (.ref C_InvalidRow) = some true)
    (kit_InvalidRow_InvalidSize : PySem.W.kitOne K (.ref C_InvalidRow) (.ref C_InvalidSize) = some false)
    (kit_x_InvalidRow_LazyError : PySem.W.exmOne K (.ref C_InvalidRow) (.ref C_LazyError) = some true)
    (kit_cl_InvalidSize : (PySem.W.clsIn K C_InvalidSize).isSome = true)
    (ga_InvalidSize : PySem.W.findIn K (.ref C_InvalidSize) "__getattribute__" = some (some (.builtin "BaseException.__getattribute__")))
    (gg_InvalidSize : PySem.W.findIn K (.ref C_InvalidSize) "__getattr__" = some none)
    (hd_InvalidSize : PySem.W.hasDictIn K C_InvalidSize = true)
    (ia_InvalidSize : PySem.W.findIn K (.ref C_InvalidSize) "__class__" = some (some (.builtin "object.__class__")))
    (ib_InvalidSize : PySem.W.specialIn K (.builtin "object.__class__") "__get__" = some (some (.builtin "getset_descriptor.__get__")))
    (ic_InvalidSize : PySem.W.takesIn K (.builtin "object.__class__") = some true)
    (id_InvalidSize : PySem.W.mroIn K C_InvalidSize (.type "object") = some true)
    (kit_InvalidSize_InvalidMachine : PySem.W.kitOne K (.ref C_InvalidSize) (.ref C_InvalidMachine) = some false)
    (kit_InvalidSize_InvalidMap : PySem.W.kitOne K (.ref C_InvalidSize) (.ref C_InvalidMap) = some false)
    (kit_InvalidSize_InvalidRow : PySem.W.kitOne K (.ref C_InvalidSize) (.ref C_InvalidRow) = some false)
    (kit_InvalidSize_InvalidSize : PySem.W.kitOne K (.ref C_InvalidSize) (.ref C_InvalidSize) = some true)
    (kit_x_InvalidSize_LazyError : PySem.W.exmOne K (.ref C_InvalidSize) (.ref C_LazyError) = some true)
    (kit_InvalidMachine_NoneType : PySem.W.kitOne K (.type "NoneType") (.ref C_InvalidMachine) = some false)
    (kit_InvalidMachine_bool : PySem.W.kitOne K (.type "bool") (.ref C_InvalidMachine) = some false)
    (kit_InvalidMachine_int : PySem.W.kitOne K (.type "int") (.ref C_InvalidMachine) = some false)
    (kit_InvalidMachine_str : PySem.W.kitOne K (.type "str") (.ref C_InvalidMachine) = some false)
    (kit_InvalidMachine_tuple : PySem.W.kitOne K (.type "tuple") (.ref C_InvalidMachine) = some false)
    (kit_InvalidMachine_list : PySem.W.kitOne K (.type "list") (.ref C_InvalidMachine) = some false)
    (kit_InvalidMachine_dict : PySem.W.kitOne K (.type "dict") (.ref C_InvalidMachine) = some false)
    (kit_InvalidMap_NoneType : PySem.W.kitOne K (.type "NoneType") (.ref C_InvalidMap) = some false)
    (kit_InvalidMap_bool : PySem.W.kitOne K (.type "bool") (.ref C_InvalidMap) = some false)
    (kit_InvalidMap_int : PySem.W.kitOne K (.type "int") (.ref C_InvalidMap) = some false)
    (kit_InvalidMap_str : PySem.W.kitOne K (.type "str") (.ref C_InvalidMap) = some false)
    (kit_InvalidMap_tuple : PySem.W.kitOne K (.type "tuple") (.ref C_InvalidMap) = some false)
    (kit_InvalidMap_list : PySem.W.kitOne K (.type "list") (.ref C_InvalidMap) = some false)
    (kit_InvalidMap_dict : PySem.W.kitOne K (.type "dict") (.ref C_InvalidMap) = some false)
    (kit_InvalidRow_NoneType : PySem.W.kitOne K (.type "NoneType") (.ref C_InvalidRow) = some false)
    (kit_InvalidRow_bool : PySem.W.kitOne K (.type "bool") (.ref C_InvalidRow) = some false)
    (kit_InvalidRow_int : PySem.W.kitOne K (.type "int") (.ref C_InvalidRow) = some false)
    (kit_InvalidRow_str : PySem.W.kitOne K (.type "str") (.ref C_InvalidRow) = some false)
    (kit_InvalidRow_tuple : PySem.W.kitOne K (.type "tuple") (.ref C_InvalidRow) = some false)
    (kit_InvalidRow_list : PySem.W.kitOne K (.type "list") (.ref C_InvalidRow) = some false)
    (kit_InvalidRow_dict : PySem.W.kitOne K (.type "dict") (.ref C_InvalidRow) = some false)
    (kit_InvalidSize_NoneType : PySem.W.kitOne K (.type "NoneType") (.ref C_InvalidSize) = some false)
    (kit_InvalidSize_bool : PySem.W.kitOne K (.type "bool") (.ref C_InvalidSize) = some false)
    (kit_InvalidSize_int : PySem.W.kitOne K (.type "int") (.ref C_InvalidSize) = some false)
    (kit_InvalidSize_str : PySem.W.kitOne K (.type "str") (.ref C_InvalidSize) = some false)
    (kit_InvalidSize_tuple : PySem.W.kitOne K (.type "tuple") (.ref C_InvalidSize) = some false)
    (kit_InvalidSize_list : PySem.W.kitOne K (.type "list") (.ref C_InvalidSize) = some false)
    (kit_InvalidSize_dict : PySem.W.kitOne K (.type "dict") (.ref C_InvalidSize) = some false)
    (z_all : PySem.W.nsIn K mainGlobals "all" = some none)
    (z_bool : PySem.W.nsIn K mainGlobals "bool" = some none)
    (z_enumerate : PySem.W.nsIn K mainGlobals "enumerate" = some none)
    (z_int : PySem.W.nsIn K mainGlobals "int" = some none)
    (z_isinstance : PySem.W.nsIn K mainGlobals "isinstance" = some none)
    (z_len : PySem.W.nsIn K mainGlobals "len" = some none)
    (z_list : PySem.W.nsIn K mainGlobals "list" = some none)
    (z_max : PySem.W.nsIn K mainGlobals "max" = some none)
    (z_min : PySem.W.nsIn K mainGlobals "min" = some none)
    (z_next : PySem.W.nsIn K mainGlobals "next" = some none)
    (z_range : PySem.W.nsIn K mainGlobals "range" = some none)
    (z_tuple : PySem.W.nsIn K mainGlobals "tuple" = some none)
    (y_MOST_ANSWER : PySem.W.nsIn K mainGlobals "MOST_ANSWER" = some (some (.int 99 t_MOST_ANSWER)))
    (y_MOST_VALUES : PySem.W.nsIn K mainGlobals "MOST_VALUES" = some (some (.int 4 t_MOST_VALUES)))
    : LawM l w K 13 "_law_script" mg fa h m_law := by
  cases hfa.symm.trans (PySem.W.mg_of X G a_law)
  have D__law_purse : DefAt K mg "_law_purse" s__law_purse _ _ := ⟨fun_mk l__law_purse c__law_purse k__law_purse, PySem.W.mg_of X G a__law_purse⟩
  have D__law_mixed : DefAt K mg "_law_mixed" s__law_mixed _ _ := ⟨fun_mk l__law_mixed c__law_mixed k__law_mixed, PySem.W.mg_of X G a__law_mixed⟩
  have D__law_draw : DefAt K mg "_law_draw" s__law_draw _ _ := ⟨fun_mk l__law_draw c__law_draw k__law_draw, PySem.W.mg_of X G a__law_draw⟩
  have D__law_machine : DefAt K mg "_law_machine" s__law_machine _ _ := ⟨fun_mk l__law_machine c__law_machine k__law_machine, PySem.W.mg_of X G a__law_machine⟩
  have D__law_odd : DefAt K mg "_law_odd" s__law_odd _ _ := ⟨fun_mk l__law_odd c__law_odd k__law_odd, PySem.W.mg_of X G a__law_odd⟩
  have D__law_bent_part : DefAt K mg "_law_bent_part" s__law_bent_part _ _ := ⟨fun_mk l__law_bent_part c__law_bent_part k__law_bent_part, PySem.W.mg_of X G a__law_bent_part⟩
  have D__law_bent : DefAt K mg "_law_bent" s__law_bent _ _ := ⟨fun_mk l__law_bent c__law_bent k__law_bent, PySem.W.mg_of X G a__law_bent⟩
  have D_is_integer : DefAt K mg "is_integer" s_is_integer _ _ := ⟨fun_mk l_is_integer c_is_integer k_is_integer, PySem.W.mg_of X G a_is_integer⟩
  have D_require_size : DefAt K mg "require_size" s_require_size _ _ := ⟨fun_mk l_require_size c_require_size k_require_size, PySem.W.mg_of X G a_require_size⟩
  have D_is_row : DefAt K mg "is_row" s_is_row _ _ := ⟨fun_mk l_is_row c_is_row k_is_row, PySem.W.mg_of X G a_is_row⟩
  have D_fault_of : DefAt K mg "fault_of" s_fault_of _ _ := ⟨fun_mk l_fault_of c_fault_of k_fault_of, PySem.W.mg_of X G a_fault_of⟩
  have D_check_machine : DefAt K mg "check_machine" s_check_machine _ _ := ⟨fun_mk l_check_machine c_check_machine k_check_machine, PySem.W.mg_of X G a_check_machine⟩
  have D__law_int : DefAt K mg "_law_int" s__law_int _ _ := ⟨fun_mk l__law_int c__law_int k__law_int, PySem.W.mg_of X G a__law_int⟩
  have D__law_ints : DefAt K mg "_law_ints" s__law_ints _ _ := ⟨fun_mk l__law_ints c__law_ints k__law_ints, PySem.W.mg_of X G a__law_ints⟩
  have D__law_due : DefAt K mg "_law_due" s__law_due _ _ := ⟨fun_mk l__law_due c__law_due k__law_due, PySem.W.mg_of X G a__law_due⟩
  have D_size_of : DefAt K mg "size_of" s_size_of _ _ := ⟨fun_mk l_size_of c_size_of k_size_of, PySem.W.mg_of X G a_size_of⟩
  have D_require_machine : DefAt K mg "require_machine" s_require_machine _ _ := ⟨fun_mk l_require_machine c_require_machine k_require_machine, PySem.W.mg_of X G a_require_machine⟩
  have D_answer : DefAt K mg "answer" s_answer _ _ := ⟨fun_mk l_answer c_answer k_answer, PySem.W.mg_of X G a_answer⟩
  have D_least_machine : DefAt K mg "least_machine" s_least_machine _ _ := ⟨fun_mk l_least_machine c_least_machine k_least_machine, PySem.W.mg_of X G a_least_machine⟩
  have D_machines_parted : DefAt K mg "machines_parted" s_machines_parted _ _ := ⟨fun_mk l_machines_parted c_machines_parted k_machines_parted, PySem.W.mg_of X G a_machines_parted⟩
  have D_mapped : DefAt K mg "mapped" s_mapped _ _ := ⟨fun_mk l_mapped c_mapped k_mapped, PySem.W.mg_of X G a_mapped⟩
  have D_turned : DefAt K mg "turned" s_turned _ _ := ⟨fun_mk l_turned c_turned k_turned, PySem.W.mg_of X G a_turned⟩
  have D__law_asked : DefAt K mg "_law_asked" s__law_asked _ _ := ⟨fun_mk l__law_asked c__law_asked k__law_asked, PySem.W.mg_of X G a__law_asked⟩
  have D__law_doors_right : DefAt K mg "_law_doors_right" s__law_doors_right _ _ := ⟨fun_mk l__law_doors_right c__law_doors_right k__law_doors_right, PySem.W.mg_of X G a__law_doors_right⟩
  have D_law : DefAt K mg "law" s_law _ _ := ⟨fun_mk l_law c_law k_law, PySem.W.mg_of X G a_law⟩
  refine ⟨PySem.W.fnOf "law" "law" (defArgs s_law) (defBody s_law) (defScope s_law) .none kV_law dc_law pm_law an_law cd_law ct_law, [(cc_size_of, P_size_of)], (List.forall_mem_cons.mpr ⟨⟨N "size_of" _ q_size_of D_size_of.m _ _ _ _ _ _ _ _ l_size_of rfl rfl g_size_of v_size_of, n_size_of, PySem.W.codeHd_of_K X h_size_of⟩, (fun _ z => (List.not_mem_nil z).elim)⟩), fun s v => .of_eq rfl, fun base KB GB TB => ?_⟩
  have B : Bi mg := ⟨PySem.W.mg_none_of X G z_all, PySem.W.mg_none_of X G z_bool, PySem.W.mg_none_of X G z_enumerate, PySem.W.mg_none_of X G z_int, PySem.W.mg_none_of X G z_isinstance, PySem.W.mg_none_of X G z_len, PySem.W.mg_none_of X G z_list, PySem.W.mg_none_of X G z_max, PySem.W.mg_none_of X G z_min, PySem.W.mg_none_of X G z_next, PySem.W.mg_none_of X G z_range, PySem.W.mg_none_of X G z_tuple, ⟨_, PySem.W.mg_of X G y_MOST_ANSWER⟩, ⟨_, PySem.W.mg_of X G y_MOST_VALUES⟩⟩
  have mg_InvalidMachine := PySem.W.mg_of X G aC_InvalidMachine
  have T_InvalidMachine : OexC K C_InvalidMachine := ⟨⟨_, _, _, _, _, _, _, _, _, _, _, _, _, _, _, ox_InvalidMachine, or_InvalidMachine⟩, sa_InvalidMachine, eC_InvalidMachine, tC_InvalidMachine, kC_InvalidMachine⟩
  have FD_InvalidMachine := fnD_mk (st := s_InvalidMachine__init) l_InvalidMachine__init c_InvalidMachine__init k_InvalidMachine__init lt_InvalidMachine__init lv_InvalidMachine__init
  have Fe_InvalidMachine := fn_err (P := l.prog) (w := w) (mg := mg) (base := base) (k := 0) (f := "thing") FD_InvalidMachine ⟨rfl, rfl, rfl, by decide +kernel, rfl, by decide +kernel, by decide +kernel⟩ (fun _ _ _ _ _ _ => pss_one (ps_ost (pe_var (i := 0) rfl (.inl rfl)) (pe_var (i := 1) rfl (.inl rfl))))
  obtain ⟨ds_InvalidMachine, hv_InvalidMachine, Fb_InvalidMachine⟩ := FD_InvalidMachine.binds (ps := ["self", "thing"]) 2 1 rfl (fun _ _ _ _ _ _ _ us its h1 h2 => match us, its, h1, h2 with | [_, _], [_], _, _ => ⟨_, rfl, rfl⟩)
  cases (show Vals [] ds_InvalidMachine from hv_InvalidMachine)
  have Ec_InvalidMachine : ErrC K C_InvalidMachine := ⟨kit_cl_InvalidMachine, ga_InvalidMachine, gg_InvalidMachine, eC_InvalidMachine, hd_InvalidMachine, ia_InvalidMachine, ib_InvalidMachine, ic_InvalidMachine, id_InvalidMachine⟩
  have Ek_InvalidMachine : ErrK K mg "InvalidMachine" C_InvalidMachine := ⟨mg_InvalidMachine, Ec_InvalidMachine⟩
  have Em_InvalidMachine : ErrMk l.prog w K mg base "InvalidMachine" "thing" C_InvalidMachine _ _ := ⟨mg_InvalidMachine, T_InvalidMachine, na_InvalidMachine, iC_InvalidMachine, tI_InvalidMachine, Fe_InvalidMachine, Fb_InvalidMachine⟩
  have mg_InvalidMap := PySem.W.mg_of X G aC_InvalidMap
  have T_InvalidMap : OexC K C_InvalidMap := ⟨⟨_, _, _, _, _, _, _, _, _, _, _, _, _, _, _, ox_InvalidMap, or_InvalidMap⟩, sa_InvalidMap, eC_InvalidMap, tC_InvalidMap, kC_InvalidMap⟩
  have FD_InvalidMap := fnD_mk (st := s_InvalidMap__init) l_InvalidMap__init c_InvalidMap__init k_InvalidMap__init lt_InvalidMap__init lv_InvalidMap__init
  have Fe_InvalidMap := fn_err (P := l.prog) (w := w) (mg := mg) (base := base) (k := 0) (f := "thing") FD_InvalidMap ⟨rfl, rfl, rfl, by decide +kernel, rfl, by decide +kernel, by decide +kernel⟩ (fun _ _ _ _ _ _ => pss_one (ps_ost (pe_var (i := 0) rfl (.inl rfl)) (pe_var (i := 1) rfl (.inl rfl))))
  obtain ⟨ds_InvalidMap, hv_InvalidMap, Fb_InvalidMap⟩ := FD_InvalidMap.binds (ps := ["self", "thing"]) 2 1 rfl (fun _ _ _ _ _ _ _ us its h1 h2 => match us, its, h1, h2 with | [_, _], [_], _, _ => ⟨_, rfl, rfl⟩)
  cases (show Vals [] ds_InvalidMap from hv_InvalidMap)
  have Ec_InvalidMap : ErrC K C_InvalidMap := ⟨kit_cl_InvalidMap, ga_InvalidMap, gg_InvalidMap, eC_InvalidMap, hd_InvalidMap, ia_InvalidMap, ib_InvalidMap, ic_InvalidMap, id_InvalidMap⟩
  have Ek_InvalidMap : ErrK K mg "InvalidMap" C_InvalidMap := ⟨mg_InvalidMap, Ec_InvalidMap⟩
  have Em_InvalidMap : ErrMk l.prog w K mg base "InvalidMap" "thing" C_InvalidMap _ _ := ⟨mg_InvalidMap, T_InvalidMap, na_InvalidMap, iC_InvalidMap, tI_InvalidMap, Fe_InvalidMap, Fb_InvalidMap⟩
  have mg_InvalidRow := PySem.W.mg_of X G aC_InvalidRow
  have T_InvalidRow : OexC K C_InvalidRow := ⟨⟨_, _, _, _, _, _, _, _, _, _, _, _, _, _, _, ox_InvalidRow, or_InvalidRow⟩, sa_InvalidRow, eC_InvalidRow, tC_InvalidRow, kC_InvalidRow⟩
  have FD_InvalidRow := fnD_mk (st := s_InvalidRow__init) l_InvalidRow__init c_InvalidRow__init k_InvalidRow__init lt_InvalidRow__init lv_InvalidRow__init
  have Fe_InvalidRow := fn_err (P := l.prog) (w := w) (mg := mg) (base := base) (k := 0) (f := "thing") FD_InvalidRow ⟨rfl, rfl, rfl, by decide +kernel, rfl, by decide +kernel, by decide +kernel⟩ (fun _ _ _ _ _ _ => pss_one (ps_ost (pe_var (i := 0) rfl (.inl rfl)) (pe_var (i := 1) rfl (.inl rfl))))
  obtain ⟨ds_InvalidRow, hv_InvalidRow, Fb_InvalidRow⟩ := FD_InvalidRow.binds (ps := ["self", "thing"]) 2 1 rfl (fun _ _ _ _ _ _ _ us its h1 h2 => match us, its, h1, h2 with | [_, _], [_], _, _ => ⟨_, rfl, rfl⟩)
  cases (show Vals [] ds_InvalidRow from hv_InvalidRow)
  have Ec_InvalidRow : ErrC K C_InvalidRow := ⟨kit_cl_InvalidRow, ga_InvalidRow, gg_InvalidRow, eC_InvalidRow, hd_InvalidRow, ia_InvalidRow, ib_InvalidRow, ic_InvalidRow, id_InvalidRow⟩
  have Ek_InvalidRow : ErrK K mg "InvalidRow" C_InvalidRow := ⟨mg_InvalidRow, Ec_InvalidRow⟩
  have Em_InvalidRow : ErrMk l.prog w K mg base "InvalidRow" "thing" C_InvalidRow _ _ := ⟨mg_InvalidRow, T_InvalidRow, na_InvalidRow, iC_InvalidRow, tI_InvalidRow, Fe_InvalidRow, Fb_InvalidRow⟩
  have mg_InvalidSize := PySem.W.mg_of X G aC_InvalidSize
  have T_InvalidSize : OexC K C_InvalidSize := ⟨⟨_, _, _, _, _, _, _, _, _, _, _, _, _, _, _, ox_InvalidSize, or_InvalidSize⟩, sa_InvalidSize, eC_InvalidSize, tC_InvalidSize, kC_InvalidSize⟩
  have FD_InvalidSize := fnD_mk (st := s_InvalidSize__init) l_InvalidSize__init c_InvalidSize__init k_InvalidSize__init lt_InvalidSize__init lv_InvalidSize__init
  have Fe_InvalidSize := fn_err (P := l.prog) (w := w) (mg := mg) (base := base) (k := 0) (f := "size") FD_InvalidSize ⟨rfl, rfl, rfl, by decide +kernel, rfl, by decide +kernel, by decide +kernel⟩ (fun _ _ _ _ _ _ => pss_one (ps_ost (pe_var (i := 0) rfl (.inl rfl)) (pe_var (i := 1) rfl (.inl rfl))))
  obtain ⟨ds_InvalidSize, hv_InvalidSize, Fb_InvalidSize⟩ := FD_InvalidSize.binds (ps := ["self", "size"]) 2 1 rfl (fun _ _ _ _ _ _ _ us its h1 h2 => match us, its, h1, h2 with | [_, _], [_], _, _ => ⟨_, rfl, rfl⟩)
  cases (show Vals [] ds_InvalidSize from hv_InvalidSize)
  have Ec_InvalidSize : ErrC K C_InvalidSize := ⟨kit_cl_InvalidSize, ga_InvalidSize, gg_InvalidSize, eC_InvalidSize, hd_InvalidSize, ia_InvalidSize, ib_InvalidSize, ic_InvalidSize, id_InvalidSize⟩
  have Ek_InvalidSize : ErrK K mg "InvalidSize" C_InvalidSize := ⟨mg_InvalidSize, Ec_InvalidSize⟩
  have Em_InvalidSize : ErrMk l.prog w K mg base "InvalidSize" "size" C_InvalidSize _ _ := ⟨mg_InvalidSize, T_InvalidSize, na_InvalidSize, iC_InvalidSize, tI_InvalidSize, Fe_InvalidSize, Fb_InvalidSize⟩
  have Ei_InvalidMachine : IsiE K mg "InvalidMachine" C_InvalidMachine tab_InvalidMachine := ⟨PySem.W.mg_of X G aC_InvalidMachine, kit_InvalidMachine_NoneType, kit_InvalidMachine_bool, kit_InvalidMachine_int, kit_InvalidMachine_str, kit_InvalidMachine_tuple, kit_InvalidMachine_list, kit_InvalidMachine_dict, fun k b h => by
    unfold tab_InvalidMachine at h
    by_cases e_InvalidMachine : k = "InvalidMachine"
    · subst e_InvalidMachine; rw [List.lookup_cons_self] at h; cases h; exact ⟨_, Ek_InvalidMachine, kit_InvalidMachine_InvalidMachine⟩
    rw [List.lookup_cons, beq_eq_false_iff_ne.mpr e_InvalidMachine] at h
    by_cases e_InvalidMap : k = "InvalidMap"
    · subst e_InvalidMap; rw [List.lookup_cons_self] at h; cases h; exact ⟨_, Ek_InvalidMap, kit_InvalidMap_InvalidMachine⟩
    rw [List.lookup_cons, beq_eq_false_iff_ne.mpr e_InvalidMap] at h
    by_cases e_InvalidRow : k = "InvalidRow"
    · subst e_InvalidRow; rw [List.lookup_cons_self] at h; cases h; exact ⟨_, Ek_InvalidRow, kit_InvalidRow_InvalidMachine⟩
    rw [List.lookup_cons, beq_eq_false_iff_ne.mpr e_InvalidRow] at h
    by_cases e_InvalidSize : k = "InvalidSize"
    · subst e_InvalidSize; rw [List.lookup_cons_self] at h; cases h; exact ⟨_, Ek_InvalidSize, kit_InvalidSize_InvalidMachine⟩
    rw [List.lookup_cons, beq_eq_false_iff_ne.mpr e_InvalidSize] at h
    cases h⟩
  have Ei_InvalidMap : IsiE K mg "InvalidMap" C_InvalidMap tab_InvalidMap := ⟨PySem.W.mg_of X G aC_InvalidMap, kit_InvalidMap_NoneType, kit_InvalidMap_bool, kit_InvalidMap_int, kit_InvalidMap_str, kit_InvalidMap_tuple, kit_InvalidMap_list, kit_InvalidMap_dict, fun k b h => by
    unfold tab_InvalidMap at h
    by_cases e_InvalidMachine : k = "InvalidMachine"
    · subst e_InvalidMachine; rw [List.lookup_cons_self] at h; cases h; exact ⟨_, Ek_InvalidMachine, kit_InvalidMachine_InvalidMap⟩
    rw [List.lookup_cons, beq_eq_false_iff_ne.mpr e_InvalidMachine] at h
    by_cases e_InvalidMap : k = "InvalidMap"
    · subst e_InvalidMap; rw [List.lookup_cons_self] at h; cases h; exact ⟨_, Ek_InvalidMap, kit_InvalidMap_InvalidMap⟩
    rw [List.lookup_cons, beq_eq_false_iff_ne.mpr e_InvalidMap] at h
    by_cases e_InvalidRow : k = "InvalidRow"
    · subst e_InvalidRow; rw [List.lookup_cons_self] at h; cases h; exact ⟨_, Ek_InvalidRow, kit_InvalidRow_InvalidMap⟩
    rw [List.lookup_cons, beq_eq_false_iff_ne.mpr e_InvalidRow] at h
    by_cases e_InvalidSize : k = "InvalidSize"
    · subst e_InvalidSize; rw [List.lookup_cons_self] at h; cases h; exact ⟨_, Ek_InvalidSize, kit_InvalidSize_InvalidMap⟩
    rw [List.lookup_cons, beq_eq_false_iff_ne.mpr e_InvalidSize] at h
    cases h⟩
  have Ei_InvalidRow : IsiE K mg "InvalidRow" C_InvalidRow tab_InvalidRow := ⟨PySem.W.mg_of X G aC_InvalidRow, kit_InvalidRow_NoneType, kit_InvalidRow_bool, kit_InvalidRow_int, kit_InvalidRow_str, kit_InvalidRow_tuple, kit_InvalidRow_list, kit_InvalidRow_dict, fun k b h => by
    unfold tab_InvalidRow at h
    by_cases e_InvalidMachine : k = "InvalidMachine"
    · subst e_InvalidMachine; rw [List.lookup_cons_self] at h; cases h; exact ⟨_, Ek_InvalidMachine, kit_InvalidMachine_InvalidRow⟩
    rw [List.lookup_cons, beq_eq_false_iff_ne.mpr e_InvalidMachine] at h
    by_cases e_InvalidMap : k = "InvalidMap"
    · subst e_InvalidMap; rw [List.lookup_cons_self] at h; cases h; exact ⟨_, Ek_InvalidMap, kit_InvalidMap_InvalidRow⟩
    rw [List.lookup_cons, beq_eq_false_iff_ne.mpr e_InvalidMap] at h
    by_cases e_InvalidRow : k = "InvalidRow"
    · subst e_InvalidRow; rw [List.lookup_cons_self] at h; cases h; exact ⟨_, Ek_InvalidRow, kit_InvalidRow_InvalidRow⟩
    rw [List.lookup_cons, beq_eq_false_iff_ne.mpr e_InvalidRow] at h
    by_cases e_InvalidSize : k = "InvalidSize"
    · subst e_InvalidSize; rw [List.lookup_cons_self] at h; cases h; exact ⟨_, Ek_InvalidSize, kit_InvalidSize_InvalidRow⟩
    rw [List.lookup_cons, beq_eq_false_iff_ne.mpr e_InvalidSize] at h
    cases h⟩
  have Ei_InvalidSize : IsiE K mg "InvalidSize" C_InvalidSize tab_InvalidSize := ⟨PySem.W.mg_of X G aC_InvalidSize, kit_InvalidSize_NoneType, kit_InvalidSize_bool, kit_InvalidSize_int, kit_InvalidSize_str, kit_InvalidSize_tuple, kit_InvalidSize_list, kit_InvalidSize_dict, fun k b h => by
    unfold tab_InvalidSize at h
    by_cases e_InvalidMachine : k = "InvalidMachine"
    · subst e_InvalidMachine; rw [List.lookup_cons_self] at h; cases h; exact ⟨_, Ek_InvalidMachine, kit_InvalidMachine_InvalidSize⟩
    rw [List.lookup_cons, beq_eq_false_iff_ne.mpr e_InvalidMachine] at h
    by_cases e_InvalidMap : k = "InvalidMap"
    · subst e_InvalidMap; rw [List.lookup_cons_self] at h; cases h; exact ⟨_, Ek_InvalidMap, kit_InvalidMap_InvalidSize⟩
    rw [List.lookup_cons, beq_eq_false_iff_ne.mpr e_InvalidMap] at h
    by_cases e_InvalidRow : k = "InvalidRow"
    · subst e_InvalidRow; rw [List.lookup_cons_self] at h; cases h; exact ⟨_, Ek_InvalidRow, kit_InvalidRow_InvalidSize⟩
    rw [List.lookup_cons, beq_eq_false_iff_ne.mpr e_InvalidRow] at h
    by_cases e_InvalidSize : k = "InvalidSize"
    · subst e_InvalidSize; rw [List.lookup_cons_self] at h; cases h; exact ⟨_, Ek_InvalidSize, kit_InvalidSize_InvalidSize⟩
    rw [List.lookup_cons, beq_eq_false_iff_ne.mpr e_InvalidSize] at h
    cases h⟩
  have Et_LazyError : ExmT K mg (.ref C_LazyError) tab_LazyError := fun k b h => by
    unfold tab_LazyError at h
    by_cases e_InvalidMachine : k = "InvalidMachine"
    · subst e_InvalidMachine; rw [List.lookup_cons_self] at h; cases h; exact ⟨_, mg_InvalidMachine, kit_x_InvalidMachine_LazyError⟩
    rw [List.lookup_cons, beq_eq_false_iff_ne.mpr e_InvalidMachine] at h
    by_cases e_InvalidMap : k = "InvalidMap"
    · subst e_InvalidMap; rw [List.lookup_cons_self] at h; cases h; exact ⟨_, mg_InvalidMap, kit_x_InvalidMap_LazyError⟩
    rw [List.lookup_cons, beq_eq_false_iff_ne.mpr e_InvalidMap] at h
    by_cases e_InvalidRow : k = "InvalidRow"
    · subst e_InvalidRow; rw [List.lookup_cons_self] at h; cases h; exact ⟨_, mg_InvalidRow, kit_x_InvalidRow_LazyError⟩
    rw [List.lookup_cons, beq_eq_false_iff_ne.mpr e_InvalidRow] at h
    by_cases e_InvalidSize : k = "InvalidSize"
    · subst e_InvalidSize; rw [List.lookup_cons_self] at h; cases h; exact ⟨_, mg_InvalidSize, kit_x_InvalidSize_LazyError⟩
    rw [List.lookup_cons, beq_eq_false_iff_ne.mpr e_InvalidSize] at h
    cases h
  have Ef_size : ∀ k ∈ ecs_size, ∃ D, ErrK K mg k D ∧ PySem.W.findIn K (.ref D) "size" = some none := fun k hk => by
    unfold ecs_size at hk
    rcases List.mem_cons.mp hk with rfl | hk
    · exact ⟨_, Ek_InvalidSize, na_InvalidSize⟩
    cases hk
  have Ef_thing : ∀ k ∈ ecs_thing, ∃ D, ErrK K mg k D ∧ PySem.W.findIn K (.ref D) "thing" = some none := fun k hk => by
    unfold ecs_thing at hk
    rcases List.mem_cons.mp hk with rfl | hk
    · exact ⟨_, Ek_InvalidMachine, na_InvalidMachine⟩
    rcases List.mem_cons.mp hk with rfl | hk
    · exact ⟨_, Ek_InvalidMap, na_InvalidMap⟩
    rcases List.mem_cons.mp hk with rfl | hk
    · exact ⟨_, Ek_InvalidRow, na_InvalidRow⟩
    cases hk
  have EE : Errs l.prog w K mg base C_InvalidMachine C_InvalidMap C_InvalidRow C_InvalidSize C_LazyError _ _ _ _ _ _ _ _ := ⟨Em_InvalidMachine, Em_InvalidMap, Em_InvalidRow, Em_InvalidSize, Ei_InvalidMachine, Ei_InvalidMap, Ei_InvalidRow, Ei_InvalidSize, PySem.W.mg_of X G aC_LazyError, Et_LazyError, Ef_size, Ef_thing⟩
  have C__law_purse := ok__law_purse (T := ([(cc_size_of, P_size_of)] : List (Addr × Addr)).map (·.2)) (P := l.prog) (w := w) (base := base) D__law_purse B
  have C__law_mixed := ok__law_mixed (T := ([(cc_size_of, P_size_of)] : List (Addr × Addr)).map (·.2)) (P := l.prog) (w := w) (base := base) D__law_mixed B
  have C__law_draw := ok__law_draw (T := ([(cc_size_of, P_size_of)] : List (Addr × Addr)).map (·.2)) (P := l.prog) (w := w) (base := base) D__law_draw B C__law_mixed
  have C__law_machine := ok__law_machine (T := ([(cc_size_of, P_size_of)] : List (Addr × Addr)).map (·.2)) (P := l.prog) (w := w) (base := base) D__law_machine B C__law_draw
  have C__law_odd := ok__law_odd (T := ([(cc_size_of, P_size_of)] : List (Addr × Addr)).map (·.2)) (P := l.prog) (w := w) (base := base) D__law_odd B C__law_draw
  have C__law_bent_part := ok__law_bent_part (T := ([(cc_size_of, P_size_of)] : List (Addr × Addr)).map (·.2)) (P := l.prog) (w := w) (base := base) D__law_bent_part B C__law_draw C__law_odd
  have C__law_bent := ok__law_bent (T := ([(cc_size_of, P_size_of)] : List (Addr × Addr)).map (·.2)) (P := l.prog) (w := w) (base := base) D__law_bent B C__law_bent_part C__law_draw C__law_odd
  have C_is_integer := ok_is_integer (T := ([(cc_size_of, P_size_of)] : List (Addr × Addr)).map (·.2)) (P := l.prog) (w := w) (base := base) D_is_integer B
  have C_require_size := ok_require_size (T := ([(cc_size_of, P_size_of)] : List (Addr × Addr)).map (·.2)) (P := l.prog) (w := w) (base := base) D_require_size B C_is_integer EE
  have C_is_row := ok_is_row (T := ([(cc_size_of, P_size_of)] : List (Addr × Addr)).map (·.2)) (P := l.prog) (w := w) (base := base) D_is_row B C_is_integer
  have C_fault_of := ok_fault_of (T := ([(cc_size_of, P_size_of)] : List (Addr × Addr)).map (·.2)) (P := l.prog) (w := w) (base := base) D_fault_of B C_is_integer C_is_row
  have C_check_machine := ok_check_machine (T := ([(cc_size_of, P_size_of)] : List (Addr × Addr)).map (·.2)) (P := l.prog) (w := w) (base := base) D_check_machine B C_fault_of C_require_size
  have C__law_int := ok__law_int (T := ([(cc_size_of, P_size_of)] : List (Addr × Addr)).map (·.2)) (P := l.prog) (w := w) (base := base) D__law_int B
  have C__law_ints := ok__law_ints (T := ([(cc_size_of, P_size_of)] : List (Addr × Addr)).map (·.2)) (P := l.prog) (w := w) (base := base) D__law_ints B C__law_int
  have C__law_due := ok__law_due (T := ([(cc_size_of, P_size_of)] : List (Addr × Addr)).map (·.2)) (P := l.prog) (w := w) (base := base) D__law_due B C__law_int C__law_ints
  have C_size_of := ok_size_of (T := ([(cc_size_of, P_size_of)] : List (Addr × Addr)).map (·.2)) (P := l.prog) (w := w) (base := base) D_size_of B C_fault_of (TB (cc_size_of, P_size_of) (by simp)) rfl (by simp)
  have C_require_machine := ok_require_machine (T := ([(cc_size_of, P_size_of)] : List (Addr × Addr)).map (·.2)) (P := l.prog) (w := w) (base := base) D_require_machine B C_size_of EE
  have C_answer := ok_answer (T := ([(cc_size_of, P_size_of)] : List (Addr × Addr)).map (·.2)) (P := l.prog) (w := w) (base := base) D_answer B C_is_row C_require_machine C_size_of EE
  have C_least_machine := ok_least_machine (T := ([(cc_size_of, P_size_of)] : List (Addr × Addr)).map (·.2)) (P := l.prog) (w := w) (base := base) D_least_machine B C_require_machine
  have C_machines_parted := ok_machines_parted (T := ([(cc_size_of, P_size_of)] : List (Addr × Addr)).map (·.2)) (P := l.prog) (w := w) (base := base) D_machines_parted B C_require_machine C_size_of EE
  have C_mapped := ok_mapped (T := ([(cc_size_of, P_size_of)] : List (Addr × Addr)).map (·.2)) (P := l.prog) (w := w) (base := base) D_mapped B C_is_row C_require_machine C_size_of EE
  have C_turned := ok_turned (T := ([(cc_size_of, P_size_of)] : List (Addr × Addr)).map (·.2)) (P := l.prog) (w := w) (base := base) D_turned B C_least_machine
  have C__law_asked := ok__law_asked (T := ([(cc_size_of, P_size_of)] : List (Addr × Addr)).map (·.2)) (P := l.prog) (w := w) (base := base) D__law_asked B C_answer C_check_machine C_least_machine C_machines_parted C_mapped C_turned D_least_machine EE
  have C__law_doors_right := ok__law_doors_right (T := ([(cc_size_of, P_size_of)] : List (Addr × Addr)).map (·.2)) (P := l.prog) (w := w) (base := base) D__law_doors_right B C__law_asked C__law_draw C__law_machine
  have C_law := ok_law (T := ([(cc_size_of, P_size_of)] : List (Addr × Addr)).map (·.2)) (P := l.prog) (w := w) (base := base) D_law B C__law_bent C__law_doors_right C__law_draw C__law_due C__law_machine C__law_purse C_check_machine
  exact C_law.ok

end MM

/-! Plain facts that many laws share (no program in sight): draws, settings, rows, machines. -/
namespace MM
open PySem L2 PyProof.Rows
local macro_rules | `(tactic| simp_arith [$ts,*]) => `(tactic| simp only [W_ok, W_var, k_var, W_c, W_op, k_op1, k_op2, W_un, k_un, W_nil, W_cons, k_cons1, k_cons2, W_call, k_call, W_tup, k_tup, W_lst, k_lst, W_lstS, k_lstS, W_seq, k_seq_nx, k_seq_rt, k_seq_bk, k_seq_ct, W_expr, k_expr, W_ret, k_ret, W_retN, W_nx, W_bk, W_ct, W_if, k_if_t, k_if_f, W_ifE, k_ifE_t, k_ifE_f, W_b, k_b, W_andT, k_andT_t, k_andT_f, W_orT, k_orT_t, k_orT_f, W_notT, k_notT, W_yes, W_andV, k_andV_t, k_andV_f, W_orV, k_orV_t, k_orV_f, W_notV, k_notV, W_cmpC, k_cmp1, k_cmp2, k_cmp3_t, k_cmp3_f, W_asg, k_asg, k_asg2, W_gN, W_gsNil, W_gsCons, k_gs, W_gTp, W_gIx, k_ix1, W_for, W_lc, W_lcS, W_next, W_miA, k_it_tup, k_it_lst, k_it_frz, W_def, k_def_rt, k_def_nx, W_callK, k_CK1, k_CK2, perm, List.filterMap_cons, List.filterMap_nil, and_self, W_f2I, W_addI, W_int, W_2L, W_is, W_lenT, W_lenL, W_lenF, W_tupleT, W_tupleL, W_tupleF, k_body, k_loop_nx, k_loop_ct, k_loop_bk, k_loop_rt, k_lc1, k_lc2_t, k_lc2_f, List.map_cons, List.map_nil, List.length_cons, List.length_nil, List.reduceReplicate, Nat.reduceSub, Nat.reduceAdd, Int.reduceAdd, Int.reduceSub, Int.reduceMul, Int.reduceNeg, Int.reduceLT, Int.reduceLE, Int.reduceEq, Int.cast_ofNat_Int, Int.natCast_zero, Int.natCast_one, eq_self, decide_true, decide_false, Bool.and_true, Bool.true_and, Bool.false_and, Bool.and_false, Nat.zero_add, List.replicate_zero, List.replicate_succ, List.cons_append, List.nil_append, List.append_nil, List.getElem?_cons_zero, List.getElem?_cons_succ, List.set_cons_zero, List.set_cons_succ, wipeD, Bool.not_true, Bool.not_false, if_true, if_false, reduceIte, isNon, Bool.false_eq_true, k_el, W_E, k_en_tup, k_en_lst, isi_int_i, isi_int_b, isi_int_n, isi_int_s, isi_int_t, isi_int_l, isi_bool_i, isi_bool_b, isi_bool_n, isi_bool_s, isi_bool_t, isi_bool_l, isi_tuple_i, isi_tuple_b, isi_tuple_n, isi_tuple_s, isi_tuple_t, isi_tuple_l, isi_list_i, isi_list_b, isi_list_n, isi_list_s, isi_list_t, isi_list_l, W_eq2I, k_R1_eq, k_R2_eq, W_R1q, W_ixDT, W_ixDL, W_ixDF, k_opt, atI_lit, W_gTpT, W_gTpL, W_noPart, W_part, k_part, W_sl, k_sl1, k_sl2, k_sl3T, k_sl3L, W_revT, W_revL, W_meth, k_meth2, W_prop, W_make, k_make, k_made, W_sFld, k_fldS1, W_app, W_bits, W_gSt, k_st1, W_gSl, k_gsl1, k_gsl2, W_rgT, W_rgL, W_rgS, W_rg1, k_rg1, W_miS, k_itS, W_E2, k_en2_tup, k_en2_lst, k_en2_frz, W_par, k_par, W_par3, k_par3, W_dct0, W_disp, W_pnil, W_pcons, k_ps1, k_ps2, k_ps3, W_dc, k_dc1, k_dc2_t, k_dc2_f, k_dc3, k_dc4, isi_str_i, isi_str_b, isi_str_n, isi_str_s, isi_str_t, isi_str_l, $ts,*])
local macro_rules | `(tactic| simp_arith) => `(tactic| simp_arith [])
section
set_option maxHeartbeats 1000000
variable {Q : D → Store → Prop} {E : Er → Store → Prop} {S : Store}
def inR (i lo hi : Int) : Bool := decide (lo ≤ i) && decide (i ≤ hi)
theorem log2_lt {i : Int} {k : Nat} (h0 : 0 ≤ i) (h : i < 2 ^ k) (hk : 0 < k) : i.natAbs.log2 < k := by
  have h1 : i.natAbs < 2 ^ k := by
    have : ((i.natAbs : Nat) : Int) = i := Int.natAbs_of_nonneg h0
    have h2 : ((i.natAbs : Nat) : Int) < ((2 ^ k : Nat) : Int) := by rw [this]; simpa using h
    exact Int.ofNat_lt.mp h2
  by_cases hz : i.natAbs = 0
  · rw [hz]
    exact hk
  · exact (Nat.log2_lt hz).mpr h1
/-! ### frames -/
/-- nothing that stood before is changed -/
def Ext (S S' : Store) : Prop := S.length ≤ S'.length ∧ ∀ j, j < S.length → S'[j]? = S[j]?
theorem Ext.refl {S : Store} : Ext S S := ⟨Nat.le_refl _, fun _ _ => rfl⟩
theorem Ext.trans {S S1 S2 : Store} (a : Ext S S1) (b : Ext S1 S2) : Ext S S2 := ⟨Nat.le_trans a.1 b.1, fun j h => (b.2 j (Nat.lt_of_lt_of_le h a.1)).trans (a.2 j h)⟩
theorem Ext.app {S T : Store} : Ext S (S ++ T) := ⟨by rw [List.length_append]; omega, fun j h => List.getElem?_append_left h⟩
theorem Ext.at {S S' : Store} (a : Ext S S') {j : Nat} {o : O} (h : S[j]? = some o) : S'[j]? = some o := (a.2 j (List.getElem?_eq_some_iff.mp h).1).trans h
/-- a new object is written -/
theorem Ext.set {S S' : Store} (a : Ext S S') {n : Nat} {o : O} (h : S.length ≤ n) : Ext S (S'.set n o) := ⟨by rw [List.length_set]; exact a.1, fun j hj => by rw [List.getElem?_set_ne (by omega)]; exact a.2 j hj⟩
theorem at_end {o : O} : (S ++ [o])[S.length]? = some o := by
  rw [List.getElem?_append_right (Nat.le_refl _), Nat.sub_self]
  rfl
theorem set_at {n : Nat} {o o' : O} (h : S[n]? = some o') : (S.set n o)[n]? = some o := List.getElem?_set_self (List.getElem?_eq_some_iff.mp h).1
/-- nothing that stood before but n is changed -/
def Fr (n : Nat) (S S' : Store) : Prop := S.length ≤ S'.length ∧ ∀ j, j < S.length → j ≠ n → S'[j]? = S[j]?
theorem Fr.refl {n : Nat} {S : Store} : Fr n S S := ⟨Nat.le_refl _, fun _ _ _ => rfl⟩
theorem Fr.trans {n : Nat} {S S1 S2 : Store} (a : Fr n S S1) (b : Fr n S1 S2) : Fr n S S2 := ⟨Nat.le_trans a.1 b.1, fun j h q => (b.2 j (Nat.lt_of_lt_of_le h a.1) q).trans (a.2 j h q)⟩
theorem Fr.set {n : Nat} {S : Store} {o : O} : Fr n S (S.set n o) := ⟨by rw [List.length_set]; exact Nat.le_refl _, fun j _ h => List.getElem?_set_ne (Ne.symm h)⟩
theorem Fr.set_new {n m : Nat} {S S' : Store} {o : O} (a : Fr n S S') (h : S.length ≤ m) : Fr n S (S'.set m o) := ⟨by rw [List.length_set]; exact a.1, fun j hj q => by rw [List.getElem?_set_ne (by omega)]; exact a.2 j hj q⟩
theorem Ext.fr {n : Nat} {S S' : Store} (a : Ext S S') : Fr n S S' := ⟨a.1, fun j h _ => a.2 j h⟩
theorem Fr.at {n : Nat} {S S' : Store} (a : Fr n S S') {j : Nat} {o : O} (h : S[j]? = some o) (hn : j ≠ n) : S'[j]? = some o := (a.2 j (List.getElem?_eq_some_iff.mp h).1 hn).trans h
theorem ne_at {i j : Nat} {o u : O} (h : S[i]? = some o) (h' : S[j]? = some u) (d : o ≠ u) : i ≠ j := fun e => by
  subst e
  rw [h] at h'
  exact d (Option.some.inj h')
/-! ### the purse -/
def pu (x y z : Int) : O := .lst [.int x, .int y, .int z]
/-- the purse stands at n, drawn from at most b times -/
def Pu (S : Store) (n : Nat) (b : Int) : Prop := ∃ x y z, S[n]? = some (pu x y z) ∧ 0 ≤ x ∧ 0 ≤ y ∧ y < 2147483647 ∧ 0 ≤ z ∧ z ≤ b
def PW (n : Nat) (S0 : Store) (b : Int) (S : Store) : Prop := Pu S n b ∧ Fr n S0 S
theorem PW.mono {n : Nat} {S0 S : Store} {b c : Int} (h : PW n S0 b S) (hb : b ≤ c) : PW n S0 c S := by
  obtain ⟨⟨x, y, z, h1, h2, h3, h4, h5, h6⟩, f⟩ := h
  exact ⟨⟨x, y, z, h1, h2, h3, h4, h5, Int.le_trans h6 hb⟩, f⟩
theorem PW.trans {n : Nat} {S0 S S' : Store} {b c : Int} (h : PW n S0 b S) (h' : PW n S c S') : PW n S0 c S' := ⟨h'.1, h.2.trans h'.2⟩
theorem PW.refl {n : Nat} {S : Store} {b : Int} (h : Pu S n b) : PW n S b S := ⟨h, Fr.refl⟩
theorem Pu.ext {n : Nat} {S' : Store} {b : Int} (h : Pu S n b) (e : Ext S S') : Pu S' n b := by
  obtain ⟨x, y, z, h1, h⟩ := h
  exact ⟨x, y, z, e.at h1, h⟩
theorem PW.ext {n : Nat} {S0 S' : Store} {b : Int} (h : PW n S0 b S) (e : Ext S S') : PW n S0 b S' := ⟨h.1.ext e, h.2.trans e.fr⟩
/-- a new object but the purse is written -/
theorem PW.set_new {n m : Nat} {S0 : Store} {b : Int} {o : O} (h : PW n S0 b S) (hm : S0.length ≤ m) (hn : n ≠ m) : PW n S0 b (S.set m o) := by
  obtain ⟨⟨x, y, z, h1, h2⟩, f⟩ := h
  exact ⟨⟨x, y, z, by rw [List.getElem?_set_ne (Ne.symm hn)]; exact h1, h2⟩, f.set_new hm⟩
/-- what is no list of numbers stands as it did -/
theorem PW.at {n : Nat} {S0 : Store} {b : Int} (h : PW n S0 b S) {j : Nat} {o : O} (e : S0[j]? = some o) (hn : j ≠ n) : S[j]? = some o := h.2.at e hn
/-! drawn lists -/
theorem k_draws {QA : List D → Store → Prop} {it : ItD} {xs : List D} {g : MG0} {te : ME0} {vs : List Nat} {ρ : Rho} {n : Nat} {S0 : Store} {b c : Int} (hx : it.Lst xs) (hl : xs.length < sizeLine) (P : D → Prop) (hc : 0 ≤ c)
    (h : ∀ d S' b', PW n S0 b' S' → b ≤ b' → b' ≤ b + xs.length * c → W (g d (wipeD ρ vs) S') (kEl te (fun y S2 => P y ∧ PW n S0 (b' + c) S2)) Er0) (h0 : PW n S0 b S)
    (hq : ∀ ys S', ys.length = xs.length → (∀ y ∈ ys, P y) → PW n S0 (b + xs.length * c) S' → QA ys S') : kLc QA E g mYes te vs ρ it S := by
  refine k_lc hx (Nat.lt_trans hl (by decide)) (fun i acc S' => acc.length = i ∧ (∀ y ∈ acc, P y) ∧ PW n S0 (b + i * c) S') ⟨rfl, fun _ z => (List.not_mem_nil z).elim, h0.mono (by simp)⟩ (fun i d acc S' hi hI => ?_) fun acc S' hI => ?_
  · obtain ⟨rfl, h2, h3⟩ := hI
    have hlt := (List.getElem?_eq_some_iff.mp hi).1
    have e1 : (0 : Int) ≤ acc.length * c := Int.mul_nonneg (by omega) hc
    have e2 : (acc.length : Int) * c ≤ xs.length * c := Int.mul_le_mul_of_nonneg_right (by omega) hc
    refine W.mono (h d S' _ h3 (by omega) (by omega)) fun ρ1 S1 h1 => ?_
    rw [k_el] at h1
    rw [k_lc1, W_yes, k_lc2_t]
    refine h1.mono fun y S2 h4 => ?_
    refine ⟨by omega, by rw [List.length_append]; rfl, fun z hz => ?_, h4.2.mono ?_⟩
    · rcases List.mem_append.mp hz with q | q
      · exact h2 z q
      · rw [List.mem_singleton.mp q]
        exact h4.1
    · have : ((acc.length + 1 : Nat) : Int) * c = acc.length * c + c := by rw [Int.natCast_add, Int.add_mul]; simp
      omega
  · exact hq acc S' hI.1 hI.2.1 hI.2.2
theorem ints_of {P : Int → Prop} : ∀ {ys : List D}, (∀ y ∈ ys, ∃ r, y = .int r ∧ P r) → ∃ zs : List Int, ys = zs.map .int ∧ ∀ z ∈ zs, P z
  | [], _ => ⟨[], rfl, fun _ z => (List.not_mem_nil z).elim⟩
  | y :: ys, h => by
    obtain ⟨r, rfl, hr⟩ := h y List.mem_cons_self
    obtain ⟨zs, rfl, hz⟩ := ints_of fun z hz => h z (List.mem_cons_of_mem _ hz)
    exact ⟨r :: zs, rfl, fun z hz' => by
      rcases List.mem_cons.mp hz' with q | q
      · rw [q]; exact hr
      · exact hz z q⟩
def rowD (xs : List Int) : D := .tup (xs.map .int)
theorem rows_of {P : List Int → Prop} : ∀ {ys : List D}, (∀ y ∈ ys, ∃ r, y = rowD r ∧ P r) → ∃ zs : List (List Int), ys = zs.map rowD ∧ ∀ z ∈ zs, P z
  | [], _ => ⟨[], rfl, fun _ z => (List.not_mem_nil z).elim⟩
  | y :: ys, h => by
    obtain ⟨r, rfl, hr⟩ := h y List.mem_cons_self
    obtain ⟨zs, rfl, hz⟩ := rows_of fun z hz => h z (List.mem_cons_of_mem _ hz)
    exact ⟨r :: zs, rfl, fun z hz' => by
      rcases List.mem_cons.mp hz' with q | q
      · rw [q]; exact hr
      · exact hz z q⟩
theorem flat_row {n : Nat} (xs : List Int) : flat (n + 1) (rowD xs) = true := by
  unfold rowD flat
  induction xs with
  | nil => rfl
  | cons x xs ih =>
    rw [List.map_cons]
    unfold flatL
    rw [ih]
    rfl
theorem flat_rows {n : Nat} (xs : List (List Int)) : flat (n + 2) (.tup (xs.map rowD)) = true := by
  unfold flat
  induction xs with
  | nil => rfl
  | cons x xs ih =>
    rw [List.map_cons]
    unfold flatL
    rw [ih, flat_row]
    rfl
theorem noB_row (xs : List Int) : noB (rowD xs) = true := by
  unfold rowD noB
  induction xs with
  | nil => rfl
  | cons x xs ih =>
    rw [List.map_cons]
    unfold noBL
    rw [ih]
    rfl
theorem flatL_map {α : Type} {n : Nat} {f : α → D} {xs : List α} (h : ∀ x ∈ xs, flat n (f x) = true) : flatL n (xs.map f) = true := by
  induction xs with
  | nil => rfl
  | cons x xs ih =>
    rw [List.map_cons]
    unfold flatL
    rw [h x List.mem_cons_self, ih fun y hy => h y (List.mem_cons_of_mem _ hy)]
    rfl
theorem noBL_map {α : Type} {f : α → D} {xs : List α} (h : ∀ x ∈ xs, noB (f x) = true) : noBL (xs.map f) = true := by
  induction xs with
  | nil => rfl
  | cons x xs ih =>
    rw [List.map_cons]
    unfold noBL
    rw [h x List.mem_cons_self, ih fun y hy => h y (List.mem_cons_of_mem _ hy)]
    rfl
theorem W_eqE {neg : Bool} {xs : List D} (h : flat 64 (.tup xs) = true) : W (fEq2 neg (.tup xs) (.tup []) S) Q E = Q (.bl (if neg then !xs.isEmpty else xs.isEmpty)) S := by
  rw [W_eq2F h rfl]
  have : eqD (.tup xs) (.tup []) = xs.isEmpty := by
    cases xs with
    | nil => rfl
    | cons x r => simp [eqD, pyOf, pyOfL, PyData.eqv, PyData.eqvAll]
  rw [this]
/-- equal data are equal -/
theorem W_eqR {neg : Bool} {x : D} (hx : flat 64 x = true) (nx : noB x = true) : W (fEq2 neg x x S) Q E = Q (.bl (!neg)) S := by
  rw [W_eq2F hx hx, (eqD_iff nx nx).mpr rfl]
  cases neg <;> rfl
theorem all_inR {xs : List Int} {n : Int} (h : ∀ v ∈ xs, 0 ≤ v ∧ v < n) : (xs.all fun v => inR v 0 (n - 1)) = true := by
  rw [List.all_eq_true]
  intro v hv
  obtain ⟨h1, h2⟩ := h v hv
  unfold inR
  rw [decide_eq_true h1, decide_eq_true (show v ≤ n - 1 by omega)]
  rfl
theorem all_inR' {xs : List Int} {n : Int} (h : ∀ v ∈ xs, 0 ≤ v ∧ v ≤ n) : (xs.all fun v => inR v 0 n) = true := by
  rw [List.all_eq_true]
  intro v hv
  obtain ⟨h1, h2⟩ := h v hv
  unfold inR
  rw [decide_eq_true h1, decide_eq_true h2]
  rfl
theorem atI_map {α : Type} {f : α → D} {xs : List α} {i : Int} {z : α} (h0 : 0 ≤ i) (h1 : i < xs.length) : atI (xs.map f) i = some (f (xs.getD i.toNat z)) := by
  have hi : i.toNat < xs.length := by omega
  rw [atI_of h0, List.getElem?_map, List.getElem?_eq_getElem hi, List.getD_eq_getElem?_getD, List.getElem?_eq_getElem hi]
  rfl
/-! ### machines -/
def machD (s : Int) (rows : List (List Int)) (ans : List Int) : D := .tup [.int s, .tup (rows.map rowD), .tup (ans.map .int)]
/-- a machine of so many values -/
structure Mach (wide : Int) (s : Int) (rows : List (List Int)) (ans : List Int) : Prop where
  w : ∀ r ∈ rows, (r.length : Int) = wide
  v : ∀ r ∈ rows, ∀ v ∈ r, 0 ≤ v ∧ v < rows.length
  s0 : 0 ≤ s
  s1 : s < rows.length
  al : ans.length = rows.length
  a : ∀ a ∈ ans, 0 ≤ a ∧ a ≤ 99
/-! ### settings -/
structure Sett where
  size : Int
  maps : List (Str × List Int)
  asks : List (Str × (Int × List (List Int) × List Int))
  turning : Bool
def askD (m : Int × List (List Int) × List Int) : D := machD m.1 m.2.1 m.2.2
def kdM (ms : List (Str × List Int)) : List (Key × D) := ms.map fun p => (.inr p.1, rowD p.2)
def kdA (ms : List (Str × (Int × List (List Int) × List Int))) : List (Key × D) := ms.map fun p => (.inr p.1, askD p.2)
def setFs (st : Sett) (nm na : Nat) : List (Str × D) := [("size", .int st.size), ("own_maps", .ref nm), ("own_asks", .ref na), ("turning", .bl st.turning)]
/-- the setting stands at n -/
def SetAt (S : Store) (n : Nat) (st : Sett) : Prop := ∃ nm na, S[n]? = some (.ins "Setting" (setFs st nm na)) ∧ S[nm]? = some (.dct (kdM st.maps)) ∧ S[na]? = some (.dct (kdA st.asks))
theorem SetAt.ext {n : Nat} {st : Sett} {S' : Store} (h : SetAt S n st) (e : Ext S S') : SetAt S' n st := by
  obtain ⟨nm, na, h1, h2, h3⟩ := h
  exact ⟨nm, na, e.at h1, e.at h2, e.at h3⟩
theorem SetAt.pw {n m : Nat} {st : Sett} {S' : Store} {b c : Int} (h : SetAt S n st) (hp : Pu S m c) (e : PW m S b S') : SetAt S' n st := by
  obtain ⟨nm, na, h1, h2, h3⟩ := h
  obtain ⟨x, y, z, h4, _⟩ := hp
  exact ⟨nm, na, e.at h1 (ne_at h1 h4 (fun z => nomatch z)), e.at h2 (ne_at h2 h4 (fun z => nomatch z)), e.at h3 (ne_at h3 h4 (fun z => nomatch z))⟩
theorem SetAt.set {n m : Nat} {st : Sett} {ds es : List D} (h : SetAt S n st) (hm : S[m]? = some (.lst ds)) : SetAt (S.set m (.lst es)) n st := by
  obtain ⟨nm, na, h1, h2, h3⟩ := h
  have k : ∀ {j : Nat} {o : O}, S[j]? = some o → o ≠ .lst ds → (S.set m (.lst es))[j]? = some o := fun {j o} e d => by
    rw [List.getElem?_set_ne (Ne.symm (ne_at e hm d))]
    exact e
  exact ⟨nm, na, k h1 (fun z => nomatch z), k h2 (fun z => nomatch z), k h3 (fun z => nomatch z)⟩
/-- a name: one to eight letters, not the word turn -/
def letters : List Nat := ("abcdefghijklmnopqrstuvwxyz" : Str).cps.toList
def nameB (z : Str) : Bool := decide (z ≠ "turn") && decide (1 ≤ z.length) && decide (z.length ≤ 8) && z.cps.toList.all fun c => decide (c ∈ letters)
structure SetOk (st : Sett) : Prop where
  s1 : 1 ≤ st.size
  s4 : st.size ≤ 4
  ml : st.maps.length ≤ 4
  mn : ∀ p ∈ st.maps, nameB p.1 = true
  mm : ∀ p ∈ st.maps, (p.2.length : Int) = st.size ∧ ∀ v ∈ p.2, 0 ≤ v ∧ v < st.size
  ms : sortedS (st.maps.map (·.1)) = true
  al : st.asks.length ≤ 4
  an : ∀ p ∈ st.asks, nameB p.1 = true
  am : ∀ p ∈ st.asks, Mach st.size p.2.1 p.2.2.1 p.2.2.2 ∧ p.2.2.1.length < 1000
  as : sortedS (st.asks.map (·.1)) = true
  md : (st.maps.map (·.1)).Nodup
  ad : (st.asks.map (·.1)).Nodup
def namesM (st : Sett) : List Str := st.maps.map (·.1)
def deedsL (st : Sett) : List Str := sortS (namesM st ++ if st.turning = true then [("turn" : Str)] else [])
def mapOf (st : Sett) (x : Str) : List Int := ((st.maps.find? fun p => decide (p.1 = x)).map (·.2)).getD []
theorem deeds_mem {st : Sett} {x : Str} : x ∈ deedsL st ↔ x ∈ namesM st ∨ (st.turning = true ∧ x = "turn") := by
  unfold deedsL
  rw [(sortS_perm _).mem_iff, List.mem_append]
  cases st.turning with
  | true => simp
  | false => simp
theorem alook_find {ms : List (Str × List Int)} {x : Str} : alook (kdM ms) (.inr x) = (ms.find? fun p => decide (p.1 = x)).map fun p => rowD p.2 := by
  unfold kdM
  induction ms with
  | nil => rfl
  | cons p ms ih =>
    rw [List.map_cons, alook_cons, List.find?_cons]
    by_cases h : p.1 = x
    · rw [if_pos (by rw [h]), decide_eq_true h]
      rfl
    · rw [if_neg (fun z => h (Sum.inr.inj z)), decide_eq_false h]
      exact ih
theorem mapOf_mem {st : Sett} {x : Str} (h : x ∈ namesM st) : ∃ p ∈ st.maps, p.1 = x ∧ p.2 = mapOf st x ∧ alook (kdM st.maps) (.inr x) = some (rowD (mapOf st x)) := by
  unfold namesM at h
  obtain ⟨q, hq, e⟩ := List.mem_map.mp h
  cases hf : st.maps.find? fun p => decide (p.1 = x) with
  | none =>
    have := List.find?_eq_none.mp hf q hq
    simp [e] at this
  | some p =>
    have h1 := List.mem_of_find?_eq_some hf
    have h2 := List.find?_some hf
    refine ⟨p, h1, of_decide_eq_true h2, ?_, ?_⟩
    · unfold mapOf
      rw [hf]
      rfl
    · rw [alook_find, hf]
      unfold mapOf
      rw [hf]
      rfl
theorem SetOk.map {st : Sett} (k : SetOk st) {x : Str} (h : x ∈ namesM st) : alook (kdM st.maps) (.inr x) = some (rowD (mapOf st x)) ∧ ((mapOf st x).length : Int) = st.size ∧ ∀ v ∈ mapOf st x, 0 ≤ v ∧ v < st.size := by
  obtain ⟨p, hp, _, e, ha⟩ := mapOf_mem h
  obtain ⟨h1, h2⟩ := k.mm p hp
  exact ⟨ha, by rw [← e]; exact h1, fun v hv => h2 v (by rw [e]; exact hv)⟩
theorem name_ne_turn {z : Str} (h : nameB z = true) : z ≠ "turn" := by
  unfold nameB at h
  simp only [Bool.and_eq_true, decide_eq_true_eq] at h
  exact h.1.1.1
theorem SetOk.ne_turn {st : Sett} (k : SetOk st) {x : Str} (h : x ∈ namesM st) : x ≠ "turn" := by
  obtain ⟨p, hp, e⟩ := List.mem_map.mp h
  rw [← e]
  exact name_ne_turn (k.mn p hp)
/-- what is drawn of the deeds is the word turn in a turning setting or a map's name -/
theorem SetOk.deed {st : Sett} (k : SetOk st) {x : Str} (h : x ∈ deedsL st) : (x = "turn" ∧ st.turning = true) ∨ (x ≠ "turn" ∧ x ∈ namesM st) := by
  rcases deeds_mem.mp h with q | ⟨q1, q2⟩
  · exact .inr ⟨k.ne_turn q, q⟩
  · exact .inl ⟨q2, q1⟩
theorem strOk_name {z : Str} (h : nameB z = true) : PyData.strOk z = true := by
  unfold nameB at h
  simp only [Bool.and_eq_true] at h
  have h4 := h.2
  unfold PyData.strOk
  rw [Array.all_eq_true_iff_forall_mem]
  intro c hc
  have hc' : c ∈ z.cps.toList := by simpa using hc
  have h5 := of_decide_eq_true (List.all_eq_true.mp h4 c hc')
  have : ∀ c ∈ letters, c < 1114112 := by decide +kernel
  exact decide_eq_true (this c h5)
theorem SetOk.strOk {st : Sett} (k : SetOk st) {x : Str} (h : x ∈ deedsL st) : PyData.strOk x = true := by
  rcases k.deed h with ⟨rfl, _⟩ | ⟨_, q⟩
  · decide +kernel
  · obtain ⟨p, hp, e⟩ := List.mem_map.mp q
    rw [← e]
    exact strOk_name (k.mn p hp)
/-! ### sorted -/
theorem oSorted_ints {d : D} {ns : List Int} (h : lstOf S d = some (ns.map .int)) : oSorted [d] S = some ((sortI ns).map .int) := by
  unfold oSorted oSortI
  dsimp only
  rw [h]
  show (match (match (intsOf (ns.map D.int)).map fun ns => (sortI ns).map D.int with | some es => some es | none => oSortS [d] S) with | some es => some es | none => oSortD [d] S) = _
  rw [intsOf_map]
  rfl
theorem oSorted_strs {d : D} {ns : List Str} (h : lstOf S d = some (ns.map .str)) (hl : ns.length < 64) : oSorted [d] S = some ((sortS ns).map .str) := by
  cases ns with
  | nil =>
    rw [oSorted_ints (ns := []) h]
    unfold sortI sortS
    simp
  | cons n ns =>
    unfold oSorted oSortI oSortS
    dsimp only
    rw [h]
    show (match (match (intsOf ((n :: ns).map D.str)).map fun ns => (sortI ns).map D.int with | some es => some es | none => (strsOf ((n :: ns).map D.str)).bind fun ns => if ns.length < 64 then some ((sortS ns).map D.str) else none) with | some es => some es | none => oSortD [d] S) = _
    rw [strsOf_map]
    show (match (match (none : Option (List D)) with | some es => some es | none => if (n :: ns).length < 64 then some ((sortS (n :: ns)).map D.str) else none) with | some es => some es | none => oSortD [d] S) = _
    dsimp only
    rw [if_pos hl]
theorem keysS_inr (ns : List Str) : keysS (ns.map Sum.inr) = some ns := by
  induction ns with
  | nil => rfl
  | cons n ns ih =>
    show (keysS (ns.map Sum.inr)).map (n :: ·) = _
    rw [ih]
    rfl
theorem oSorted_dctb {n : Nat} {kvs : List (Key × D)} {ns : List Str} (h : Dk S n kvs) (hk : kvs.map (·.1) = ns.map Sum.inr) (hl : ns.length < 64) : oSorted [.ref n] S = some ((sortS ns).map .str) := by
  have h0 : lstOf S (.ref n) = none := by
    exact h.noL
  unfold oSorted oSortI oSortS oSortD
  dsimp only
  rw [h0]
  dsimp only [Option.bind_none]
  rw [show dctAt S (.ref n) = some kvs by unfold dctAt; dsimp only; rw [h.base]]
  dsimp only [Option.bind_some]
  rw [hk, keysS_inr]
  dsimp only [Option.bind_some]
  rw [if_pos hl]
theorem oSorted_dct {n : Nat} {kvs : List (Key × D)} {ns : List Str} (h : S[n]? = some (.dct kvs)) (hk : kvs.map (·.1) = ns.map Sum.inr) (hl : ns.length < 64) : oSorted [.ref n] S = some ((sortS ns).map .str) := oSorted_dctb (.inl h) hk hl
theorem sortS_of {ns : List Str} (h : sortedS ns = true) : sortS ns = ns := (sortS_uniq (List.Perm.refl ns) h).symm
theorem length_sortS (ns : List Str) : (sortS ns).length = ns.length := (sortS_perm ns).length_eq
theorem kdM_keys (ms : List (Str × List Int)) : (kdM ms).map (·.1) = (ms.map (·.1)).map Sum.inr := by
  unfold kdM
  rw [List.map_map, List.map_map]
  rfl
theorem kdA_keys (ms : List (Str × (Int × List (List Int) × List Int))) : (kdA ms).map (·.1) = (ms.map (·.1)).map Sum.inr := by
  unfold kdA
  rw [List.map_map, List.map_map]
  rfl
/-! + -/
theorem W_addL {us vs : List D} (h : us.length + vs.length ≤ sizeLine) : W (fAdd (.lst us) (.lst vs) S) Q E = Q (.lst (us ++ vs)) S := by
  show W (if us.length + vs.length ≤ sizeLine then .ok (.lst (us ++ vs)) S else .bad) Q E = _
  rw [if_pos h]
  rfl
theorem W_addT {us vs : List D} (h : us.length + vs.length ≤ sizeLine) : W (fAdd (.tup us) (.tup vs) S) Q E = Q (.tup (us ++ vs)) S := by
  show W (if us.length + vs.length ≤ sizeLine then .ok (.tup (us ++ vs)) S else .bad) Q E = _
  rw [if_pos h]
  rfl
theorem W_mulL {us : List D} {k : Int} (h0 : -(2 ^ 63) ≤ k) (h1 : k < 2 ^ 63) (h2 : us.length * k.toNat ≤ sizeLine) : W (fMul (.lst us) (.int k) S) Q E = Q (.lst (List.replicate k.toNat us).flatten) S := by
  show W (if -(2 ^ 63) ≤ k ∧ k < 2 ^ 63 ∧ us.length * k.toNat ≤ sizeLine then .ok (.lst (List.replicate k.toNat us).flatten) S else .bad) Q E = _
  rw [if_pos ⟨h0, h1, h2⟩]
  rfl
theorem W_floor {i j : Int} (h : 0 < j) (h2 : j < 2 ^ 100) : W (fFloor (.int i) (.int j) S) Q E = Q (.int (i / j)) S :=
  W_f2Ic (decide_eq_true ⟨h, Nat.lt_trans (log2_lt (Int.le_of_lt h) h2 (by decide)) (by decide)⟩)
theorem W_mod {i j : Int} (h : 0 < j) : W (fMod (.int i) (.int j) S) Q E = Q (.int (i % j)) S := W_f2Ic (decide_eq_true h)
theorem W_intB {b : Bool} : W (fInt [.bl b] S) Q E = Q (.int (if b then 1 else 0)) S := rfl
/-- a text against a written one -/
theorem W_eqS {neg : Bool} {x y : Str} (hx : PyData.strOk x = true) (hy : PyData.strOk y = true) : W (fEq2 neg (.str x) (.str y) S) Q E = Q (.bl (if neg then !decide (x = y) else decide (x = y))) S := by
  rw [W_eq2F (by unfold flat; exact hx) (by unfold flat; exact hy)]
  have : eqD (.str x) (.str y) = decide (x = y) := by
    rw [Bool.eq_iff_iff, eqD_iff (by unfold noB; rfl) (by unfold noB; rfl), decide_eq_true_iff]
    exact ⟨fun z => D.str.inj z, fun z => by rw [z]⟩
  rw [this]
/-- in a tuple of texts -/
theorem W_inT {x : Str} {ys : List Str} : W (fIn false (.str x) (.tup (ys.map .str)) S) Q E = Q (.bl (decide (x ∈ ys))) S := by
  show W (fInF false (.str x) (.tup (ys.map .str)) S) Q E = _
  unfold fInF
  dsimp only [seqOf]
  have h1 : (ys.map D.str).all flatD = true := by
    rw [List.all_map]
    exact List.all_eq_true.mpr fun y _ => rfl
  rw [if_pos ⟨rfl, h1⟩]
  have h2 : ((ys.map D.str).any fun z => eqF z (.str x)) = decide (x ∈ ys) := by
    rw [List.any_map, Bool.eq_iff_iff, List.any_eq_true, decide_eq_true_iff]
    constructor
    · rintro ⟨y, hy, e⟩
      have : y = x := by simpa [eqF] using e
      rw [← this]
      exact hy
    · intro h
      exact ⟨x, h, by simp [eqF]⟩
  show Q (.bl (neg? false _)) S = _
  rw [h2]
  rfl
/-- a sign in the letters -/
theorem W_inC {c : Nat} {z : Str} : W (fIn false (.str ⟨#[c]⟩) (.str z) S) Q E = Q (.bl (decide (c ∈ z.cps.toList))) S := rfl
end
end MM

/-! What the law's draws come to. -/
namespace MM
open PySem L2 PyProof.Rows
local macro_rules | `(tactic| simp_arith [$ts,*]) => `(tactic| simp -implicitDefEqProofs only [W_ok, W_var, k_var, W_c, W_op, k_op1, k_op2, W_un, k_un, W_nil, W_cons, k_cons1, k_cons2, W_call, k_call, W_tup, k_tup, W_lst, k_lst, W_lstS, k_lstS, W_seq, k_seq_nx, k_seq_rt, k_seq_bk, k_seq_ct, W_expr, k_expr, W_ret, k_ret, W_retN, W_nx, W_bk, W_ct, W_if, k_if_t, k_if_f, W_ifE, k_ifE_t, k_ifE_f, W_b, k_b, W_andT, k_andT_t, k_andT_f, W_orT, k_orT_t, k_orT_f, W_notT, k_notT, W_yes, W_andV, k_andV_t, k_andV_f, W_orV, k_orV_t, k_orV_f, W_notV, k_notV, W_cmpC, k_cmp1, k_cmp2, k_cmp3_t, k_cmp3_f, W_asg, k_asg, k_asg2, W_gN, W_gsNil, W_gsCons, k_gs, W_gTp, W_gIx, k_ix1, W_for, W_lc, W_lcS, W_next, W_miA, k_it_tup, k_it_lst, k_it_frz, W_def, k_def_rt, k_def_nx, W_callK, k_CK1, k_CK2, perm, List.filterMap_cons, List.filterMap_nil, and_self, W_f2I, W_addI, W_int, W_2L, W_is, W_lenT, W_lenL, W_lenF, W_tupleT, W_tupleL, W_tupleF, k_body, k_loop_nx, k_loop_ct, k_loop_bk, k_loop_rt, k_lc1, k_lc2_t, k_lc2_f, List.map_cons, List.map_nil, List.length_cons, List.length_nil, List.reduceReplicate, Nat.reduceSub, Nat.reduceAdd, Int.reduceAdd, Int.reduceSub, Int.reduceMul, Int.reduceNeg, Int.reduceLT, Int.reduceLE, Int.reduceEq, Int.cast_ofNat_Int, Int.natCast_zero, Int.natCast_one, eq_self, decide_true, decide_false, Bool.and_true, Bool.true_and, Bool.false_and, Bool.and_false, Nat.zero_add, List.replicate_zero, List.replicate_succ, List.cons_append, List.nil_append, List.append_nil, List.getElem?_cons_zero, List.getElem?_cons_succ, List.set_cons_zero, List.set_cons_succ, wipeD, Bool.not_true, Bool.not_false, if_true, if_false, reduceIte, isNon, Bool.false_eq_true, k_el, W_E, k_en_tup, k_en_lst, isi_int_i, isi_int_b, isi_int_n, isi_int_s, isi_int_t, isi_int_l, isi_bool_i, isi_bool_b, isi_bool_n, isi_bool_s, isi_bool_t, isi_bool_l, isi_tuple_i, isi_tuple_b, isi_tuple_n, isi_tuple_s, isi_tuple_t, isi_tuple_l, isi_list_i, isi_list_b, isi_list_n, isi_list_s, isi_list_t, isi_list_l, W_eq2I, W_intB, k_R1_eq, k_R2_eq, W_R1q, W_ixDT, W_ixDL, W_ixDF, k_opt, atI_lit, W_gTpT, W_gTpL, W_noPart, W_part, k_part, W_sl, k_sl1, k_sl2, k_sl3T, k_sl3L, W_revT, W_revL, W_meth, k_meth2, W_prop, W_make, k_make, k_made, W_sFld, k_fldS1, W_app, W_bits, W_gSt, k_st1, W_gSl, k_gsl1, k_gsl2, W_rgT, W_rgL, W_rgS, W_rg1, k_rg1, W_miS, k_itS, W_E2, k_en2_tup, k_en2_lst, k_en2_frz, W_par, k_par, W_par3, k_par3, W_dct0, W_disp, W_pnil, W_pcons, k_ps1, k_ps2, k_ps3, W_dc, k_dc1, k_dc2_t, k_dc2_f, k_dc3, k_dc4, isi_str_i, isi_str_b, isi_str_n, isi_str_s, isi_str_t, isi_str_l, W_metL, k_metL, W_err, k_err, W_callC, W_ifC, W_ifEC, W_isiEn, W_try, W_raise, k_raise, W_catL, lsOf_lst, $ts,*])
local macro_rules | `(tactic| simp_arith) => `(tactic| simp_arith [])
section
set_option maxHeartbeats 1000000
variable {Q : D → Store → Prop} {E : Er → Store → Prop} {S : Store}
theorem W_mixed {y z : Int} (hy : 0 ≤ y) (hy2 : y < 2147483647) (hz : 0 ≤ z) (hz2 : z < 2 ^ 60) : W (m__law_mixed [.int y, .int z] S) (fun d S' => ∃ r, d = .int r ∧ 0 ≤ r ∧ S' = S) E := by
  unfold m__law_mixed
  have l1 := log2_lt (k := 31) hy (by omega) (by decide)
  have l2 := log2_lt (k := 60) hz (by omega) (by decide)
  have n1 : (2654435761 : Int).natAbs.log2 < 40 := by decide +kernel
  have n2 : (40503 : Int).natAbs.log2 < 40 := by decide +kernel
  have n3 : (97 : Int).natAbs.log2 < 40 := by decide +kernel
  have n4 : (7 : Int).natAbs.log2 < 40 := by decide +kernel
  have l3 : (40503 * z).natAbs.log2 < 100 := log2_lt (by omega) (by omega) (by decide)
  simp_arith []
  rw [W_mulI (by omega)]
  simp_arith []
  rw [W_mulI (by omega)]
  simp_arith []
  rw [W_mulI (by omega)]
  simp_arith []
  rw [W_mulI (by omega)]
  simp_arith []
  rw [W_f2Ic (by decide +kernel)]
  simp_arith []
  generalize hq : (y * 2654435761 + 40503 * z * z + 97 * z + 13) % 2147483647 = q
  have q0 : 0 ≤ q := by omega
  have q1 : q < 2147483647 := by omega
  have l4 := log2_lt (k := 31) q0 (by omega) (by decide)
  rw [W_mulI (by omega)]
  simp_arith []
  rw [W_mulI (by omega)]
  simp_arith []
  rw [W_f2Ic (by decide +kernel)]
  simp_arith []
  rw [W_f2Ic (by decide +kernel)]
  exact ⟨_, rfl, by omega, rfl⟩
theorem W_draw {n : Nat} {b k : Int} (h : Pu S n b) (hb : b < 2 ^ 50) (k0 : 0 < k) (k1 : k < 2 ^ 29) : W (m__law_draw [.ref n, .int k] S) (fun d S' => ∃ r, d = .int r ∧ 0 ≤ r ∧ r < k ∧ PW n S (b + 1) S') E := by
  obtain ⟨x, y, z, h1, h2, h3, h4, h5, h6⟩ := h
  have hl : S[n]? = some (.lst [.int x, .int y, .int z]) := h1
  have lk := log2_lt (k := 60) (Int.le_of_lt k0) (by omega) (by decide)
  unfold m__law_draw
  simp_arith []
  rw [W_ixDS hl]
  simp_arith []
  by_cases hx : 0 < x
  · simp_arith [hx]
    rw [W_ixDS hl]
    simp_arith []
    rw [W_f2Ic (decide_eq_true k0)]
    simp_arith []
    rw [W_ixDS hl]
    simp_arith []
    rw [W_f2Ic (decide_eq_true ⟨k0, Nat.lt_trans lk (by decide)⟩)]
    simp_arith []
    rw [k_st2L (j := 0) hl rfl]
    simp_arith []
    exact ⟨_, rfl, Int.emod_nonneg _ (by omega), Int.emod_lt_of_pos _ k0, ⟨_, y, z, set_at hl, Int.ediv_nonneg h2 (by omega), h3, h4, h5, by omega⟩, Fr.set⟩
  · simp_arith [hx]
    rw [W_ixDS hl]
    simp_arith []
    rw [k_st2L (j := 2) hl rfl]
    simp_arith []
    have hl2 : (S.set n (.lst [.int x, .int y, .int (z + 1)]))[n]? = some (.lst [.int x, .int y, .int (z + 1)]) := set_at hl
    rw [W_ixDS hl2]
    simp_arith []
    rw [W_ixDS hl2]
    simp_arith []
    refine (W_mixed (E := E) h3 h4 (by omega) (by omega)).mono fun d S1 h => ?_
    obtain ⟨r, rfl, r0, rfl⟩ := h
    simp_arith []
    rw [W_f2Ic (decide_eq_true k0)]
    simp_arith []
    exact ⟨_, rfl, Int.emod_nonneg _ (by omega), Int.emod_lt_of_pos _ k0, ⟨x, y, z + 1, set_at hl, h2, h3, h4, by omega, by omega⟩, Fr.set⟩
theorem atI_int {ns : List Int} {i : Int} (h0 : 0 ≤ i) (h1 : i < ns.length) : ∃ c, c ∈ ns ∧ atI (ns.map D.int) i = some (.int c) := by
  have hi : i.toNat < ns.length := by omega
  refine ⟨ns[i.toNat], List.getElem_mem hi, ?_⟩
  rw [atI_of h0, List.getElem?_map, List.getElem?_eq_getElem hi]
  rfl
theorem W_purse {ns : List Int} {i : Int} (h0 : 0 ≤ i) (h1 : i < 1000000) : W (m__law_purse [.frz (ns.map .int), .int i] S) (fun d S' => ∃ o, d = .ref S.length ∧ S' = S ++ [o] ∧ Pu S' S.length (1000 * i)) E := by
  unfold m__law_purse
  have p1 : (decide ((0:Int) ≤ 18 ∧ (Builtin.Int.intBits 10 : Int) * 18 ≤ 2 ^ 27)) = true := by decide +kernel
  have p2 : (decide ((0:Int) ≤ 60 ∧ (Builtin.Int.intBits 10 : Int) * 60 ≤ 2 ^ 27)) = true := by decide +kernel
  have p3 : (decide ((0:Int) ≤ 8 ∧ (Builtin.Int.intBits (10 ^ Int.toNat 60) : Int) * 8 ≤ 2 ^ 27)) = true := by decide +kernel
  have p4 : (decide ((0 : Int) < (10 ^ Int.toNat 60) ^ Int.toNat 8)) = true := by decide +kernel
  have n1 : (1000 : Int).natAbs.log2 < 40 := by decide +kernel
  have n2 := log2_lt (k := 60) h0 (by omega) (by decide)
  have fin : ∀ c : Int, W (sRet (mLstS (mCons (mOp fMod (mCall fInt (mCons (mCall fMax2 (mCons (mOp fSub (mVar 2) (mOp fPowW (mC (.int 10)) (mC (.int 18)))) (mCons (mC (.int 0)) mNil))) mNil)) (mOp fPowW (mOp fPowW (mC (.int 10)) (mC (.int 60))) (mC (.int 8)))) (mCons (mOp fMod (mCall fInt (mCons (mVar 2) mNil)) (mC (.int 2147483647))) (mCons (mOp fMul (mC (.int 1000)) (mVar 1)) mNil)))) [some (.frz (ns.map .int)), some (.int i), some (.int c)] S) (kDef fun d S' => ∃ o, d = .ref S.length ∧ S' = S ++ [o] ∧ Pu S' S.length (1000 * i)) E := by
    intro c
    simp_arith []
    rw [W_f2Ic p1]
    simp_arith []
    rw [W_f2Ic p2]
    simp_arith []
    rw [W_f2Ic p3]
    simp_arith []
    rw [W_f2Ic p4]
    simp_arith []
    rw [W_f2Ic (by decide +kernel)]
    simp_arith []
    rw [W_mulI (by omega)]
    simp_arith []
    refine ⟨_, by trivial, rfl, _, _, _, at_end (o := pu _ _ _), ?_, ?_, ?_, ?_, Int.le_refl _⟩
    · exact Int.emod_nonneg _ (Int.ne_of_gt (of_decide_eq_true p4))
    · exact Int.emod_nonneg _ (by decide)
    · exact Int.emod_lt_of_pos _ (by decide)
    · omega
  simp_arith [W_if, List.length_map]
  by_cases hi : i < ns.length
  · obtain ⟨c, _, hc⟩ := atI_int h0 hi
    simp_arith [hi, hc]
    rw [W_f2Ic p1]
    simp_arith []
    rw [W_f2Ic p2]
    simp_arith []
    rw [W_f2Ic p3]
    simp_arith []
    rw [W_f2Ic p4]
    simp_arith []
    rw [W_f2Ic (by decide +kernel)]
    simp_arith []
    rw [W_mulI (by omega)]
    simp_arith []
    refine ⟨_, by trivial, rfl, _, _, _, at_end (o := pu _ _ _), ?_, ?_, ?_, ?_, Int.le_refl _⟩
    · exact Int.emod_nonneg _ (Int.ne_of_gt (of_decide_eq_true p4))
    · exact Int.emod_nonneg _ (by decide)
    · exact Int.emod_lt_of_pos _ (by decide)
    · omega
  · simp only [hi, decide_false, k_if_f, W_nx, k_seq_nx]
    exact fin 0

theorem W_drawP {n : Nat} {S0 : Store} {b k : Int} (h : PW n S0 b S) (hb : b < 2 ^ 50) (k0 : 0 < k) (k1 : k < 2 ^ 29) : W (m__law_draw [.ref n, .int k] S) (fun d S' => ∃ r, d = .int r ∧ 0 ≤ r ∧ r < k ∧ PW n S0 (b + 1) S') E :=
  (W_draw h.1 hb k0 k1).mono fun d S' ⟨r, h1, h2, h3, h4⟩ => ⟨r, h1, h2, h3, h.trans h4⟩
end
end MM

/-! the law, by hand -/
namespace MM
open PySem L2 PyProof.Rows
local macro_rules | `(tactic| simp_arith [$ts,*]) => `(tactic| simp -implicitDefEqProofs only [W_ok, W_var, k_var, W_c, W_op, k_op1, k_op2, W_un, k_un, W_nil, W_cons, k_cons1, k_cons2, W_call, k_call, W_tup, k_tup, W_lst, k_lst, W_lstS, k_lstS, W_seq, k_seq_nx, k_seq_rt, k_seq_bk, k_seq_ct, W_expr, k_expr, W_ret, k_ret, W_retN, W_nx, W_bk, W_ct, W_if, k_if_t, k_if_f, W_ifE, k_ifE_t, k_ifE_f, W_b, k_b, W_andT, k_andT_t, k_andT_f, W_orT, k_orT_t, k_orT_f, W_notT, k_notT, W_yes, W_andV, k_andV_t, k_andV_f, W_orV, k_orV_t, k_orV_f, W_notV, k_notV, W_cmpC, k_cmp1, k_cmp2, k_cmp3_t, k_cmp3_f, W_asg, k_asg, k_asg2, W_gN, W_gsNil, W_gsCons, k_gs, W_gTp, W_gIx, k_ix1, W_for, W_lc, W_lcS, W_next, W_miA, k_it_tup, k_it_lst, k_it_frz, W_def, k_def_rt, k_def_nx, W_callK, k_CK1, k_CK2, perm, List.filterMap_cons, List.filterMap_nil, and_self, W_f2I, W_addI, W_int, W_2L, W_is, W_lenT, W_lenL, W_lenF, W_tupleT, W_tupleL, W_tupleF, k_body, k_loop_nx, k_loop_ct, k_loop_bk, k_loop_rt, k_lc1, k_lc2_t, k_lc2_f, List.map_cons, List.map_nil, List.length_cons, List.length_nil, List.reduceReplicate, Nat.reduceSub, Nat.reduceAdd, Int.reduceAdd, Int.reduceSub, Int.reduceMul, Int.reduceNeg, Int.reduceLT, Int.reduceLE, Int.reduceEq, Int.cast_ofNat_Int, Int.natCast_zero, Int.natCast_one, eq_self, decide_true, decide_false, Bool.and_true, Bool.true_and, Bool.false_and, Bool.and_false, Nat.zero_add, List.replicate_zero, List.replicate_succ, List.cons_append, List.nil_append, List.append_nil, List.getElem?_cons_zero, List.getElem?_cons_succ, List.set_cons_zero, List.set_cons_succ, wipeD, Bool.not_true, Bool.not_false, if_true, if_false, reduceIte, isNon, Bool.false_eq_true, k_el, W_E, k_en_tup, k_en_lst, isi_int_i, isi_int_b, isi_int_n, isi_int_s, isi_int_t, isi_int_l, isi_bool_i, isi_bool_b, isi_bool_n, isi_bool_s, isi_bool_t, isi_bool_l, isi_tuple_i, isi_tuple_b, isi_tuple_n, isi_tuple_s, isi_tuple_t, isi_tuple_l, isi_list_i, isi_list_b, isi_list_n, isi_list_s, isi_list_t, isi_list_l, W_eq2I, W_intB, k_R1_eq, k_R2_eq, W_R1q, W_ixDT, W_ixDL, W_ixDF, k_opt, atI_lit, W_gTpT, W_gTpL, W_noPart, W_part, k_part, W_sl, k_sl1, k_sl2, k_sl3T, k_sl3L, W_revT, W_revL, W_meth, k_meth2, W_prop, W_make, k_make, k_made, W_sFld, k_fldS1, W_app, W_bits, W_gSt, k_st1, W_gSl, k_gsl1, k_gsl2, W_rgT, W_rgL, W_rgS, W_rg1, k_rg1, W_miS, k_itS, W_E2, k_en2_tup, k_en2_lst, k_en2_frz, W_par, k_par, W_par3, k_par3, W_dct0, W_disp, W_pnil, W_pcons, k_ps1, k_ps2, k_ps3, W_dc, k_dc1, k_dc2_t, k_dc2_f, k_dc3, k_dc4, isi_str_i, isi_str_b, isi_str_n, isi_str_s, isi_str_t, isi_str_l, W_metL, k_metL, W_err, k_err, W_callC, W_ifC, W_ifEC, W_isiEn, W_try, W_raise, k_raise, W_catL, lsOf_lst, $ts,*])
local macro_rules | `(tactic| simp_arith) => `(tactic| simp_arith [])
section
set_option maxHeartbeats 1000000
variable {Q : D → Store → Prop} {QA : List D → Store → Prop} {QS : Fl × Rho → Store → Prop} {E : Er → Store → Prop} {S : Store} {ρ : Rho}
/-! ### things that are known -/
/-- a list or a dict stands there -/
def Ob (S : Store) (i : Nat) : Prop := (∃ ds, S[i]? = some (O.lst ds)) ∨ ∃ kvs, S[i]? = some (O.dct kvs)
/-- a thing so deep, its tuples and lists at most so long -/
inductive Kn (S : Store) (B : Nat) : Nat → D → Prop
  | non {n : Nat} : Kn S B n .non
  | bl {n : Nat} {b : Bool} : Kn S B n (.bl b)
  | int {n : Nat} {i : Int} : Kn S B n (.int i)
  | str {n : Nat} {z : Str} : Kn S B n (.str z)
  | ref {n i : Nat} : Ob S i → Kn S B n (.ref i)
  | tup {n : Nat} {ds : List D} : ds.length ≤ B → (∀ x ∈ ds, Kn S B n x) → Kn S B (n + 1) (.tup ds)
  | lst {n : Nat} {ds : List D} : ds.length ≤ B → (∀ x ∈ ds, Kn S B n x) → Kn S B (n + 1) (.lst ds)
theorem Kn.mono {B B' n m : Nat} {d : D} (h : Kn S B n d) (hB : B ≤ B') (hn : n ≤ m) : Kn S B' m d := by
  induction h generalizing m with
  | non => exact .non
  | bl => exact .bl
  | int => exact .int
  | str => exact .str
  | ref h => exact .ref h
  | tup h1 h2 ih =>
    obtain ⟨k, rfl⟩ : ∃ k, m = k + 1 := ⟨m - 1, by omega⟩
    exact .tup (Nat.le_trans h1 hB) fun x hx => ih x hx (by omega)
  | lst h1 h2 ih =>
    obtain ⟨k, rfl⟩ : ∃ k, m = k + 1 := ⟨m - 1, by omega⟩
    exact .lst (Nat.le_trans h1 hB) fun x hx => ih x hx (by omega)
theorem Kn.move {B n : Nat} {d : D} {S' : Store} (h : Kn S B n d) (hs : ∀ i, Ob S i → Ob S' i) : Kn S' B n d := by
  induction h with
  | non => exact .non
  | bl => exact .bl
  | int => exact .int
  | str => exact .str
  | ref h => exact .ref (hs _ h)
  | tup h1 h2 ih => exact .tup h1 ih
  | lst h1 h2 ih => exact .lst h1 ih
theorem Kn.ext {B n : Nat} {d : D} {S' : Store} (h : Kn S B n d) (e : Ext S S') : Kn S' B n d := h.move fun i h => h.imp (fun ⟨ds, h⟩ => ⟨ds, e.at h⟩) fun ⟨ds, h⟩ => ⟨ds, e.at h⟩
theorem Kn.pw {B n m : Nat} {d : D} {S' : Store} {b : Int} (h : Kn S B n d) (e : PW m S b S') : Kn S' B n d := h.move fun i h => by
  by_cases hi : i = m
  · subst hi
    obtain ⟨x, y, z, h1, _⟩ := e.1
    exact .inl ⟨_, h1⟩
  · exact h.imp (fun ⟨ds, h⟩ => ⟨ds, e.at h hi⟩) fun ⟨ds, h⟩ => ⟨ds, e.at h hi⟩
theorem Kn.set {B n m : Nat} {d : D} {ds : List D} (h : Kn S B n d) : Kn (S.set m (.lst ds)) B n d := h.move fun i h => by
  by_cases hi : m = i
  · subst hi
    have : m < S.length := by
      rcases h with ⟨_, h⟩ | ⟨_, h⟩ <;> exact (List.getElem?_eq_some_iff.mp h).1
    exact .inl ⟨ds, List.getElem?_set_self this⟩
  · unfold Ob
    rw [List.getElem?_set_ne hi]
    exact h
def isTp : D → Bool
  | .tup _ => true
  | _ => false
theorem W_isTp {B n : Nat} {d : D} (h : Kn S B n d) : W (fIsi "tuple" d S) Q E = Q (.bl (isTp d)) S := by
  cases h with
  | non => exact W_isi (t := "NoneType") (b := false) rfl (by decide +kernel)
  | bl => exact W_isi (t := "bool") (b := false) rfl (by decide +kernel)
  | int => exact W_isi (t := "int") (b := false) rfl (by decide +kernel)
  | str => exact W_isi (t := "str") (b := false) rfl (by decide +kernel)
  | tup h1 h2 => exact W_isi (t := "tuple") (b := true) rfl (by decide +kernel)
  | lst h1 h2 => exact W_isi (t := "list") (b := false) rfl (by decide +kernel)
  | ref h =>
    rcases h with ⟨ds, h⟩ | ⟨kvs, h⟩
    · exact W_isi (t := "list") (b := false) (by show tyO S[_]? = _; rw [h]; rfl) (by decide +kernel)
    · exact W_isi (t := "dict") (b := false) (by show tyO S[_]? = _; rw [h]; rfl) (by decide +kernel)
def isNum : D → Bool
  | .int _ => true
  | .bl _ => true
  | _ => false
theorem W_isNum {B n : Nat} {d : D} (h : Kn S B n d) : W (fIsi "int" d S) Q E = Q (.bl (isNum d)) S := by
  cases h with
  | non => exact W_isi (t := "NoneType") (b := false) rfl (by decide +kernel)
  | bl => exact W_isi (t := "bool") (b := true) rfl (by decide +kernel)
  | int => exact W_isi (t := "int") (b := true) rfl (by decide +kernel)
  | str => exact W_isi (t := "str") (b := false) rfl (by decide +kernel)
  | tup h1 h2 => exact W_isi (t := "tuple") (b := false) rfl (by decide +kernel)
  | lst h1 h2 => exact W_isi (t := "list") (b := false) rfl (by decide +kernel)
  | ref h =>
    rcases h with ⟨ds, h⟩ | ⟨kvs, h⟩
    · exact W_isi (t := "list") (b := false) (by show tyO S[_]? = _; rw [h]; rfl) (by decide +kernel)
    · exact W_isi (t := "dict") (b := false) (by show tyO S[_]? = _; rw [h]; rfl) (by decide +kernel)
/-- a whole number within bounds -/
def intD (lo hi : Int) : D → Bool
  | .int v => inR v lo hi
  | _ => false
theorem W_is_integer {i lo hi : Int} : W (m_is_integer [.int i, .int lo, .int hi] S) Q E = Q (.bl (inR i lo hi)) S := by
  unfold m_is_integer inR
  simp_arith []
  by_cases h : lo ≤ i
  · simp_arith [h]
  · simp_arith [h]
theorem W_isint {B n : Nat} {d : D} {lo hi : Int} (h : Kn S B n d) (hq : Q (.bl (intD lo hi d)) S) : W (m_is_integer [d, .int lo, .int hi] S) Q E := by
  cases hn : isNum d with
  | false =>
    unfold m_is_integer
    simp_arith []
    rw [W_isNum h, hn]
    simp_arith []
    cases d <;> first | exact hq | cases hn
  | true =>
    cases d <;> first | (cases hn; done) | skip
    · unfold m_is_integer
      simp_arith []
      exact hq
    · rw [W_is_integer]
      exact hq
theorem W_law_int {B n : Nat} {d : D} {hi : Int} (h : Kn S B n d) (hq : Q (.bl (intD 0 hi d)) S) : W (m__law_int [d, .int hi] S) Q E := by
  unfold m__law_int
  cases hn : isNum d with
  | false =>
    simp_arith []
    rw [W_isNum h, hn]
    simp_arith []
    cases d <;> first | exact hq | cases hn
  | true =>
    cases d <;> first | (cases hn; done) | skip
    · simp_arith []
      exact hq
    · rename_i i
      have hq' : Q (.bl (inR i 0 hi)) S := hq
      unfold inR at hq'
      simp_arith []
      by_cases h0 : (0 : Int) ≤ i
      · rw [decide_eq_true h0] at hq' ⊢
        simp_arith []
        exact hq'
      · rw [decide_eq_false h0] at hq' ⊢
        simp_arith []
        exact hq'
/-- a row of numbers below n -/
def rowB (n : Int) : D → Bool
  | .tup xs => xs.all (intD 0 (n - 1))
  | _ => false
theorem W_isrow {B m : Nat} {d : D} {n : Int} (h : Kn S B (m + 1) d) (hB : B < 1000) (hq : Q (.bl (rowB n d)) S) : W (m_is_row [d, .int n] S) Q E := by
  unfold m_is_row
  cases ht : isTp d with
  | false =>
    simp_arith []
    rw [W_isTp h, ht]
    simp_arith []
    cases d <;> first | exact hq | cases ht
  | true =>
    cases d <;> first | (cases ht; done) | skip
    rename_i xs
    cases h with
    | tup h1 h2 =>
    simp_arith []
    refine k_lc_map (lst_L _) (f := fun d => .bl (intD 0 (n - 1) d)) (by unfold sizeLine; omega) (fun x hx Y hY => ?_) ?_
    · simp_arith []
      exact W_isint (h2 x hx) hY
    · rw [show (xs.map fun d => D.bl (intD 0 (n - 1) d)) = (xs.map (intD 0 (n - 1))).map D.bl by rw [List.map_map]; rfl]
      simp_arith []
      rw [W_allL, List.all_map]
      exact hq
def rowL (n : Int) : D → Bool
  | .tup xs => xs.all (intD 0 n)
  | _ => false
theorem filter_empty {p : D → Bool} : ∀ xs : List D, (xs.filter fun d => !p d).isEmpty = xs.all p
  | [] => rfl
  | x :: xs => by
    rw [List.filter_cons, List.all_cons]
    cases p x with
    | true =>
      simp only [Bool.not_true, Bool.true_and]
      exact filter_empty xs
    | false => rfl
theorem k_lc_keep {f : D → Bool} {it : ItD} {xs : List D} {g : MG0} {tt : MT0} {te : ME0} {vs : List Nat} (hx : it.Lst xs) (hl : xs.length < sizeLine) (h : ∀ d ∈ xs, ∀ (Y : D → Store → Prop) (N : Store → Prop), (if f d = true then Y d S else N S) → W (g d (wipeD ρ vs) S) (kLc1 tt te Y N) Er0) (hq : QA (xs.filter f) S) : kLc QA E g tt te vs ρ it S := by
  refine k_lc hx (Nat.lt_trans hl (by decide)) (fun i acc S' => S' = S ∧ acc = (xs.take i).filter f) ⟨rfl, rfl⟩ (fun i d acc S' hi hI => ?_) fun acc S' hI => ?_
  · obtain ⟨rfl, rfl⟩ := hI
    refine h d (List.mem_of_getElem? hi) _ _ ?_
    have e : (xs.take (i + 1)).filter f = (xs.take i).filter f ++ if f d = true then [d] else [] := by
      rw [List.take_add_one, hi, List.filter_append]
      cases hf : f d with
      | true => simp [hf]
      | false => simp [hf]
    by_cases hf : f d = true
    · rw [if_pos hf]
      refine ⟨?_, rfl, ?_⟩
      · refine Nat.lt_of_le_of_lt (List.length_filter_le _ _) ?_
        rw [List.length_take]
        omega
      · rw [e, if_pos hf]
    · rw [if_neg hf]
      refine ⟨rfl, ?_⟩
      rw [e, if_neg hf, List.append_nil]
  · obtain ⟨rfl, rfl⟩ := hI
    rw [List.take_length]
    exact hq
theorem W_emL {xs : List D} {neg : Bool} : W (fEm neg (.lst xs) (.lst []) S) Q E = Q (.bl (if neg then !xs.isEmpty else xs.isEmpty)) S := rfl
theorem W_emT {xs : List D} {neg : Bool} : W (fEm neg (.tup xs) (.tup []) S) Q E = Q (.bl (if neg then !xs.isEmpty else xs.isEmpty)) S := rfl
theorem W_law_ints {B m : Nat} {d : D} {n : Int} (h : Kn S B (m + 1) d) (hB : B < 1000) (hq : Q (.bl (rowL n d)) S) : W (m__law_ints [d, .int n] S) Q E := by
  unfold m__law_ints
  cases ht : isTp d with
  | false =>
    simp_arith []
    rw [W_isTp h, ht]
    simp_arith []
    cases d <;> first | exact hq | cases ht
  | true =>
    cases d <;> first | (cases ht; done) | skip
    rename_i xs
    cases h with
    | tup h1 h2 =>
    simp_arith []
    refine k_lc_keep (lst_L _) (f := fun d => !intD 0 n d) (by unfold sizeLine; omega) (fun x hx Y N hY => ?_) ?_
    · simp_arith []
      refine W_law_int (h2 x hx) ?_
      simp_arith []
      cases hi : intD 0 n x with
      | true =>
        rw [hi] at hY
        simp_arith []
        exact hY
      | false =>
        rw [hi] at hY
        simp_arith []
        exact hY
    · simp_arith []
      rw [W_emL]
      simp_arith []
      rw [filter_empty]
      exact hq
end
end MM

/-! the law, by hand -/
namespace MM
open PySem L2 PyProof.Rows
local macro_rules | `(tactic| simp_arith [$ts,*]) => `(tactic| simp -implicitDefEqProofs only [W_ok, W_var, k_var, W_c, W_op, k_op1, k_op2, W_un, k_un, W_nil, W_cons, k_cons1, k_cons2, W_call, k_call, W_tup, k_tup, W_lst, k_lst, W_lstS, k_lstS, W_seq, k_seq_nx, k_seq_rt, k_seq_bk, k_seq_ct, W_expr, k_expr, W_ret, k_ret, W_retN, W_nx, W_bk, W_ct, W_if, k_if_t, k_if_f, W_ifE, k_ifE_t, k_ifE_f, W_b, k_b, W_andT, k_andT_t, k_andT_f, W_orT, k_orT_t, k_orT_f, W_notT, k_notT, W_yes, W_andV, k_andV_t, k_andV_f, W_orV, k_orV_t, k_orV_f, W_notV, k_notV, W_cmpC, k_cmp1, k_cmp2, k_cmp3_t, k_cmp3_f, W_asg, k_asg, k_asg2, W_gN, W_gsNil, W_gsCons, k_gs, W_gTp, W_gIx, k_ix1, W_for, W_lc, W_lcS, W_next, W_miA, k_it_tup, k_it_lst, k_it_frz, W_def, k_def_rt, k_def_nx, W_callK, k_CK1, k_CK2, perm, List.filterMap_cons, List.filterMap_nil, and_self, W_f2I, W_addI, W_int, W_2L, W_is, W_lenT, W_lenL, W_lenF, W_tupleT, W_tupleL, W_tupleF, k_body, k_loop_nx, k_loop_ct, k_loop_bk, k_loop_rt, k_lc1, k_lc2_t, k_lc2_f, List.map_cons, List.map_nil, List.length_cons, List.length_nil, List.reduceReplicate, Nat.reduceSub, Nat.reduceAdd, Int.reduceAdd, Int.reduceSub, Int.reduceMul, Int.reduceNeg, Int.reduceLT, Int.reduceLE, Int.reduceEq, Int.cast_ofNat_Int, Int.natCast_zero, Int.natCast_one, eq_self, decide_true, decide_false, Bool.and_true, Bool.true_and, Bool.false_and, Bool.and_false, Nat.zero_add, List.replicate_zero, List.replicate_succ, List.cons_append, List.nil_append, List.append_nil, List.getElem?_cons_zero, List.getElem?_cons_succ, List.set_cons_zero, List.set_cons_succ, wipeD, Bool.not_true, Bool.not_false, if_true, if_false, reduceIte, isNon, Bool.false_eq_true, k_el, W_E, k_en_tup, k_en_lst, isi_int_i, isi_int_b, isi_int_n, isi_int_s, isi_int_t, isi_int_l, isi_bool_i, isi_bool_b, isi_bool_n, isi_bool_s, isi_bool_t, isi_bool_l, isi_tuple_i, isi_tuple_b, isi_tuple_n, isi_tuple_s, isi_tuple_t, isi_tuple_l, isi_list_i, isi_list_b, isi_list_n, isi_list_s, isi_list_t, isi_list_l, W_eq2I, W_intB, k_R1_eq, k_R2_eq, W_R1q, W_ixDT, W_ixDL, W_ixDF, k_opt, atI_lit, W_gTpT, W_gTpL, W_noPart, W_part, k_part, W_sl, k_sl1, k_sl2, k_sl3T, k_sl3L, W_revT, W_revL, W_meth, k_meth2, W_prop, W_make, k_make, k_made, W_sFld, k_fldS1, W_app, W_bits, W_gSt, k_st1, W_gSl, k_gsl1, k_gsl2, W_rgT, W_rgL, W_rgS, W_rg1, k_rg1, W_miS, k_itS, W_E2, k_en2_tup, k_en2_lst, k_en2_frz, W_par, k_par, W_par3, k_par3, W_dct0, W_disp, W_pnil, W_pcons, k_ps1, k_ps2, k_ps3, W_dc, k_dc1, k_dc2_t, k_dc2_f, k_dc3, k_dc4, isi_str_i, isi_str_b, isi_str_n, isi_str_s, isi_str_t, isi_str_l, W_metL, k_metL, W_err, k_err, W_callC, W_ifC, W_ifEC, W_isiEn, W_try, W_raise, k_raise, W_catL, lsOf_lst, $ts,*])
local macro_rules | `(tactic| simp_arith) => `(tactic| simp_arith [])
section
set_option maxHeartbeats 1000000
variable {Q : D → Store → Prop} {QA : List D → Store → Prop} {QS : Fl × Rho → Store → Prop} {E : Er → Store → Prop} {S : Store} {ρ : Rho}
/-! ### the first problem of a thing -/
def lenD : D → Int
  | .tup xs => xs.length
  | _ => 0
def rowOk (m size : Int) (r : D) : Bool := rowB m r && decide (lenD r = size)
def faultC (s : D) (rs as : List D) (size : Int) : D := if (rs.isEmpty || as.isEmpty) = true then .tup [.str "form"] else
  match rs.findIdx? (fun r => !rowOk rs.length size r) with
  | some i => .tup [.str "steps", .int i]
  | none => if (decide ((as.length : Int) = rs.length) && as.all (intD 0 99)) = true then (if intD 0 (rs.length - 1) s = true then .non else .tup [.str "start"]) else .tup [.str "answers"]
def faultP (s x y : D) (size : Int) : D := match x with
  | .tup rs => match y with
    | .tup as => faultC s rs as size
    | _ => .tup [.str "form"]
  | _ => .tup [.str "form"]
def fault3 (ds : List D) (size : Int) : D := match ds with
  | [s, x, y] => faultP s x y size
  | _ => .tup [.str "form"]
def faultD (d : D) (size : Int) : D := match d with
  | .tup ds => fault3 ds size
  | _ => .tup [.str "form"]
theorem fault_len {ds : List D} {size : Int} (h : ds.length ≠ 3) : faultD (.tup ds) size = .tup [.str "form"] := by
  match ds with
  | [] => rfl
  | [_] => rfl
  | [_, _] => rfl
  | [_, _, _] => exact (h rfl).elim
  | _ :: _ :: _ :: _ :: _ => rfl
theorem tp_tup {d : D} (h : isTp d = true) : ∃ ds, d = .tup ds := by
  cases d <;> first | exact ⟨_, rfl⟩ | cases h
theorem fault_steps {s x y : D} {size : Int} (h : isTp x = false) : faultD (.tup [s, x, y]) size = .tup [.str "form"] := by
  cases x <;> first | rfl | cases h
theorem fault_answers {s y : D} {rs : List D} {size : Int} (h : isTp y = false) : faultD (.tup [s, .tup rs, y]) size = .tup [.str "form"] := by
  cases y <;> first | rfl | cases h
theorem fault_not {d : D} {size : Int} (h : isTp d = false) : faultD d size = .tup [.str "form"] := by
  cases d <;> first | rfl | cases h
theorem find_some {p : D → Bool} {rs : List D} {i : Nat} {x : D} (hx : rs[i]? = some x) (hp : p x = true) (h : ∀ j y, j < i → rs[j]? = some y → p y = false) : rs.findIdx? p = some i := by
  obtain ⟨hl, he⟩ := List.getElem?_eq_some_iff.mp hx
  refine List.findIdx?_eq_some_iff_getElem.mpr ⟨hl, by rw [he]; exact hp, fun j hj => ?_⟩
  rw [h j _ hj (List.getElem?_eq_getElem (by omega))]
  exact Bool.false_ne_true
theorem find_none {p : D → Bool} {rs : List D} (h : ∀ j y, j < rs.length → rs[j]? = some y → p y = false) : rs.findIdx? p = none := by
  refine List.findIdx?_eq_none_iff.mpr fun x hx => ?_
  obtain ⟨j, hj⟩ := List.mem_iff_getElem?.mp hx
  exact h j x (List.getElem?_eq_some_iff.mp hj).1 hj
theorem W_lenK {B m : Nat} {d : D} (h : Kn S B m d) (ht : isTp d = true) : W (fLen [d] S) Q E = Q (.int (lenD d)) S := by
  cases d <;> first | rfl | cases ht
theorem rowB_tp {n : Int} {d : D} (h : rowB n d = true) : isTp d = true := by
  cases d <;> first | rfl | cases h
theorem W_fault {B m : Nat} {d : D} {size : Int} (h : Kn S B (m + 4) d) (hB : B < 1000) (hq : Q (faultD d size) S) : W (m_fault_of [d, .int size] S) Q E := by
  unfold m_fault_of
  cases ht : isTp d with
  | false =>
    simp_arith []
    rw [W_isTp h, ht]
    simp_arith []
    rw [fault_not ht] at hq
    exact hq
  | true =>
    obtain ⟨ds, rfl⟩ := tp_tup ht
    by_cases hl : ds.length = 3
    · match ds, hl with
      | [s, x, y], _ =>
      cases h with
      | tup h1 h2 =>
      have hx := h2 x (by simp)
      have hy := h2 y (by simp)
      have hs := h2 s (by simp)
      simp_arith []
      rw [W_isTp hx]
      cases hxt : isTp x with
      | false =>
        rw [fault_steps hxt] at hq
        simp_arith []
        exact hq
      | true =>
      obtain ⟨rs, rfl⟩ := tp_tup hxt
      simp_arith []
      rw [W_isTp hy]
      cases hyt : isTp y with
      | false =>
        rw [fault_answers hyt] at hq
        simp_arith []
        exact hq
      | true =>
      obtain ⟨as, rfl⟩ := tp_tup hyt
      simp_arith []
      rw [W_emT]
      have hq' : Q (if (rs.isEmpty || as.isEmpty) = true then .tup [.str "form"] else
        match rs.findIdx? (fun r => !rowOk rs.length size r) with
        | some i => .tup [.str "steps", .int i]
        | none => if (decide ((as.length : Int) = rs.length) && as.all (intD 0 99)) = true then (if intD 0 (rs.length - 1) s = true then .non else .tup [.str "start"]) else .tup [.str "answers"]) S := hq
      clear hq
      cases hre : rs.isEmpty with
      | true =>
        rw [hre] at hq'
        simp_arith []
        exact hq'
      | false =>
      simp_arith []
      rw [W_emT]
      cases hae : as.isEmpty with
      | true =>
        rw [hre, hae] at hq'
        simp_arith []
        exact hq'
      | false =>
      rw [hre, hae] at hq'
      have hq : Q (match rs.findIdx? (fun r => !rowOk rs.length size r) with
        | some i => .tup [.str "steps", .int i]
        | none => if (decide ((as.length : Int) = rs.length) && as.all (intD 0 99)) = true then (if intD 0 (rs.length - 1) s = true then .non else .tup [.str "start"]) else .tup [.str "answers"]) S := hq'
      clear hq'
      simp_arith []
      cases hx with
      | tup k1 k2 =>
      cases hy with
      | tup k3 k4 =>
      refine k_for (lst_E _) (by unfold enumD; rw [List.length_map, List.length_zipIdx]; unfold BIG; omega)
        (fun i ρ S' => S' = S ∧ (∀ j z, j < i → rs[j]? = some z → rowOk rs.length size z = true) ∧ ∃ a c, ρ = [some (.tup [s, .tup rs, .tup as]), some (.int size), some s, some (.tup rs), some (.tup as), a, c, none])
        ⟨rfl, fun j z hj => absurd hj (Nat.not_lt_zero j), _, _, rfl⟩ (fun i d ρ S' hi hI => ?_) (fun ρ S' hI => ?_)
      · obtain ⟨rfl, hg, a, c, rfl⟩ := hI
        unfold enumD at hi
        rw [List.getElem?_map, List.getElem?_zipIdx] at hi
        cases hz : rs[i]? with
        | none => rw [hz] at hi; cases hi
        | some r =>
        rw [hz] at hi
        obtain rfl := Option.some.inj hi
        have bad : rowOk rs.length size r = false → Q (.tup [.str "steps", .int (0 + i : Nat)]) S' := fun hb => by
          rw [find_some (p := fun r => !rowOk rs.length size r) hz (by rw [hb]; rfl) (fun j y hj hy => by rw [hg j y hj hy]; rfl)] at hq
          rw [Nat.zero_add]
          exact hq
        simp_arith []
        refine W_isrow (k2 r (List.mem_of_getElem? hz)) hB ?_
        cases hr : rowB rs.length r with
        | false =>
          have := bad (by unfold rowOk; rw [hr]; rfl)
          rw [Nat.zero_add] at this
          simp_arith []
          exact this
        | true =>
        simp_arith []
        rw [W_lenK (k2 r (List.mem_of_getElem? hz)) (rowB_tp hr)]
        simp_arith []
        by_cases hs : lenD r = size
        · rw [decide_eq_true hs]
          simp_arith []
          refine ⟨trivial, fun j z hj hz' => ?_, _, _, rfl⟩
          by_cases hji : j = i
          · subst hji
            rw [hz] at hz'
            cases hz'
            unfold rowOk
            rw [hr, decide_eq_true hs]
            rfl
          · exact hg j z (by omega) hz'
        · have := bad (by unfold rowOk; rw [decide_eq_false hs, Bool.and_false])
          rw [Nat.zero_add] at this
          rw [decide_eq_false hs]
          simp_arith []
          exact this
      · obtain ⟨rfl, hg, a, c, rfl⟩ := hI
        have le : (enumD rs).length = rs.length := by unfold enumD; rw [List.length_map, List.length_zipIdx]
        rw [le] at hg
        rw [find_none (p := fun r => !rowOk rs.length size r) (fun j y hj hy => by rw [hg j y hj hy]; rfl)] at hq
        dsimp only at hq
        simp_arith []
        by_cases hla : (as.length : Int) = rs.length
        · rw [decide_eq_true hla] at hq ⊢
          simp_arith []
          refine k_lc_map (lst_L _) (f := fun d => .bl (intD 0 99 d)) (by unfold sizeLine; omega) (fun x hx Y hY => ?_) ?_
          · simp_arith []
            exact W_isint (k4 x hx) hY
          · rw [show (as.map fun d => D.bl (intD 0 99 d)) = (as.map (intD 0 99)).map D.bl by rw [List.map_map]; rfl]
            simp_arith []
            rw [W_allL, List.all_map]
            have e0 : as.all (id ∘ intD 0 99) = as.all (intD 0 99) := rfl
            rw [e0]
            rw [Bool.true_and] at hq
            cases ha : as.all (intD 0 99) with
            | false =>
              rw [ha] at hq
              simp_arith []
              exact hq
            | true =>
              rw [ha] at hq
              simp_arith []
              refine W_isint hs ?_
              cases hb : intD 0 (rs.length - 1) s with
              | true =>
                rw [hb] at hq
                simp_arith []
                exact hq
              | false =>
                rw [hb] at hq
                simp_arith []
                exact hq
        · rw [decide_eq_false hla] at hq ⊢
          simp_arith []
          exact hq
    · rw [fault_len hl] at hq
      simp_arith []
      rw [decide_eq_false (show ¬ ((ds.length : Int) = 3) by omega)]
      simp_arith []
      exact hq
end
end MM

/-! the law, by hand -/
namespace MM
open PySem L2 PyProof.Rows
local macro_rules | `(tactic| simp_arith [$ts,*]) => `(tactic| simp -implicitDefEqProofs only [W_ok, W_var, k_var, W_c, W_op, k_op1, k_op2, W_un, k_un, W_nil, W_cons, k_cons1, k_cons2, W_call, k_call, W_tup, k_tup, W_lst, k_lst, W_lstS, k_lstS, W_seq, k_seq_nx, k_seq_rt, k_seq_bk, k_seq_ct, W_expr, k_expr, W_ret, k_ret, W_retN, W_nx, W_bk, W_ct, W_if, k_if_t, k_if_f, W_ifE, k_ifE_t, k_ifE_f, W_b, k_b, W_andT, k_andT_t, k_andT_f, W_orT, k_orT_t, k_orT_f, W_notT, k_notT, W_yes, W_andV, k_andV_t, k_andV_f, W_orV, k_orV_t, k_orV_f, W_notV, k_notV, W_cmpC, k_cmp1, k_cmp2, k_cmp3_t, k_cmp3_f, W_asg, k_asg, k_asg2, W_gN, W_gsNil, W_gsCons, k_gs, W_gTp, W_gIx, k_ix1, W_for, W_lc, W_lcS, W_next, W_miA, k_it_tup, k_it_lst, k_it_frz, W_def, k_def_rt, k_def_nx, W_callK, k_CK1, k_CK2, perm, List.filterMap_cons, List.filterMap_nil, and_self, W_f2I, W_addI, W_int, W_2L, W_is, W_lenT, W_lenL, W_lenF, W_tupleT, W_tupleL, W_tupleF, k_body, k_loop_nx, k_loop_ct, k_loop_bk, k_loop_rt, k_lc1, k_lc2_t, k_lc2_f, List.map_cons, List.map_nil, List.length_cons, List.length_nil, List.reduceReplicate, Nat.reduceSub, Nat.reduceAdd, Int.reduceAdd, Int.reduceSub, Int.reduceMul, Int.reduceNeg, Int.reduceLT, Int.reduceLE, Int.reduceEq, Int.cast_ofNat_Int, Int.natCast_zero, Int.natCast_one, eq_self, decide_true, decide_false, Bool.and_true, Bool.true_and, Bool.false_and, Bool.and_false, Nat.zero_add, List.replicate_zero, List.replicate_succ, List.cons_append, List.nil_append, List.append_nil, List.getElem?_cons_zero, List.getElem?_cons_succ, List.set_cons_zero, List.set_cons_succ, wipeD, Bool.not_true, Bool.not_false, if_true, if_false, reduceIte, isNon, Bool.false_eq_true, k_el, W_E, k_en_tup, k_en_lst, isi_int_i, isi_int_b, isi_int_n, isi_int_s, isi_int_t, isi_int_l, isi_bool_i, isi_bool_b, isi_bool_n, isi_bool_s, isi_bool_t, isi_bool_l, isi_tuple_i, isi_tuple_b, isi_tuple_n, isi_tuple_s, isi_tuple_t, isi_tuple_l, isi_list_i, isi_list_b, isi_list_n, isi_list_s, isi_list_t, isi_list_l, W_eq2I, W_intB, k_R1_eq, k_R2_eq, W_R1q, W_ixDT, W_ixDL, W_ixDF, k_opt, atI_lit, W_gTpT, W_gTpL, W_noPart, W_part, k_part, W_sl, k_sl1, k_sl2, k_sl3T, k_sl3L, W_revT, W_revL, W_meth, k_meth2, W_prop, W_make, k_make, k_made, W_sFld, k_fldS1, W_app, W_bits, W_gSt, k_st1, W_gSl, k_gsl1, k_gsl2, W_rgT, W_rgL, W_rgS, W_rg1, k_rg1, W_miS, k_itS, W_E2, k_en2_tup, k_en2_lst, k_en2_frz, W_par, k_par, W_par3, k_par3, W_dct0, W_disp, W_pnil, W_pcons, k_ps1, k_ps2, k_ps3, W_dc, k_dc1, k_dc2_t, k_dc2_f, k_dc3, k_dc4, isi_str_i, isi_str_b, isi_str_n, isi_str_s, isi_str_t, isi_str_l, W_metL, k_metL, W_err, k_err, W_callC, W_ifC, W_ifEC, W_isiEn, W_try, W_raise, k_raise, W_catL, lsOf_lst, $ts,*])
local macro_rules | `(tactic| simp_arith) => `(tactic| simp_arith [])
section
set_option maxHeartbeats 1000000
variable {Q : D → Store → Prop} {QA : List D → Store → Prop} {QS : Fl × Rho → Store → Prop} {E : Er → Store → Prop} {S : Store} {ρ : Rho}
theorem len0 {xs : List D} : decide ((xs.length : Int) = 0) = xs.isEmpty := by
  cases xs with
  | nil => rfl
  | cons x xs =>
    rw [decide_eq_false (by rw [List.length_cons]; omega)]
    rfl
theorem W_due {B m : Nat} {d : D} {size : Int} (h : Kn S B (m + 4) d) (hB : B < 1000) (hq : Q (faultD d size) S) : W (m__law_due [d, .int size] S) Q E := by
  unfold m__law_due
  cases ht : isTp d with
  | false =>
    simp_arith []
    rw [W_isTp h, ht]
    simp_arith []
    rw [fault_not ht] at hq
    exact hq
  | true =>
    obtain ⟨ds, rfl⟩ := tp_tup ht
    by_cases hl : ds.length = 3
    · match ds, hl with
      | [s, x, y], _ =>
      cases h with
      | tup h1 h2 =>
      have hx := h2 x (by simp)
      have hy := h2 y (by simp)
      have hs := h2 s (by simp)
      simp_arith []
      rw [W_isTp hx]
      cases hxt : isTp x with
      | false =>
        rw [fault_steps hxt] at hq
        simp_arith []
        exact hq
      | true =>
      obtain ⟨rs, rfl⟩ := tp_tup hxt
      simp_arith []
      rw [W_isTp hy]
      cases hyt : isTp y with
      | false =>
        rw [fault_answers hyt] at hq
        simp_arith []
        exact hq
      | true =>
      obtain ⟨as, rfl⟩ := tp_tup hyt
      simp_arith []
      rw [len0]
      have hq' : Q (if (rs.isEmpty || as.isEmpty) = true then .tup [.str "form"] else
        match rs.findIdx? (fun r => !rowOk rs.length size r) with
        | some i => .tup [.str "steps", .int i]
        | none => if (decide ((as.length : Int) = rs.length) && as.all (intD 0 99)) = true then (if intD 0 (rs.length - 1) s = true then .non else .tup [.str "start"]) else .tup [.str "answers"]) S := hq
      clear hq
      cases hre : rs.isEmpty with
      | true =>
        rw [hre] at hq'
        simp_arith []
        exact hq'
      | false =>
      simp_arith []
      rw [len0]
      cases hae : as.isEmpty with
      | true =>
        rw [hre, hae] at hq'
        simp_arith []
        exact hq'
      | false =>
      rw [hre, hae] at hq'
      have hq : Q (match rs.findIdx? (fun r => !rowOk rs.length size r) with
        | some i => .tup [.str "steps", .int i]
        | none => if (decide ((as.length : Int) = rs.length) && as.all (intD 0 99)) = true then (if intD 0 (rs.length - 1) s = true then .non else .tup [.str "start"]) else .tup [.str "answers"]) S := hq'
      clear hq'
      simp_arith []
      have hx' := hx
      have hy' := hy
      cases hx' with
      | tup k1 k2 =>
      cases hy' with
      | tup k3 k4 =>
      refine ⟨by omega, by omega, ?_⟩
      have lr : (rangeD 0 (Int.toNat (rs.length : Int))).length = rs.length := by rw [length_rangeD, Int.toNat_natCast]
      refine k_for (lst_R _ _) (by rw [lr]; unfold BIG; omega)
        (fun i ρ S' => S' = S ∧ (∀ j z, j < i → rs[j]? = some z → rowOk rs.length size z = true) ∧ ∃ a, ρ = [some (.tup [s, .tup rs, .tup as]), some (.int size), some (.int rs.length), a])
        ⟨rfl, fun j z hj => absurd hj (Nat.not_lt_zero j), _, rfl⟩ (fun i d ρ S' hi hI => ?_) (fun ρ S' hI => ?_)
      · obtain ⟨rfl, hg, a, rfl⟩ := hI
        have hil := (List.getElem?_eq_some_iff.mp hi).1
        rw [lr] at hil
        obtain ⟨_, rfl⟩ := rangeD_get hi
        have hz := List.getElem?_eq_getElem hil
        generalize rs[i] = r at hz
        have ez : atI rs (0 + (i : Int)) = some r := by rw [atI_of (by omega), show (0 + (i : Int)).toNat = i by omega]; exact hz
        have bad : rowOk rs.length size r = false → Q (.tup [.str "steps", .int (0 + (i : Int))]) S' := fun hb => by
          rw [find_some (p := fun r => !rowOk rs.length size r) hz (by rw [hb]; rfl) (fun j y hj hy => by rw [hg j y hj hy]; rfl)] at hq
          rw [Int.zero_add]
          exact hq
        simp_arith []
        rw [ez]
        simp_arith []
        refine W_law_ints (k2 r (List.mem_of_getElem? hz)) hB ?_
        have e1 : rowL (rs.length - 1) r = rowB rs.length r := rfl
        rw [e1]
        cases hr : rowB rs.length r with
        | false =>
          have := bad (by unfold rowOk; rw [hr]; rfl)
          simp_arith []
          exact this
        | true =>
        simp_arith []
        rw [ez]
        simp_arith []
        rw [W_lenK (k2 r (List.mem_of_getElem? hz)) (rowB_tp hr)]
        simp_arith []
        by_cases hs : lenD r = size
        · rw [decide_eq_true hs]
          simp_arith []
          refine ⟨trivial, fun j z hj hz' => ?_, _, rfl⟩
          by_cases hji : j = i
          · subst hji
            rw [hz] at hz'
            cases hz'
            unfold rowOk
            rw [hr, decide_eq_true hs]
            rfl
          · exact hg j z (by omega) hz'
        · have := bad (by unfold rowOk; rw [decide_eq_false hs, Bool.and_false])
          rw [decide_eq_false hs]
          simp_arith []
          exact this
      · obtain ⟨rfl, hg, a, rfl⟩ := hI
        rw [lr] at hg
        rw [find_none (p := fun r => !rowOk rs.length size r) (fun j y hj hy => by rw [hg j y hj hy]; rfl)] at hq
        dsimp only at hq
        simp_arith []
        by_cases hla : (as.length : Int) = rs.length
        · rw [decide_eq_true hla] at hq ⊢
          simp_arith []
          refine W_law_ints hy hB ?_
          have e1 : rowL 99 (.tup as) = as.all (intD 0 99) := rfl
          rw [e1]
          rw [Bool.true_and] at hq
          cases ha : as.all (intD 0 99) with
          | false =>
            rw [ha] at hq
            simp_arith []
            exact hq
          | true =>
            rw [ha] at hq
            simp_arith []
            refine W_law_int hs ?_
            cases hb : intD 0 (rs.length - 1) s with
            | true =>
              rw [hb] at hq
              simp_arith []
              exact hq
            | false =>
              rw [hb] at hq
              simp_arith []
              exact hq
        · rw [decide_eq_false hla] at hq ⊢
          simp_arith []
          exact hq
    · rw [fault_len hl] at hq
      simp_arith []
      rw [decide_eq_false (show ¬ ((ds.length : Int) = 3) by omega)]
      simp_arith []
      exact hq
end
end MM

/-! the law, by hand -/
namespace MM
open PySem L2 PyProof.Rows
local macro_rules | `(tactic| simp_arith [$ts,*]) => `(tactic| simp -implicitDefEqProofs only [W_ok, W_var, k_var, W_c, W_op, k_op1, k_op2, W_un, k_un, W_nil, W_cons, k_cons1, k_cons2, W_call, k_call, W_tup, k_tup, W_lst, k_lst, W_lstS, k_lstS, W_seq, k_seq_nx, k_seq_rt, k_seq_bk, k_seq_ct, W_expr, k_expr, W_ret, k_ret, W_retN, W_nx, W_bk, W_ct, W_if, k_if_t, k_if_f, W_ifE, k_ifE_t, k_ifE_f, W_b, k_b, W_andT, k_andT_t, k_andT_f, W_orT, k_orT_t, k_orT_f, W_notT, k_notT, W_yes, W_andV, k_andV_t, k_andV_f, W_orV, k_orV_t, k_orV_f, W_notV, k_notV, W_cmpC, k_cmp1, k_cmp2, k_cmp3_t, k_cmp3_f, W_asg, k_asg, k_asg2, W_gN, W_gsNil, W_gsCons, k_gs, W_gTp, W_gIx, k_ix1, W_for, W_lc, W_lcS, W_next, W_miA, k_it_tup, k_it_lst, k_it_frz, W_def, k_def_rt, k_def_nx, W_callK, k_CK1, k_CK2, perm, List.filterMap_cons, List.filterMap_nil, and_self, W_f2I, W_addI, W_int, W_2L, W_is, W_lenT, W_lenL, W_lenF, W_tupleT, W_tupleL, W_tupleF, k_body, k_loop_nx, k_loop_ct, k_loop_bk, k_loop_rt, k_lc1, k_lc2_t, k_lc2_f, List.map_cons, List.map_nil, List.length_cons, List.length_nil, List.reduceReplicate, Nat.reduceSub, Nat.reduceAdd, Int.reduceAdd, Int.reduceSub, Int.reduceMul, Int.reduceNeg, Int.reduceLT, Int.reduceLE, Int.reduceEq, Int.cast_ofNat_Int, Int.natCast_zero, Int.natCast_one, eq_self, decide_true, decide_false, Bool.and_true, Bool.true_and, Bool.false_and, Bool.and_false, Nat.zero_add, List.replicate_zero, List.replicate_succ, List.cons_append, List.nil_append, List.append_nil, List.getElem?_cons_zero, List.getElem?_cons_succ, List.set_cons_zero, List.set_cons_succ, wipeD, Bool.not_true, Bool.not_false, if_true, if_false, reduceIte, isNon, Bool.false_eq_true, k_el, W_E, k_en_tup, k_en_lst, isi_int_i, isi_int_b, isi_int_n, isi_int_s, isi_int_t, isi_int_l, isi_bool_i, isi_bool_b, isi_bool_n, isi_bool_s, isi_bool_t, isi_bool_l, isi_tuple_i, isi_tuple_b, isi_tuple_n, isi_tuple_s, isi_tuple_t, isi_tuple_l, isi_list_i, isi_list_b, isi_list_n, isi_list_s, isi_list_t, isi_list_l, W_eq2I, W_intB, k_R1_eq, k_R2_eq, W_R1q, W_ixDT, W_ixDL, W_ixDF, k_opt, atI_lit, W_gTpT, W_gTpL, W_noPart, W_part, k_part, W_sl, k_sl1, k_sl2, k_sl3T, k_sl3L, W_revT, W_revL, W_meth, k_meth2, W_prop, W_make, k_make, k_made, W_sFld, k_fldS1, W_app, W_bits, W_gSt, k_st1, W_gSl, k_gsl1, k_gsl2, W_rgT, W_rgL, W_rgS, W_rg1, k_rg1, W_miS, k_itS, W_E2, k_en2_tup, k_en2_lst, k_en2_frz, W_par, k_par, W_par3, k_par3, W_dct0, W_disp, W_pnil, W_pcons, k_ps1, k_ps2, k_ps3, W_dc, k_dc1, k_dc2_t, k_dc2_f, k_dc3, k_dc4, isi_str_i, isi_str_b, isi_str_n, isi_str_s, isi_str_t, isi_str_l, W_metL, k_metL, W_err, k_err, W_callC, W_ifC, W_ifEC, W_isiEn, W_try, W_raise, k_raise, W_catL, lsOf_lst, $ts,*])
local macro_rules | `(tactic| simp_arith) => `(tactic| simp_arith [])
section
set_option maxHeartbeats 1000000
variable {Q : D → Store → Prop} {QA : List D → Store → Prop} {QS : Fl × Rho → Store → Prop} {E : Er → Store → Prop} {S : Store} {ρ : Rho}
theorem W_r {r : Res D} {d : D} (h : r = .ok d S) : W r Q E = Q d S := by rw [h]; rfl
theorem W_x {r : Res D} {e : Er} (h : r = .exc e S) : W r Q E = E e S := by rw [h]; rfl
theorem all_intD {r : List Int} {n : Int} (h : ∀ v ∈ r, 0 ≤ v ∧ v ≤ n) : (r.map D.int).all (intD 0 n) = true := by
  rw [List.all_map, List.all_eq_true]
  intro v hv
  obtain ⟨a, b⟩ := h v hv
  show (decide ((0 : Int) ≤ v) && decide (v ≤ n)) = true
  rw [decide_eq_true a, decide_eq_true b]
  rfl
theorem fault_mach {wide s size : Int} {rows : List (List Int)} {ans : List Int} (M : Mach wide s rows ans) : faultD (machD s rows ans) size = if size = wide then .non else .tup [.str "steps", .int 0] := by
  have hpos : 0 < rows.length := by have := M.s0; have := M.s1; omega
  have al := M.al
  show faultC (.int s) (rows.map rowD) (ans.map .int) size = _
  unfold faultC
  have e1 : (rows.map rowD).isEmpty = false := by
    cases rows with
    | nil => exact absurd hpos (by decide)
    | cons _ _ => rfl
  have e2 : (ans.map D.int).isEmpty = false := by
    cases ans with
    | nil => rw [List.length_nil] at al; omega
    | cons _ _ => rfl
  rw [e1, e2]
  have hr : ∀ r ∈ rows, rowOk ((rows.map rowD).length : Nat) size (rowD r) = decide (wide = size) := fun r hr => by
    unfold rowOk
    have a : rowB ((rows.map rowD).length : Nat) (rowD r) = true := by
      show (r.map D.int).all (intD 0 _) = true
      refine all_intD fun v hv => ?_
      have := M.v r hr v hv
      rw [List.length_map]
      exact ⟨this.1, by omega⟩
    rw [a, Bool.true_and]
    show decide (((r.map D.int).length : Int) = size) = _
    rw [List.length_map, M.w r hr]
  rw [if_neg (by decide)]
  by_cases hs : size = wide
  · rw [if_pos hs, find_none (p := fun r => !rowOk ((rows.map rowD).length : Nat) size r) (fun j y hj hy => by
      obtain ⟨r, hr', rfl⟩ := List.mem_map.mp (List.mem_of_getElem? hy)
      rw [hr r hr', decide_eq_true hs.symm]
      rfl)]
    dsimp only
    have ha : (ans.map D.int).all (intD 0 99) = true := all_intD M.a
    rw [ha, List.length_map, List.length_map, decide_eq_true (by omega), Bool.and_true, if_pos rfl]
    have : intD 0 ((rows.length : Int) - 1) (.int s) = true := by
      show (decide ((0 : Int) ≤ s) && decide (s ≤ _)) = true
      rw [decide_eq_true M.s0, decide_eq_true (by have := M.s1; omega)]
      rfl
    rw [if_pos this]
  · rw [if_neg hs]
    cases rows with
    | nil => exact absurd hpos (by decide)
    | cons r rs =>
      rw [find_some (p := fun r' => !rowOk (((r :: rs).map rowD).length : Nat) size r') (i := 0) (x := rowD r) rfl (by rw [hr r List.mem_cons_self, decide_eq_false (fun h => hs h.symm)]; rfl) (fun j y hj => absurd hj (Nat.not_lt_zero j))]
      rfl
theorem kn_row {B m : Nat} {r : List Int} (h : r.length ≤ B) : Kn S B (m + 1) (rowD r) := .tup (by rw [List.length_map]; exact h) fun x hx => by
  obtain ⟨v, _, rfl⟩ := List.mem_map.mp hx
  exact .int
theorem kn_mach {wide s : Int} {rows : List (List Int)} {ans : List Int} {B m : Nat} (M : Mach wide s rows ans) (h1 : wide ≤ B) (h2 : rows.length ≤ B) (h3 : 3 ≤ B) : Kn S B (m + 3) (machD s rows ans) := by
  have al := M.al
  refine .tup h3 fun x hx => ?_
  rcases List.mem_cons.mp hx with rfl | hx
  · exact .int
  rcases List.mem_cons.mp hx with rfl | hx
  · refine .tup (by rw [List.length_map]; exact h2) fun y hy => ?_
    obtain ⟨r, hr, rfl⟩ := List.mem_map.mp hy
    exact kn_row (by have := M.w r hr; omega)
  · rw [List.mem_singleton.mp hx]
    exact .tup (by rw [List.length_map]; omega) fun y hy => by
      obtain ⟨v, _, rfl⟩ := List.mem_map.mp hy
      exact .int
/-! ### sizes -/
def Bad (d : D) : Prop := ∀ s : Int, 1 ≤ s → s ≤ 4 → isNon (faultD d s) = false
theorem W_size_none {B m : Nat} {d : D} (h : Kn S B (m + 4) d) (hB : B < 1000) (hb : Bad d) (hq : Q .non S) : W (m_size_of [d] S) Q E := by
  unfold m_size_of
  simp_arith []
  refine W_R2 ?_
  simp_arith []
  refine ⟨by decide, by decide, by decide, by decide, ?_⟩
  have l4 : (rangeD 1 (Int.toNat (4 + 1 - 1))).length = 4 := by rw [length_rangeD]; rfl
  refine k_nxt (lst_R _ _) (by rw [length_rangeD]; decide) (fun i S' => S' = S) rfl (fun i d' S' hi hI => ?_) fun S' hI => ?_
  · subst hI
    have hlt := (List.getElem?_eq_some_iff.mp hi).1
    rw [length_rangeD] at hlt
    have h4 : ((4 + 1 - 1 : Int).toNat : Int) = 4 := rfl
    obtain ⟨_, rfl⟩ := rangeD_get hi
    simp_arith []
    refine W_fault h hB ?_
    simp_arith []
    change kLc2 _ _ _ _ (isNon _) _
    rw [hb _ (by omega) (by omega)]
    rfl
  · subst hI
    exact hq
theorem W_size_mach {wide s : Int} {rows : List (List Int)} {ans : List Int} (M : Mach wide s rows ans) (h1 : 1 ≤ wide) (h2 : wide ≤ 4) (h3 : rows.length ≤ 100) (hq : Q (.int wide) S) : W (m_size_of [machD s rows ans] S) Q E := by
  have hk : Kn S 100 (1 + 3) (machD s rows ans) := kn_mach M (by omega) h3 (by decide)
  have hk : Kn S 100 (0 + 4) (machD s rows ans) := hk
  unfold m_size_of
  simp_arith []
  refine W_R2 ?_
  simp_arith []
  refine ⟨by decide, by decide, by decide, by decide, ?_⟩
  refine k_nxt (lst_R _ _) (by rw [length_rangeD]; decide) (fun i S' => S' = S ∧ (i : Int) + 1 ≤ wide) ⟨rfl, by omega⟩ (fun i d S' hi hI => ?_) fun S' hI => ?_
  · obtain ⟨rfl, hI⟩ := hI
    obtain ⟨hlt, rfl⟩ := rangeD_get hi
    simp_arith []
    refine W_fault hk (by decide) ?_
    rw [fault_mach M]
    by_cases he : 1 + (i : Int) = wide
    · rw [if_pos he]
      simp_arith []
      rw [he]
      exact hq
    · rw [if_neg he]
      simp_arith []
      exact ⟨trivial, by omega⟩
  · obtain ⟨rfl, hI⟩ := hI
    rw [length_rangeD] at hI
    have : ((4 + 1 - 1 : Int).toNat : Int) = 4 := rfl
    omega
theorem req_bad {B m : Nat} {d : D} (h : Kn S B (m + 4) d) (hB : B < 1000) (hb : Bad d) (he : E ⟨"InvalidMachine", "thing", [d]⟩ S) : W (m_require_machine [d] S) Q E := by
  unfold m_require_machine
  simp_arith []
  refine W_size_none h hB hb ?_
  simp_arith []
  exact he
theorem req_ok {wide s : Int} {rows : List (List Int)} {ans : List Int} (M : Mach wide s rows ans) (h1 : 1 ≤ wide) (h2 : wide ≤ 4) (h3 : rows.length ≤ 100) (hq : Q .non S) : W (m_require_machine [machD s rows ans] S) Q E := by
  unfold m_require_machine
  simp_arith []
  refine W_size_mach M h1 h2 h3 ?_
  simp_arith []
  exact hq
/-! ### what is asked -/
def wayF (w : Nat) (one two : D) (S : Store) : Res D := match w with
  | 0 => m_answer [one, two] S
  | 1 => m_least_machine [one] S
  | 2 => m_machines_parted [one, two] S
  | 3 => m_mapped [one, two] S
  | _ => m_turned [one] S
theorem asked_mach {w : Nat} {one two y : D} (hw : w ≤ 4) (hx : ∀ (Q : D → Store → Prop) (E : Er → Store → Prop), E ⟨"InvalidMachine", "thing", [y]⟩ S → W (wayF w one two S) Q E) (hq : Q (.lst [.str "machine", y]) S) : W (m__law_asked [.int w, one, two] S) Q E := by
  have : w = 0 ∨ w = 1 ∨ w = 2 ∨ w = 3 ∨ w = 4 := by omega
  unfold m__law_asked
  rcases this with rfl | rfl | rfl | rfl | rfl <;>
    (simp_arith []
     refine hx _ _ ?_
     rw [k_try (by decide +kernel)]
     simp_arith []
     rw [W_isiE (b := true) (by decide +kernel)]
     simp_arith []
     rw [W_fldE (by decide +kernel)]
     simp_arith []
     exact hq)
theorem asked_row {one two y : D} (hx : ∀ (Q : D → Store → Prop) (E : Er → Store → Prop), E ⟨"InvalidRow", "thing", [y]⟩ S → W (m_answer [one, two] S) Q E) (hq : Q (.lst [.str "row", y]) S) : W (m__law_asked [.int 0, one, two] S) Q E := by
  unfold m__law_asked
  simp_arith []
  refine hx _ _ ?_
  rw [k_try (by decide +kernel)]
  simp_arith []
  rw [W_isiE (b := false) (by decide +kernel)]
  simp_arith []
  rw [W_isiE (b := true) (by decide +kernel)]
  simp_arith []
  rw [W_fldE (by decide +kernel)]
  simp_arith []
  exact hq
theorem asked_map {one two y : D} (hx : ∀ (Q : D → Store → Prop) (E : Er → Store → Prop), E ⟨"InvalidMap", "thing", [y]⟩ S → W (m_mapped [one, two] S) Q E) (hq : Q (.lst [.str "map", y]) S) : W (m__law_asked [.int 3, one, two] S) Q E := by
  unfold m__law_asked
  simp_arith []
  refine hx _ _ ?_
  rw [k_try (by decide +kernel)]
  simp_arith []
  rw [W_isiE (b := false) (by decide +kernel)]
  simp_arith []
  rw [W_isiE (b := false) (by decide +kernel)]
  simp_arith []
  rw [W_isiE (b := true) (by decide +kernel)]
  simp_arith []
  rw [W_fldE (by decide +kernel)]
  simp_arith []
  exact hq
theorem asked_size {one two y : D} (hx : ∀ (Q : D → Store → Prop) (E : Er → Store → Prop), E ⟨"InvalidSize", "size", [y]⟩ S → W (m_check_machine [one, two] S) Q E) (hq : Q (.lst [.str "size", y]) S) : W (m__law_asked [.int 5, one, two] S) Q E := by
  unfold m__law_asked
  simp_arith []
  refine hx _ _ ?_
  rw [k_try (by decide +kernel)]
  simp_arith []
  rw [W_isiE (b := false) (by decide +kernel)]
  simp_arith []
  rw [W_isiE (b := false) (by decide +kernel)]
  simp_arith []
  rw [W_isiE (b := false) (by decide +kernel)]
  simp_arith []
  rw [W_isiE (b := true) (by decide +kernel)]
  simp_arith []
  rw [W_fldE (by decide +kernel)]
  simp_arith []
  exact hq
end
end MM

/-! the law, by hand -/
namespace MM
open PySem L2 PyProof.Rows
local macro_rules | `(tactic| simp_arith [$ts,*]) => `(tactic| simp -implicitDefEqProofs only [W_ok, W_var, k_var, W_c, W_op, k_op1, k_op2, W_un, k_un, W_nil, W_cons, k_cons1, k_cons2, W_call, k_call, W_tup, k_tup, W_lst, k_lst, W_lstS, k_lstS, W_seq, k_seq_nx, k_seq_rt, k_seq_bk, k_seq_ct, W_expr, k_expr, W_ret, k_ret, W_retN, W_nx, W_bk, W_ct, W_if, k_if_t, k_if_f, W_ifE, k_ifE_t, k_ifE_f, W_b, k_b, W_andT, k_andT_t, k_andT_f, W_orT, k_orT_t, k_orT_f, W_notT, k_notT, W_yes, W_andV, k_andV_t, k_andV_f, W_orV, k_orV_t, k_orV_f, W_notV, k_notV, W_cmpC, k_cmp1, k_cmp2, k_cmp3_t, k_cmp3_f, W_asg, k_asg, k_asg2, W_gN, W_gsNil, W_gsCons, k_gs, W_gTp, W_gIx, k_ix1, W_for, W_lc, W_lcS, W_next, W_miA, k_it_tup, k_it_lst, k_it_frz, W_def, k_def_rt, k_def_nx, W_callK, k_CK1, k_CK2, perm, List.filterMap_cons, List.filterMap_nil, and_self, W_f2I, W_addI, W_int, W_2L, W_is, W_lenT, W_lenL, W_lenF, W_tupleT, W_tupleL, W_tupleF, k_body, k_loop_nx, k_loop_ct, k_loop_bk, k_loop_rt, k_lc1, k_lc2_t, k_lc2_f, List.map_cons, List.map_nil, List.length_cons, List.length_nil, List.reduceReplicate, Nat.reduceSub, Nat.reduceAdd, Int.reduceAdd, Int.reduceSub, Int.reduceMul, Int.reduceNeg, Int.reduceLT, Int.reduceLE, Int.reduceEq, Int.cast_ofNat_Int, Int.natCast_zero, Int.natCast_one, eq_self, decide_true, decide_false, Bool.and_true, Bool.true_and, Bool.false_and, Bool.and_false, Nat.zero_add, List.replicate_zero, List.replicate_succ, List.cons_append, List.nil_append, List.append_nil, List.getElem?_cons_zero, List.getElem?_cons_succ, List.set_cons_zero, List.set_cons_succ, wipeD, Bool.not_true, Bool.not_false, if_true, if_false, reduceIte, isNon, Bool.false_eq_true, k_el, W_E, k_en_tup, k_en_lst, isi_int_i, isi_int_b, isi_int_n, isi_int_s, isi_int_t, isi_int_l, isi_bool_i, isi_bool_b, isi_bool_n, isi_bool_s, isi_bool_t, isi_bool_l, isi_tuple_i, isi_tuple_b, isi_tuple_n, isi_tuple_s, isi_tuple_t, isi_tuple_l, isi_list_i, isi_list_b, isi_list_n, isi_list_s, isi_list_t, isi_list_l, W_eq2I, W_intB, k_R1_eq, k_R2_eq, W_R1q, W_ixDT, W_ixDL, W_ixDF, k_opt, atI_lit, W_gTpT, W_gTpL, W_noPart, W_part, k_part, W_sl, k_sl1, k_sl2, k_sl3T, k_sl3L, W_revT, W_revL, W_meth, k_meth2, W_prop, W_make, k_make, k_made, W_sFld, k_fldS1, W_app, W_bits, W_gSt, k_st1, W_gSl, k_gsl1, k_gsl2, W_rgT, W_rgL, W_rgS, W_rg1, k_rg1, W_miS, k_itS, W_E2, k_en2_tup, k_en2_lst, k_en2_frz, W_par, k_par, W_par3, k_par3, W_dct0, W_disp, W_pnil, W_pcons, k_ps1, k_ps2, k_ps3, W_dc, k_dc1, k_dc2_t, k_dc2_f, k_dc3, k_dc4, isi_str_i, isi_str_b, isi_str_n, isi_str_s, isi_str_t, isi_str_l, W_metL, k_metL, W_err, k_err, W_callC, W_ifC, W_ifEC, W_isiEn, W_try, W_raise, k_raise, W_catL, lsOf_lst, $ts,*])
local macro_rules | `(tactic| simp_arith) => `(tactic| simp_arith [])
section
set_option maxHeartbeats 1000000
variable {Q : D → Store → Prop} {QA : List D → Store → Prop} {QS : Fl × Rho → Store → Prop} {E : Er → Store → Prop} {S : Store} {ρ : Rho}
theorem atI_mem {ds : List D} {r : Int} (h0 : 0 ≤ r) (h1 : r < ds.length) : ∃ d, d ∈ ds ∧ atI ds r = some d := by
  have e := atI_map (f := fun d : D => d) (xs := ds) (z := .non) h0 h1
  rw [List.map_id'] at e
  refine ⟨_, ?_, e⟩
  rw [List.getD_eq_getElem?_getD, List.getElem?_eq_getElem (by omega)]
  exact List.getElem_mem _
theorem calm_mono : ∀ {n m : Nat} {x : D}, n ≤ m → calmD n x = true → calmD m x = true
  | n, m, .non, _, _ => by unfold calmD; rfl
  | n, m, .bl _, _, _ => by unfold calmD; rfl
  | n, m, .int _, _, _ => by unfold calmD; rfl
  | n, m, .str _, _, _ => by unfold calmD; rfl
  | n, m, .ref _, _, _ => by unfold calmD; rfl
  | 0, m, .tup ds, _, h => by unfold calmD at h; cases h
  | 0, m, .lst ds, _, h => by unfold calmD at h; cases h
  | 0, m, .frz ds, _, h => by unfold calmD at h; cases h
  | n, m, .err _ _ _, _, h => by unfold calmD at h; cases h
  | n + 1, 0, .tup ds, h, _ => absurd h (by omega)
  | n + 1, 0, .lst ds, h, _ => absurd h (by omega)
  | n + 1, 0, .frz ds, h, _ => absurd h (by omega)
  | n + 1, m + 1, .tup ds, h, c => by
    unfold calmD at c ⊢
    exact calmL_of fun d hd => calm_mono (by omega) (calmL_mem c hd)
  | n + 1, m + 1, .lst ds, h, c => by
    unfold calmD at c ⊢
    exact calmL_of fun d hd => calm_mono (by omega) (calmL_mem c hd)
  | n + 1, m + 1, .frz ds, h, c => by
    unfold calmD at c ⊢
    exact calmL_of fun d hd => calm_mono (by omega) (calmL_mem c hd)
theorem tw_same {neg : Bool} {ds : List D} (h : ∀ d ∈ ds, calmD 50 d = true) : W (fTw neg (.lst ds) (.lst ds) S) Q E = Q (.bl (!neg)) S := W_tw (by
  show all2 (twD S 60) ds ds = true
  exact all2_refl fun x hx => twD_refl S 59 x (calm_mono (by omega) (h x hx)))
theorem tw2 {neg : Bool} {z : Str} {x : D} (h : calmD 50 x = true) : W (fTw neg (.lst [.str z, x]) (.lst [.str z, x]) S) Q E = Q (.bl (!neg)) S := tw_same fun d hd => by
  rcases List.mem_cons.mp hd with rfl | hd
  · unfold calmD; rfl
  · rw [List.mem_singleton.mp hd]
    exact h
theorem calm2 {z : Str} {x : D} (h : calmD 40 x = true) : calmD 50 (.lst [.str z, x]) = true := by
  unfold calmD
  refine calmL_of fun d hd => ?_
  rcases List.mem_cons.mp hd with rfl | hd
  · unfold calmD; rfl
  · rw [List.mem_singleton.mp hd]
    exact calm_mono (by decide) h
theorem rep_one {d : D} {n : Nat} : (List.replicate n [d]).flatten = List.replicate n d := by
  induction n with
  | zero => rfl
  | succ n ih => rw [List.replicate_succ, List.flatten_cons, ih, List.replicate_succ]; rfl
theorem W_machine {n : Nat} {S0 : Store} {b wide most : Int} (h : PW n S0 b S) (hb : b < 2 ^ 40) (w0 : 0 ≤ wide) (w1 : wide ≤ 100) (m0 : 0 < most) (m1 : most ≤ 1000) :
    W (m__law_machine [.ref n, .int wide, .int most] S) (fun d S' => ∃ s rows ans, d = machD s rows ans ∧ Mach wide s rows ans ∧ (rows.length : Int) ≤ most ∧ PW n S0 (b + (3 + most * (wide + 1))) S') E := by
  unfold m__law_machine
  simp_arith []
  refine (W_drawP h (by omega) m0 (by omega)).mono fun d S1 h1 => ?_
  obtain ⟨r, rfl, r0, r1, h1⟩ := h1
  simp_arith []
  refine ⟨by omega, by omega, ?_⟩
  generalize hmany : (1 + r) = many
  have e1 : many * wide ≤ most * wide := Int.mul_le_mul_of_nonneg_right (by omega) w0
  have e0 : 0 ≤ many * wide := Int.mul_nonneg (by omega) w0
  have e2 : most * wide ≤ 1000 * 100 := Int.mul_le_mul m1 w1 w0 (by omega)
  have e3 : most * (wide + 1) = most * wide + most := by rw [Int.mul_add, Int.mul_one]
  have lm : (((rangeD 0 many.toNat).length : Nat) : Int) = many := by rw [length_rangeD]; omega
  refine k_draws (lst_R _ _) (by rw [length_rangeD]; unfold sizeLine; omega) (fun y => ∃ r : List Int, y = rowD r ∧ (r.length : Int) = wide ∧ ∀ v ∈ r, 0 ≤ v ∧ v < many) (c := wide) w0 (fun d S2 b' h2 hb1 hb2 => ?_) h1 (fun ys S2 hl hy h2 => ?_)
  · rw [lm] at hb2
    simp_arith []
    refine ⟨by omega, by omega, ?_⟩
    refine k_draws (lst_R _ _) (by rw [length_rangeD]; unfold sizeLine; omega) (fun y => ∃ r, y = .int r ∧ 0 ≤ r ∧ r < many) (c := 1) (by decide) (fun d S3 b'' h3 hb3 hb4 => ?_) h2 (fun zs S3 hl hz h3 => ?_)
    · rw [length_rangeD] at hb4
      simp_arith []
      refine (W_drawP h3 (by omega) (by omega) (by omega)).mono fun d S4 h4 => ?_
      obtain ⟨q, rfl, q0, q1, h4⟩ := h4
      exact ⟨⟨q, rfl, q0, q1⟩, h4⟩
    · obtain ⟨qs, rfl, hq⟩ := ints_of hz
      rw [length_rangeD] at hl h3
      rw [List.length_map] at hl
      simp_arith []
      exact ⟨⟨qs, rfl, by omega, hq⟩, h3.mono (by omega)⟩
  · obtain ⟨rows, rfl, hr⟩ := rows_of (P := fun r => (r.length : Int) = wide ∧ ∀ v ∈ r, 0 ≤ v ∧ v < many) hy
    rw [lm] at h2
    rw [length_rangeD, List.length_map] at hl
    simp_arith []
    refine (W_drawP h2 (by omega) (by decide) (by decide)).mono fun d S3 h3 => ?_
    obtain ⟨q, rfl, q0, q1, h3⟩ := h3
    have hf : ∃ few : Int, atI [D.int 2, .int 3, .int 1, .int 100] q = some (.int few) ∧ 0 < few ∧ few ≤ 100 := by
      have : q = 0 ∨ q = 1 ∨ q = 2 ∨ q = 3 := by omega
      rcases this with rfl | rfl | rfl | rfl
      · exact ⟨2, rfl, by decide, by decide⟩
      · exact ⟨3, rfl, by decide, by decide⟩
      · exact ⟨1, rfl, by decide, by decide⟩
      · exact ⟨100, rfl, by decide, by decide⟩
    obtain ⟨few, hf, f0, f1⟩ := hf
    simp_arith []
    rw [hf]
    simp_arith []
    refine (W_drawP h3 (by omega) (by omega) (by omega)).mono fun d S4 h4 => ?_
    obtain ⟨s, rfl, s0, s1, h4⟩ := h4
    simp_arith []
    refine ⟨by omega, by omega, ?_⟩
    refine k_draws (lst_R _ _) (by rw [length_rangeD]; unfold sizeLine; omega) (fun y => ∃ r, y = .int r ∧ 0 ≤ r ∧ r < few) (c := 1) (by decide) (fun d S5 b'' h5 hb3 hb4 => ?_) h4 (fun zs S5 hl2 hz h5 => ?_)
    · rw [length_rangeD] at hb4
      simp_arith []
      refine (W_drawP h5 (by omega) (by omega) (by omega)).mono fun d S6 h6 => ?_
      obtain ⟨q, rfl, q0, q1, h6⟩ := h6
      exact ⟨⟨q, rfl, q0, q1⟩, h6⟩
    · obtain ⟨qs, rfl, hq⟩ := ints_of hz
      rw [length_rangeD] at hl2 h5
      rw [List.length_map] at hl2
      simp_arith []
      refine ⟨s, rows, qs, rfl, ⟨fun r hr' => (hr r hr').1, fun r hr' v hv => ?_, s0, by omega, by omega, fun a ha => ?_⟩, by omega, h5.mono (by omega)⟩
      · have := (hr r hr').2 v hv
        omega
      · have := hq a ha
        omega

theorem kn_calm {B n : Nat} {d : D} (h : Kn S B n d) : calmD n d = true := by
  induction h with
  | non => unfold calmD; rfl
  | bl => unfold calmD; rfl
  | int => unfold calmD; rfl
  | str => unfold calmD; rfl
  | ref _ => unfold calmD; rfl
  | tup h1 h2 ih => unfold calmD; exact calmL_of ih
  | lst h1 h2 ih => unfold calmD; exact calmL_of ih
theorem W_neg1 : W (fNeg (.int 1) S) Q E = Q (.int (-1)) S := rfl
theorem W_mulT {x : D} {k : Int} (h1 : 2 ≤ k) (h2 : k ≤ 1000) : W (fMul (.tup [x]) (.int k) S) Q E = Q (.tup (List.replicate k.toNat x)) S := by
  show W (if [x] ≠ [] ∧ 2 ≤ k ∧ k ≤ 1000 ∧ [x].length ≤ 1000 then .ok (.tup (List.replicate k.toNat [x]).flatten) S else .bad) Q E = _
  rw [if_pos ⟨by simp, by omega, by omega, by simp⟩, rep_one]
  rfl
def oddR (s : Int) : List D := [.non, .int 0, .lst [.int 0], .tup [.int s], .tup [.int 0, .int (-1)], .tup [.bl true], .str "0", .tup [.int 0, .non], .tup [.tup [.int 0]]]
theorem row_bad {s : Int} (h1 : 1 ≤ s) (h2 : s ≤ 4) : ∀ v ∈ oddR s, rowB s v = false := by
  have : s = 1 ∨ s = 2 ∨ s = 3 ∨ s = 4 := by omega
  rcases this with rfl | rfl | rfl | rfl <;> unfold oddR <;>
    repeat (first | refine List.forall_mem_cons.mpr ⟨rfl, ?_⟩ | exact fun _ z => (List.not_mem_nil z).elim)
theorem oddR_kn {s : Int} : ∀ v ∈ oddR s, Kn S 100 2 v := by
  unfold oddR
  refine List.forall_mem_cons.mpr ⟨.non, ?_⟩
  refine List.forall_mem_cons.mpr ⟨.int, ?_⟩
  refine List.forall_mem_cons.mpr ⟨.lst (by simp) (by intro x hx; rw [List.mem_singleton.mp hx]; exact .int), ?_⟩
  refine List.forall_mem_cons.mpr ⟨.tup (by simp) (by intro x hx; rw [List.mem_singleton.mp hx]; exact .int), ?_⟩
  refine List.forall_mem_cons.mpr ⟨.tup (by simp) (by intro x hx; rcases List.mem_cons.mp hx with rfl | hx; exact .int; rw [List.mem_singleton.mp hx]; exact .int), ?_⟩
  refine List.forall_mem_cons.mpr ⟨.tup (by simp) (by intro x hx; rw [List.mem_singleton.mp hx]; exact .bl), ?_⟩
  refine List.forall_mem_cons.mpr ⟨.str, ?_⟩
  refine List.forall_mem_cons.mpr ⟨.tup (by simp) (by intro x hx; rcases List.mem_cons.mp hx with rfl | hx; exact .int; rw [List.mem_singleton.mp hx]; exact .non), ?_⟩
  refine List.forall_mem_cons.mpr ⟨.tup (by simp) (by intro x hx; rw [List.mem_singleton.mp hx]; exact .tup (by simp) (by intro x hx; rw [List.mem_singleton.mp hx]; exact .int)), ?_⟩
  exact fun _ z => (List.not_mem_nil z).elim
def oddS : List D := [.non, .int 0, .int 5, .int (-1), .bl true, .str "2", .tup [.int 2], .lst [.int 2]]
theorem size_exc : ∀ x ∈ oddS, ∀ S, m_require_size [x] S = .exc ⟨"InvalidSize", "size", [x]⟩ S := by
  unfold oddS
  repeat (first | refine List.forall_mem_cons.mpr ⟨fun S => rfl, ?_⟩ | exact fun _ z => (List.not_mem_nil z).elim)
theorem oddS_calm : ∀ x ∈ oddS, calmD 2 x = true := by
  unfold oddS
  repeat (first | refine List.forall_mem_cons.mpr ⟨rfl, ?_⟩ | exact fun _ z => (List.not_mem_nil z).elim)
section
variable {wide s : Int} {rows : List (List Int)} {ans : List Int} {bad : D}
/-- every door refuses what is no machine -/
theorem way_bad {w : Nat} {two : D} (hw : w ≤ 4) (h : Kn S 100 4 bad) (hb : Bad bad) : ∀ (Q : D → Store → Prop) (E : Er → Store → Prop), E ⟨"InvalidMachine", "thing", [bad]⟩ S → W (wayF w bad two S) Q E := fun Q E he => by
  have h : Kn S 100 (0 + 4) bad := h
  have : w = 0 ∨ w = 1 ∨ w = 2 ∨ w = 3 ∨ w = 4 := by omega
  rcases this with rfl | rfl | rfl | rfl | rfl
  · show W (m_answer [bad, two] S) Q E
    unfold m_answer
    simp_arith []
    exact req_bad h (by decide) hb he
  · show W (m_least_machine [bad] S) Q E
    unfold m_least_machine
    simp_arith []
    exact req_bad h (by decide) hb he
  · show W (m_machines_parted [bad, two] S) Q E
    unfold m_machines_parted
    simp_arith []
    exact req_bad h (by decide) hb he
  · show W (m_mapped [bad, two] S) Q E
    unfold m_mapped
    simp_arith []
    exact req_bad h (by decide) hb he
  · show W (m_turned [bad] S) Q E
    unfold m_turned
    simp_arith []
    unfold m_least_machine
    simp_arith []
    exact req_bad h (by decide) hb he
theorem ans_bad {w : Nat} {two : D} (hw : w ≤ 4) (h : Kn S 100 4 bad) (hb : Bad bad) (hq : Q (.lst [.str "machine", bad]) S) : W (m__law_asked [.int w, bad, two] S) Q E := asked_mach hw (way_bad hw h hb) hq
theorem ans_row {v : D} (M : Mach wide s rows ans) (h1 : 1 ≤ wide) (h2 : wide ≤ 4) (h3 : rows.length ≤ 100) (hk : Kn S 100 2 v) (hv : rowB wide v = false) (hq : Q (.lst [.str "row", v]) S) : W (m__law_asked [.int 0, machD s rows ans, v] S) Q E := asked_row (fun Q E he => by
  unfold m_answer
  simp_arith []
  refine req_ok M h1 h2 h3 ?_
  simp_arith []
  refine W_size_mach M h1 h2 h3 ?_
  simp_arith []
  have hk : Kn S 100 (1 + 1) v := hk
  refine W_isrow hk (by decide) ?_
  rw [hv]
  simp_arith []
  exact he) hq
theorem ans_map {v : D} (M : Mach wide s rows ans) (h1 : 1 ≤ wide) (h2 : wide ≤ 4) (h3 : rows.length ≤ 100) (hk : Kn S 100 2 v) (hv : rowB wide v = false ∨ ∃ xs, v = .tup xs ∧ (xs.length = 0 ∨ 5 ≤ xs.length)) (hq : Q (.lst [.str "map", v]) S) : W (m__law_asked [.int 3, machD s rows ans, v] S) Q E := asked_map (fun Q E he => by
  unfold m_mapped
  simp_arith []
  refine req_ok M h1 h2 h3 ?_
  simp_arith []
  refine W_size_mach M h1 h2 h3 ?_
  simp_arith []
  have hk : Kn S 100 (1 + 1) v := hk
  refine W_isrow hk (by decide) ?_
  rcases hv with hv | ⟨xs, rfl, hl⟩
  · rw [hv]
    simp_arith []
    exact he
  · cases hr : rowB wide (.tup xs) with
    | false =>
      simp_arith []
      exact he
    | true =>
      simp_arith []
      rcases hl with hl | hl
      · rw [decide_eq_false (show ¬ ((1 : Int) ≤ xs.length) by omega)]
        simp_arith []
        exact he
      · rw [decide_eq_true (show ((1 : Int) ≤ xs.length) by omega)]
        simp_arith []
        rw [decide_eq_false (show ¬ ((xs.length : Int) ≤ 4) by omega)]
        simp_arith []
        exact he) hq
theorem ans_parted {d z : D} (M : Mach wide s rows ans) (h1 : 1 ≤ wide) (h2 : wide ≤ 4) (h3 : rows.length ≤ 100) (hz : ∀ {Q : D → Store → Prop} {E : Er → Store → Prop}, Q z S → W (m_size_of [d] S) Q E) (hne : ∀ {Q : D → Store → Prop} {E : Er → Store → Prop}, Q (.bl true) S → W (fEq2 true z (.int wide) S) Q E) (hq : Q (.lst [.str "machine", d]) S) : W (m__law_asked [.int 2, machD s rows ans, d] S) Q E := asked_mach (w := 2) (by decide) (fun Q E he => by
  show W (m_machines_parted [machD s rows ans, d] S) Q E
  unfold m_machines_parted
  simp_arith []
  refine req_ok M h1 h2 h3 ?_
  simp_arith []
  refine hz ?_
  simp_arith []
  refine W_size_mach M h1 h2 h3 ?_
  simp_arith []
  refine hne ?_
  simp_arith []
  exact he) hq
theorem ans_size {d v : D} (hv : v ∈ oddS) (hq : Q (.lst [.str "size", v]) S) : W (m__law_asked [.int 5, d, v] S) Q E := asked_size (fun Q E he => by
  unfold m_check_machine
  simp_arith []
  rw [W_x (size_exc v hv S)]
  exact he) hq
end
end
end MM

/-! the law, by hand -/
namespace MM
open PySem L2 PyProof.Rows
local macro_rules | `(tactic| simp_arith [$ts,*]) => `(tactic| simp -implicitDefEqProofs only [W_ok, W_var, k_var, W_c, W_op, k_op1, k_op2, W_un, k_un, W_nil, W_cons, k_cons1, k_cons2, W_call, k_call, W_tup, k_tup, W_lst, k_lst, W_lstS, k_lstS, W_seq, k_seq_nx, k_seq_rt, k_seq_bk, k_seq_ct, W_expr, k_expr, W_ret, k_ret, W_retN, W_nx, W_bk, W_ct, W_if, k_if_t, k_if_f, W_ifE, k_ifE_t, k_ifE_f, W_b, k_b, W_andT, k_andT_t, k_andT_f, W_orT, k_orT_t, k_orT_f, W_notT, k_notT, W_yes, W_andV, k_andV_t, k_andV_f, W_orV, k_orV_t, k_orV_f, W_notV, k_notV, W_cmpC, k_cmp1, k_cmp2, k_cmp3_t, k_cmp3_f, W_asg, k_asg, k_asg2, W_gN, W_gsNil, W_gsCons, k_gs, W_gTp, W_gIx, k_ix1, W_for, W_lc, W_lcS, W_next, W_miA, k_it_tup, k_it_lst, k_it_frz, W_def, k_def_rt, k_def_nx, W_callK, k_CK1, k_CK2, perm, List.filterMap_cons, List.filterMap_nil, and_self, W_f2I, W_addI, W_int, W_2L, W_is, W_lenT, W_lenL, W_lenF, W_tupleT, W_tupleL, W_tupleF, k_body, k_loop_nx, k_loop_ct, k_loop_bk, k_loop_rt, k_lc1, k_lc2_t, k_lc2_f, List.map_cons, List.map_nil, List.length_cons, List.length_nil, List.reduceReplicate, Nat.reduceSub, Nat.reduceAdd, Int.reduceAdd, Int.reduceSub, Int.reduceMul, Int.reduceNeg, Int.reduceLT, Int.reduceLE, Int.reduceEq, Int.cast_ofNat_Int, Int.natCast_zero, Int.natCast_one, eq_self, decide_true, decide_false, Bool.and_true, Bool.true_and, Bool.false_and, Bool.and_false, Nat.zero_add, List.replicate_zero, List.replicate_succ, List.cons_append, List.nil_append, List.append_nil, List.getElem?_cons_zero, List.getElem?_cons_succ, List.set_cons_zero, List.set_cons_succ, wipeD, Bool.not_true, Bool.not_false, if_true, if_false, reduceIte, isNon, Bool.false_eq_true, k_el, W_E, k_en_tup, k_en_lst, isi_int_i, isi_int_b, isi_int_n, isi_int_s, isi_int_t, isi_int_l, isi_bool_i, isi_bool_b, isi_bool_n, isi_bool_s, isi_bool_t, isi_bool_l, isi_tuple_i, isi_tuple_b, isi_tuple_n, isi_tuple_s, isi_tuple_t, isi_tuple_l, isi_list_i, isi_list_b, isi_list_n, isi_list_s, isi_list_t, isi_list_l, W_eq2I, W_intB, k_R1_eq, k_R2_eq, W_R1q, W_ixDT, W_ixDL, W_ixDF, k_opt, atI_lit, W_gTpT, W_gTpL, W_noPart, W_part, k_part, W_sl, k_sl1, k_sl2, k_sl3T, k_sl3L, W_revT, W_revL, W_meth, k_meth2, W_prop, W_make, k_make, k_made, W_sFld, k_fldS1, W_app, W_bits, W_gSt, k_st1, W_gSl, k_gsl1, k_gsl2, W_rgT, W_rgL, W_rgS, W_rg1, k_rg1, W_miS, k_itS, W_E2, k_en2_tup, k_en2_lst, k_en2_frz, W_par, k_par, W_par3, k_par3, W_dct0, W_disp, W_pnil, W_pcons, k_ps1, k_ps2, k_ps3, W_dc, k_dc1, k_dc2_t, k_dc2_f, k_dc3, k_dc4, isi_str_i, isi_str_b, isi_str_n, isi_str_s, isi_str_t, isi_str_l, W_metL, k_metL, W_err, k_err, W_callC, W_ifC, W_ifEC, W_isiEn, W_try, W_raise, k_raise, W_catL, lsOf_lst, $ts,*])
local macro_rules | `(tactic| simp_arith) => `(tactic| simp_arith [])
section
set_option maxHeartbeats 1000000
variable {Q : D → Store → Prop} {QA : List D → Store → Prop} {QS : Fl × Rho → Store → Prop} {E : Er → Store → Prop} {S : Store} {ρ : Rho}
def fdr (n : Nat) (A : D) (size : Int) (bad odd : D) (a5 a6 a7 a8 a9 a10 : Option D) : Rho := [some (.ref n), some A, some (.int size), some bad, some odd, a5, a6, a7, a8, a9, a10, none]
structure Dr (S0 S : Store) (n : Nat) (b size s : Int) (rows : List (List Int)) (ans : List Int) (bad odd : D) : Prop where
  p : PW n S0 b S
  M : Mach size s rows ans
  s1 : 1 ≤ size
  s4 : size ≤ 4
  rl : rows.length ≤ 100
  kn : Kn S 100 4 bad
  hb : Bad bad
  ho : odd ∈ oddR size
theorem Dr.step {S0 S' : Store} {n : Nat} {b c size s : Int} {rows : List (List Int)} {ans : List Int} {bad odd : D} (h : Dr S0 S n b size s rows ans bad odd) (h1 : PW n S c S') : Dr S0 S' n c size s rows ans bad odd := ⟨h.p.trans h1, h.M, h.s1, h.s4, h.rl, h.kn.pw h1, h.hb, h.ho⟩
section
variable {S0 : Store} {n : Nat} {b size s : Int} {rows : List (List Int)} {ans : List Int} {bad odd : D} {R : MS0} {a5 a6 a7 a8 a9 a10 : Option D}
theorem Dr.cb (h : Dr S0 S n b size s rows ans bad odd) {m : Nat} (hm : 4 ≤ m) : calmD m bad = true := calm_mono hm (kn_calm h.kn)
theorem Dr.ko (h : Dr S0 S n b size s rows ans bad odd) : Kn S 100 2 odd := oddR_kn odd h.ho
theorem Dr.co (h : Dr S0 S n b size s rows ans bad odd) {m : Nat} (hm : 2 ≤ m) : calmD m odd = true := calm_mono hm (kn_calm h.ko)
theorem door0 {A : D} (M : Mach size s rows ans) (s1 : 1 ≤ size) (s4 : size ≤ 4) (rl : rows.length ≤ 100) (kn : Kn S 100 4 bad) (hb : Bad bad) (hp : Pu S n b) (hbb : b < 2 ^ 40) (hq : ∀ odd S', Dr S S' n (b + 1) size s rows ans bad odd → W (R (fdr n A size bad odd none none none none none none) S') QS E) :
    W (sSeq (sAsg (mOp fIxD (mLst (mCons (mC .non) (mCons (mC (.int 0)) (mCons (mLst (mCons (mC (.int 0)) mNil)) (mCons (mTup (mCons (mVar 2) mNil)) (mCons (mTup (mCons (mC (.int 0)) (mCons (mUn fNeg (mC (.int 1))) mNil))) (mCons (mTup (mCons (mC (.bl true)) mNil)) (mCons (mC (.str "0")) (mCons (mTup (mCons (mC (.int 0)) (mCons (mC .non) mNil))) (mCons (mTup (mCons (mTup (mCons (mC (.int 0)) mNil)) mNil)) mNil)))))))))) (mCall m__law_draw (mCons (mVar 0) (mCons (mC (.int 9)) mNil)))) (gN 4)) R [some (.ref n), some A, some (.int size), some bad, none, none, none, none, none, none, none, none] S) QS E := by
  simp_arith [W_neg1]
  refine (W_drawP (PW.refl hp) (by omega) (by decide) (by decide)).mono fun y S2 hy => ?_
  obtain ⟨r, rfl, r0, r1, h2⟩ := hy
  obtain ⟨odd, ho, e⟩ := atI_mem (ds := oddR size) r0 r1
  unfold oddR at e
  simp_arith []
  rw [e]
  simp_arith []
  exact hq odd S2 ⟨h2, M, s1, s4, rl, kn.pw h2, hb, ho⟩
theorem door1 {A : D} (h : Dr S0 S n b size s rows ans bad odd) (hq : ∀ a5, W (R (fdr n A size bad odd a5 none none none none none) S) QS E) :
    W (sSeq (sFor (miR1 (mCons (mC (.int 5)) mNil)) (gN 5)
  (sIf (mB (mOp (fTw true) (mCall m__law_asked (mCons (mVar 5) (mCons (mVar 3) (mCons (mVar 4) mNil)))) (mLst (mCons (mC (.str "machine")) (mCons (mVar 3) mNil))))) (sRet (mC (.bl false))) sNx)) R (fdr n A size bad odd none none none none none none) S) QS E := by
  unfold fdr
  simp_arith []
  refine ⟨by decide, by decide, ?_⟩
  have l5 : (rangeD 0 (Int.toNat 5)).length = 5 := by rw [length_rangeD]; rfl
  refine k_for (lst_R _ _) (by rw [l5]; decide) (fun i ρ S' => S' = S ∧ ∃ a, ρ = fdr n A size bad odd a none none none none none) ⟨rfl, _, rfl⟩ (fun i x ρ S' hi hI => ?_) (fun ρ S' hI => ?_)
  · obtain ⟨rfl, a, rfl⟩ := hI
    have hlt := (List.getElem?_eq_some_iff.mp hi).1
    rw [l5] at hlt
    obtain ⟨_, rfl⟩ := rangeD_get hi
    rw [Int.zero_add]
    unfold fdr
    simp_arith []
    refine ans_bad (w := i) (by omega) h.kn h.hb ?_
    simp_arith []
    rw [tw2 (h.cb (by omega))]
    simp_arith []
    exact ⟨trivial, _, rfl⟩
  · obtain ⟨rfl, a, rfl⟩ := hI
    simp_arith []
    exact hq a
theorem non_ne (hq : Q (.bl true) S) : W (fEq2 true .non (.int size) S) Q E := hq
theorem door2 (h : Dr S0 S n b size s rows ans bad odd) (hq : W (R (fdr n (machD s rows ans) size bad odd a5 none none none none none) S) QS E) :
    W (sSeq (sIf (mOrT (mB (mOp (fTw true) (mCall m__law_asked (mCons (mC (.int 0)) (mCons (mVar 1) (mCons (mVar 4) mNil)))) (mLst (mCons (mC (.str "row")) (mCons (mVar 4) mNil))))) (mB (mOp (fTw true) (mCall m__law_asked (mCons (mC (.int 2)) (mCons (mVar 1) (mCons (mVar 3) mNil)))) (mLst (mCons (mC (.str "machine")) (mCons (mVar 3) mNil)))))) (sRet (mC (.bl false))) sNx) R (fdr n (machD s rows ans) size bad odd a5 none none none none none) S) QS E := by
  have kn : Kn S 100 (0 + 4) bad := h.kn
  unfold fdr
  simp_arith []
  refine ans_row h.M h.s1 h.s4 h.rl h.ko (row_bad h.s1 h.s4 odd h.ho) ?_
  simp_arith []
  rw [tw2 (h.co (by omega))]
  simp_arith []
  refine ans_parted h.M h.s1 h.s4 h.rl (z := .non) (fun hq => W_size_none kn (by decide) h.hb hq) non_ne ?_
  simp_arith []
  rw [tw2 (h.cb (by omega))]
  simp_arith []
  exact hq
theorem door34 {A : D} (h : Dr S0 S n b size s rows ans bad odd) (hq : ∀ a6, W (R (fdr n A size bad odd a5 a6 none none none none) S) QS E) :
    W (sSeq (sAsg (mLst (mCons (mCall m__law_asked (mCons (mC (.int 2)) (mCons (mVar 3) (mCons (mVar 1) mNil)))) (mCons (mCall m__law_asked (mCons (mC (.int 0)) (mCons (mVar 3) (mCons (mTup mNil) mNil)))) (mCons (mCall m__law_asked (mCons (mC (.int 3)) (mCons (mVar 3) (mCons (mTup (mCons (mC (.int 0)) mNil)) mNil)))) mNil)))) (gN 6)) (sSeq (sIf (mB (mOp (fTw true) (mVar 6) (mOp fMul (mLst (mCons (mLst (mCons (mC (.str "machine")) (mCons (mVar 3) mNil))) mNil)) (mC (.int 3))))) (sRet (mC (.bl false))) sNx) R) (fdr n A size bad odd a5 none none none none none) S) QS E := by
  unfold fdr
  simp_arith []
  refine ans_bad (w := 2) (by decide) h.kn h.hb ?_
  simp_arith []
  refine ans_bad (w := 0) (by decide) h.kn h.hb ?_
  simp_arith []
  refine ans_bad (w := 3) (by decide) h.kn h.hb ?_
  simp_arith []
  rw [W_mulL (by decide) (by decide) (by simp only [List.length_cons, List.length_nil]; decide), rep_one]
  rw [show List.replicate (Int.toNat 3) (D.lst [.str "machine", bad]) = [.lst [.str "machine", bad], .lst [.str "machine", bad], .lst [.str "machine", bad]] from rfl]
  simp_arith []
  rw [tw_same fun x hx => by
    have : x = .lst [.str "machine", bad] := by
      rcases List.mem_cons.mp hx with h | hx
      · exact h
      rcases List.mem_cons.mp hx with h | hx
      · exact h
      exact List.mem_singleton.mp hx
    rw [this]
    exact calm2 (h.cb (by omega))]
  simp_arith []
  exact hq _
def farL (size : Int) : List D := List.replicate 59 (.int 0) ++ [.int size]
theorem far_kn : Kn S 100 2 (.tup (farL size)) := .tup (by unfold farL; rw [List.length_append, List.length_replicate]; simp only [List.length_cons, List.length_nil]; decide) fun x hx => by
  unfold farL at hx
  rcases List.mem_append.mp hx with h | h
  · rw [List.eq_of_mem_replicate h]
    exact .int
  · rw [List.mem_singleton.mp h]
    exact .int
theorem last_out {xs : List D} : rowB size (.tup (xs ++ [.int size])) = false := by
  show (xs ++ [D.int size]).all (intD 0 (size - 1)) = false
  rw [List.all_append]
  have : [D.int size].all (intD 0 (size - 1)) = false := by
    show (decide ((0 : Int) ≤ size) && decide (size ≤ size - 1) && true) = false
    rw [decide_eq_false (show ¬ size ≤ size - 1 by omega), Bool.and_false]
    rfl
  rw [this, Bool.and_false]
theorem door56 (h : Dr S0 S n b size s rows ans bad odd) (hq : ∀ a7, W (R (fdr n (machD s rows ans) size bad odd a5 a6 a7 none none none) S) QS E) :
    W (sSeq (sAsg (mOp fAdd (mOp fMul (mTup (mCons (mC (.int 0)) mNil)) (mC (.int 59))) (mTup (mCons (mVar 2) mNil))) (gN 7)) (sSeq (sIf (mB (mOp (fTw true) (mCall m__law_asked (mCons (mC (.int 0)) (mCons (mVar 1) (mCons (mVar 7) mNil)))) (mLst (mCons (mC (.str "row")) (mCons (mVar 7) mNil))))) (sRet (mC (.bl false))) sNx) R) (fdr n (machD s rows ans) size bad odd a5 a6 none none none none) S) QS E := by
  unfold fdr
  simp_arith []
  rw [W_mulT (by decide) (by decide)]
  rw [show List.replicate (Int.toNat 59) (D.int 0) = List.replicate 59 (D.int 0) from rfl]
  generalize hz : List.replicate 59 (D.int 0) = zs
  have hl : zs.length = 59 := by rw [← hz, List.length_replicate]
  simp_arith []
  rw [W_addT (by rw [hl]; simp only [List.length_cons, List.length_nil]; decide)]
  have hk : Kn S 100 2 (.tup (zs ++ [.int size])) := by
    have := far_kn (S := S) (size := size)
    unfold farL at this
    rw [hz] at this
    exact this
  simp_arith []
  refine ans_row h.M h.s1 h.s4 h.rl hk last_out ?_
  simp_arith []
  rw [tw2 (calm_mono (by decide) (kn_calm hk))]
  simp_arith []
  exact hq _
theorem door7 (h : Dr S0 S n b size s rows ans bad odd) (hq : ∀ a8, W (R (fdr n (machD s rows ans) size bad odd a5 a6 a7 a8 none none) S) QS E) :
    W (sSeq (sFor (miA (mLst (mCons (mVar 4) (mCons (mTup mNil) (mCons (mOp fMul (mTup (mCons (mC (.int 0)) mNil)) (mC (.int 5))) (mCons (mLst (mCons (mC (.int 0)) mNil)) (mCons (mTup (mCons (mC (.int 0)) (mCons (mC (.int 0)) (mCons (mC (.int 0)) (mCons (mVar 2) mNil))))) (mCons (mOp fMul (mTup (mCons (mC (.int 0)) mNil)) (mC (.int 6))) mNil)))))))) (gN 8)
  (sIf (mB (mOp (fTw true) (mCall m__law_asked (mCons (mC (.int 3)) (mCons (mVar 1) (mCons (mVar 8) mNil)))) (mLst (mCons (mC (.str "map")) (mCons (mVar 8) mNil))))) (sRet (mC (.bl false))) sNx)) R (fdr n (machD s rows ans) size bad odd a5 a6 a7 none none none) S) QS E := by
  unfold fdr
  simp_arith []
  rw [W_mulT (by decide) (by decide)]
  simp_arith []
  rw [W_mulT (by decide) (by decide)]
  simp_arith []
  refine k_for (lst_L _) (by show 6 < BIG; decide) (fun i ρ S' => S' = S ∧ ∃ a, ρ = fdr n (machD s rows ans) size bad odd a5 a6 a7 a none none) ⟨rfl, _, rfl⟩ (fun i x ρ S' hi hI => ?_) (fun ρ S' hI => ?_)
  · obtain ⟨rfl, a, rfl⟩ := hI
    have zeros : ∀ k : Nat, k ≤ 100 → Kn S' 100 2 (.tup (List.replicate k (.int 0))) := fun k hk => .tup (by rw [List.length_replicate]; exact hk) fun x hx => by
      rw [List.eq_of_mem_replicate hx]
      exact .int
    have hx : Kn S' 100 2 x ∧ (rowB size x = false ∨ ∃ xs, x = .tup xs ∧ (xs.length = 0 ∨ 5 ≤ xs.length)) := by
      have := List.mem_of_getElem? hi
      rcases List.mem_cons.mp this with rfl | this
      · exact ⟨h.ko, .inl (row_bad h.s1 h.s4 _ h.ho)⟩
      rcases List.mem_cons.mp this with rfl | this
      · exact ⟨zeros 0 (by decide), .inr ⟨[], rfl, .inl rfl⟩⟩
      rcases List.mem_cons.mp this with rfl | this
      · exact ⟨zeros 5 (by decide), .inr ⟨_, rfl, .inr (by decide)⟩⟩
      rcases List.mem_cons.mp this with rfl | this
      · exact ⟨.lst (by simp) (by intro x hx; rw [List.mem_singleton.mp hx]; exact .int), .inl rfl⟩
      rcases List.mem_cons.mp this with rfl | this
      · refine ⟨.tup (by simp) (by intro x hx; rcases List.mem_cons.mp hx with rfl | hx; exact .int; rcases List.mem_cons.mp hx with rfl | hx; exact .int; rcases List.mem_cons.mp hx with rfl | hx; exact .int; rw [List.mem_singleton.mp hx]; exact .int), .inl ?_⟩
        exact last_out (xs := [.int 0, .int 0, .int 0])
      rw [List.mem_singleton.mp this]
      exact ⟨zeros 6 (by decide), .inr ⟨_, rfl, .inr (by decide)⟩⟩
    unfold fdr
    simp_arith []
    refine ans_map h.M h.s1 h.s4 h.rl hx.1 hx.2 ?_
    simp_arith []
    rw [tw2 (calm_mono (by decide) (kn_calm hx.1))]
    simp_arith []
    exact ⟨trivial, _, rfl⟩
  · obtain ⟨rfl, a, rfl⟩ := hI
    simp_arith []
    exact hq a
theorem ne_int {v w : Int} (h : v ≠ w) (hq : Q (.bl true) S) : W (fEq2 true (.int v) (.int w) S) Q E := by
  rw [W_eq2I]
  simp only [decide_eq_false h, Bool.not_false, if_true]
  exact hq
theorem door89 (hbb : b < 2 ^ 39) (h : Dr S0 S n b size s rows ans bad odd) (hq : ∀ a9 S', Dr S0 S' n (b + 30) size s rows ans bad odd → W (R (fdr n (machD s rows ans) size bad odd a5 a6 a7 a8 a9 none) S') QS E) :
    W (sSeq (sAsg (mCall m__law_machine (mCons (mVar 0) (mCons (mOp fAdd (mC (.int 1)) (mOp fMod (mCall fInt (mCons (mOp fAdd (mVar 2) (mCall m__law_draw (mCons (mVar 0) (mCons (mC (.int 3)) mNil)))) mNil)) (mC (.int 4)))) (mCons (mC (.int 3)) mNil)))) (gN 9)) (sSeq (sIf (mB (mOp (fTw true) (mCall m__law_asked (mCons (mC (.int 2)) (mCons (mVar 1) (mCons (mVar 9) mNil)))) (mLst (mCons (mC (.str "machine")) (mCons (mVar 9) mNil))))) (sRet (mC (.bl false))) sNx) R) (fdr n (machD s rows ans) size bad odd a5 a6 a7 a8 none none) S) QS E := by
  have s1 := h.s1
  have s4 := h.s4
  unfold fdr
  simp_arith []
  refine (W_drawP (PW.refl h.p.1) (by omega) (by decide) (by decide)).mono fun y S2 hy => ?_
  obtain ⟨r, rfl, r0, r1, h2⟩ := hy
  have h2 := h.step h2
  simp_arith []
  rw [W_f2Ic (by decide +kernel)]
  simp_arith []
  generalize hw : 1 + (size + r) % 4 = w
  refine (W_machine (PW.refl h2.p.1) (by omega) (by omega) (by omega) (by decide) (by decide)).mono fun y S3 hy => ?_
  obtain ⟨s', rows', ans', rfl, M', hl', h3⟩ := hy
  have h3 := h2.step h3
  simp_arith []
  refine ans_parted h3.M s1 s4 h3.rl (z := .int w) (fun hq => W_size_mach M' (by omega) (by omega) (by omega) hq) (ne_int (by omega)) ?_
  simp_arith []
  rw [tw2 (calm_mono (by decide) (kn_calm (kn_mach (S := S3) (B := 100) (m := 0) M' (by omega) (by omega) (by decide))))]
  simp_arith []
  exact hq _ S3 (h3.step ((PW.refl h3.p.1).mono (by omega)))
theorem doorZ (hbb : b < 2 ^ 39) (h : Dr S0 S n b size s rows ans bad odd) (hq : ∀ S', PW n S0 (b + 1) S' → Q (.bl true) S') :
    W (sSeq (sAsg (mOp fIxD (mLst (mCons (mC .non) (mCons (mC (.int 0)) (mCons (mC (.int 5)) (mCons (mUn fNeg (mC (.int 1))) (mCons (mC (.bl true)) (mCons (mC (.str "2")) (mCons (mTup (mCons (mC (.int 2)) mNil)) (mCons (mLst (mCons (mC (.int 2)) mNil)) mNil))))))))) (mCall m__law_draw (mCons (mVar 0) (mCons (mC (.int 8)) mNil)))) (gN 10)) (sRet (mOp (fTw false) (mLc (miA (mTup (mCons (mVar 1) (mCons (mVar 3) (mCons (mC .non) mNil))))) (gN 11) mYes (mCall m__law_asked (mCons (mC (.int 5)) (mCons (mVar 11) (mCons (mVar 10) mNil)))) [11]) (mOp fMul (mLst (mCons (mLst (mCons (mC (.str "size")) (mCons (mVar 10) mNil))) mNil)) (mC (.int 3))))) (fdr n (machD s rows ans) size bad odd a5 a6 a7 a8 a9 none) S) (kDef Q) E := by
  unfold fdr
  simp_arith [W_neg1]
  refine (W_drawP (PW.refl h.p.1) (by omega) (by decide) (by decide)).mono fun y S2 hy => ?_
  obtain ⟨r, rfl, r0, r1, h2⟩ := hy
  obtain ⟨v, hv, e⟩ := atI_mem (ds := oddS) r0 r1
  unfold oddS at e
  simp_arith []
  rw [e]
  simp_arith []
  refine k_lc_map (lst_L _) (f := fun _ => .lst [.str "size", v]) (by simp only [List.length_cons, List.length_nil]; decide) (fun x hx Y hY => ?_) ?_
  · simp_arith []
    exact ans_size hv hY
  · simp_arith []
    rw [W_mulL (by decide) (by decide) (by simp only [List.length_cons, List.length_nil]; decide), rep_one]
    rw [show List.replicate (Int.toNat 3) (D.lst [.str "size", v]) = [.lst [.str "size", v], .lst [.str "size", v], .lst [.str "size", v]] from rfl]
    simp_arith []
    rw [tw_same fun x hx => by
      have : x = .lst [.str "size", v] := by
        rcases List.mem_cons.mp hx with h | hx
        · exact h
        rcases List.mem_cons.mp hx with h | hx
        · exact h
        exact List.mem_singleton.mp hx
      rw [this]
      exact calm2 (calm_mono (by decide) (oddS_calm v hv))]
    exact hq S2 (h.p.trans h2)
theorem W_doors (M : Mach size s rows ans) (s1 : 1 ≤ size) (s4 : size ≤ 4) (rl : rows.length ≤ 100) (kn : Kn S 100 4 bad) (hb : Bad bad) (hp : Pu S n b) (hbb : b < 2 ^ 35) (hq : ∀ S', PW n S (b + 32) S' → Q (.bl true) S') : W (m__law_doors_right [.ref n, machD s rows ans, .int size, bad] S) Q E := by
  unfold m__law_doors_right
  rw [W_def]
  refine door0 M s1 s4 rl kn hb hp (by omega) fun odd S1 h1 => ?_
  refine door1 h1 fun a5 => ?_
  refine door2 h1 ?_
  refine door34 h1 fun a6 => ?_
  refine door56 h1 fun a7 => ?_
  refine door7 h1 fun a8 => ?_
  refine door89 (by omega) h1 fun a9 S2 h2 => ?_
  exact doorZ (by omega) h2 fun S' h => hq S' (h.mono (by omega))
end
end
end MM

/-! the law, by hand -/
namespace MM
open PySem L2 PyProof.Rows
local macro_rules | `(tactic| simp_arith [$ts,*]) => `(tactic| simp -implicitDefEqProofs only [W_ok, W_var, k_var, W_c, W_op, k_op1, k_op2, W_un, k_un, W_nil, W_cons, k_cons1, k_cons2, W_call, k_call, W_tup, k_tup, W_lst, k_lst, W_lstS, k_lstS, W_seq, k_seq_nx, k_seq_rt, k_seq_bk, k_seq_ct, W_expr, k_expr, W_ret, k_ret, W_retN, W_nx, W_bk, W_ct, W_if, k_if_t, k_if_f, W_ifE, k_ifE_t, k_ifE_f, W_b, k_b, W_andT, k_andT_t, k_andT_f, W_orT, k_orT_t, k_orT_f, W_notT, k_notT, W_yes, W_andV, k_andV_t, k_andV_f, W_orV, k_orV_t, k_orV_f, W_notV, k_notV, W_cmpC, k_cmp1, k_cmp2, k_cmp3_t, k_cmp3_f, W_asg, k_asg, k_asg2, W_gN, W_gsNil, W_gsCons, k_gs, W_gTp, W_gIx, k_ix1, W_for, W_lc, W_lcS, W_next, W_miA, k_it_tup, k_it_lst, k_it_frz, W_def, k_def_rt, k_def_nx, W_callK, k_CK1, k_CK2, perm, List.filterMap_cons, List.filterMap_nil, and_self, W_f2I, W_addI, W_int, W_2L, W_is, W_lenT, W_lenL, W_lenF, W_tupleT, W_tupleL, W_tupleF, k_body, k_loop_nx, k_loop_ct, k_loop_bk, k_loop_rt, k_lc1, k_lc2_t, k_lc2_f, List.map_cons, List.map_nil, List.length_cons, List.length_nil, List.reduceReplicate, Nat.reduceSub, Nat.reduceAdd, Int.reduceAdd, Int.reduceSub, Int.reduceMul, Int.reduceNeg, Int.reduceLT, Int.reduceLE, Int.reduceEq, Int.cast_ofNat_Int, Int.natCast_zero, Int.natCast_one, eq_self, decide_true, decide_false, Bool.and_true, Bool.true_and, Bool.false_and, Bool.and_false, Nat.zero_add, List.replicate_zero, List.replicate_succ, List.cons_append, List.nil_append, List.append_nil, List.getElem?_cons_zero, List.getElem?_cons_succ, List.set_cons_zero, List.set_cons_succ, wipeD, Bool.not_true, Bool.not_false, if_true, if_false, reduceIte, isNon, Bool.false_eq_true, k_el, W_E, k_en_tup, k_en_lst, isi_int_i, isi_int_b, isi_int_n, isi_int_s, isi_int_t, isi_int_l, isi_bool_i, isi_bool_b, isi_bool_n, isi_bool_s, isi_bool_t, isi_bool_l, isi_tuple_i, isi_tuple_b, isi_tuple_n, isi_tuple_s, isi_tuple_t, isi_tuple_l, isi_list_i, isi_list_b, isi_list_n, isi_list_s, isi_list_t, isi_list_l, W_eq2I, W_intB, k_R1_eq, k_R2_eq, W_R1q, W_ixDT, W_ixDL, W_ixDF, k_opt, atI_lit, W_gTpT, W_gTpL, W_noPart, W_part, k_part, W_sl, k_sl1, k_sl2, k_sl3T, k_sl3L, W_revT, W_revL, W_meth, k_meth2, W_prop, W_make, k_make, k_made, W_sFld, k_fldS1, W_app, W_bits, W_gSt, k_st1, W_gSl, k_gsl1, k_gsl2, W_rgT, W_rgL, W_rgS, W_rg1, k_rg1, W_miS, k_itS, W_E2, k_en2_tup, k_en2_lst, k_en2_frz, W_par, k_par, W_par3, k_par3, W_dct0, W_disp, W_pnil, W_pcons, k_ps1, k_ps2, k_ps3, W_dc, k_dc1, k_dc2_t, k_dc2_f, k_dc3, k_dc4, isi_str_i, isi_str_b, isi_str_n, isi_str_s, isi_str_t, isi_str_l, W_metL, k_metL, W_err, k_err, W_callC, W_ifC, W_ifEC, W_isiEn, W_try, W_raise, k_raise, W_catL, lsOf_lst, $ts,*])
local macro_rules | `(tactic| simp_arith) => `(tactic| simp_arith [])
section
set_option maxHeartbeats 1000000
variable {Q : D → Store → Prop} {QA : List D → Store → Prop} {QS : Fl × Rho → Store → Prop} {E : Er → Store → Prop} {S : Store} {ρ : Rho}
theorem merge {P : Rho → Store → Prop} {A B : MS0} (hA : W (A ρ S) (fun x S' => x.1 = .nx ∧ P x.2 S') E) (hB : ∀ ρ' S', P ρ' S' → W (B ρ' S') QS E) : W (sSeq A B ρ S) QS E := by
  rw [W_seq]
  refine hA.mono fun x S' h => ?_
  obtain ⟨fl, r⟩ := x
  obtain ⟨h1, h2⟩ := h
  have h1' : fl = .nx := h1
  subst h1'
  rw [k_seq_nx]
  exact hB r S' h2
theorem Pu.len {n : Nat} {b : Int} (h : Pu S n b) : n < S.length := by
  obtain ⟨x, y, z, e, _⟩ := h
  exact (List.getElem?_eq_some_iff.mp e).1
theorem W_pow30 : W (fPowW (.int 10) (.int 30) S) Q E = Q (.int (10 ^ 30)) S := W_f2Ic (by decide +kernel)
theorem W_tupS {n : Nat} {ds : List D} (h : S[n]? = some (.lst ds)) : W (fTuple [.ref n] S) Q E = Q (.tup ds) S := by
  unfold fTuple
  dsimp only
  rw [show lstOf S (.ref n) = some ds from lst_of_get h]
  rfl
theorem ixN_in {l : Nat} {k : Int} (h0 : 0 ≤ k) (h1 : k < l) : ixN l k = some k.toNat := by
  unfold ixN
  rw [if_pos h0, if_pos h1]
def odds (nw : Nat) (m : Int) : List D := [.non, .bl true, .str "0", .int (-1), .int m, .int 100, .tup [], .lst [], .tup [.int 0], .ref nw, .int (10 ^ 30), .int (m - 1), .int 0, .bl false, .lst [.int 0], .int 99]
theorem odds_kn {nw : Nat} {m : Int} {B : Nat} (hB : 1 ≤ B) (h : S[nw]? = some (.dct [])) : ∀ x ∈ odds nw m, Kn S B 1 x := by
  unfold odds
  refine List.forall_mem_cons.mpr ⟨.non, ?_⟩
  refine List.forall_mem_cons.mpr ⟨.bl, ?_⟩
  refine List.forall_mem_cons.mpr ⟨.str, ?_⟩
  refine List.forall_mem_cons.mpr ⟨.int, ?_⟩
  refine List.forall_mem_cons.mpr ⟨.int, ?_⟩
  refine List.forall_mem_cons.mpr ⟨.int, ?_⟩
  refine List.forall_mem_cons.mpr ⟨.tup (Nat.zero_le _) (fun _ z => (List.not_mem_nil z).elim), ?_⟩
  refine List.forall_mem_cons.mpr ⟨.lst (Nat.zero_le _) (fun _ z => (List.not_mem_nil z).elim), ?_⟩
  refine List.forall_mem_cons.mpr ⟨.tup hB (by intro x hx; rw [List.mem_singleton.mp hx]; exact .int), ?_⟩
  refine List.forall_mem_cons.mpr ⟨.ref (.inr ⟨_, h⟩), ?_⟩
  refine List.forall_mem_cons.mpr ⟨.int, ?_⟩
  refine List.forall_mem_cons.mpr ⟨.int, ?_⟩
  refine List.forall_mem_cons.mpr ⟨.int, ?_⟩
  refine List.forall_mem_cons.mpr ⟨.bl, ?_⟩
  refine List.forall_mem_cons.mpr ⟨.lst hB (by intro x hx; rw [List.mem_singleton.mp hx]; exact .int), ?_⟩
  refine List.forall_mem_cons.mpr ⟨.int, ?_⟩
  exact fun _ z => (List.not_mem_nil z).elim
theorem W_odd {n B : Nat} {b m : Int} (hp : Pu S n b) (hb : b < 2 ^ 40) (hB : 1 ≤ B) (hq : ∀ x S', PW n S (b + 1) S' → Kn S' B 1 x → Q x S') : W (m__law_odd [.ref n, .int m] S) Q E := by
  have hn := Pu.len hp
  unfold m__law_odd
  simp_arith [W_neg1, W_pow30]
  have x3 : Ext S (S ++ [O.dct []]) := Ext.app
  have hw3 : (S ++ [O.dct []])[S.length]? = some (.dct []) := at_end
  have hne : S.length ≠ n := by omega
  generalize S ++ [O.dct []] = S3 at x3 hw3 ⊢
  generalize S.length = nw at hw3 hne ⊢
  have p3 := (PW.refl hp).ext x3
  refine (W_drawP (PW.refl p3.1) (by omega) (by decide) (by decide)).mono fun y S4 hy => ?_
  obtain ⟨r, rfl, r0, r1, h4⟩ := hy
  have hw4 := h4.at hw3 hne
  obtain ⟨x, hx, e⟩ := atI_mem (ds := odds nw m) r0 r1
  unfold odds at e
  simp_arith []
  rw [e]
  simp_arith []
  exact hq x S4 (p3.trans h4) (odds_kn hB hw4 x hx)
/-- a list by value or in the store -/
def LV (S : Store) (n : Nat) (v : D) (es : List D) : Prop := v = .lst es ∨ ∃ i, v = .ref i ∧ S[i]? = some (.lst es) ∧ i ≠ n
theorem mem_set {x y : D} {ds : List D} {i : Nat} (h : x ∈ ds.set i y) : x ∈ ds ∨ x = y := List.mem_or_eq_of_mem_set h
theorem W_mul0 {us : List D} (h : us.length ≤ 1000) : W (fMul0 (.tup us) (.int 2) S) Q E = Q (.tup (us ++ us)) S := by
  cases us with
  | nil => rfl
  | cons u us =>
    show W (if (u :: us) ≠ [] ∧ (2 : Int) ≤ 2 ∧ (2 : Int) ≤ 1000 ∧ (u :: us).length ≤ 1000 then .ok (.tup (List.replicate (2 : Int).toNat (u :: us)).flatten) S else .bad) Q E = _
    rw [if_pos ⟨by simp, by decide, by decide, h⟩]
    show Q (.tup ((u :: us) ++ ((u :: us) ++ []))) S = _
    rw [List.append_nil]
section
variable {S0 : Store} {n B : Nat} {b : Int} {R : MS0} {ds : List D}
theorem part2 {nr : Nat} {w at' : Int} (hp : PW n S0 b S) (hbb : b < 2 ^ 39) (hr : S[nr]? = some (.lst ds)) (hnr : S0.length ≤ nr) (hnn : n < S0.length) (hB : 1 ≤ B) (hB2 : B ≤ 100) (hl : ds.length ≤ B) (hk : ∀ e ∈ ds, Kn S B 2 e) (a0 : 0 ≤ at') (a1 : at' < ds.length)
    (hq : ∀ v v4 es S', LV S' n v es → es.length ≤ 2 * B + 2 → (∀ e ∈ es, Kn S' (2 * B + 2) 2 e) → PW n S0 (b + 2) S' → W (R [some (.ref n), some v, some (.int w), some (.int at'), v4] S') QS E) :
    W (sSeq (sIf (mAndT (mB (mOp (fEq2 false) (mVar 2) (mC (.int 0)))) (mAndT (mB (mUn (fIsi "tuple") (mOp fIxD (mVar 1) (mVar 3)))) (mB (mOp (fEm true) (mOp fIxD (mVar 1) (mVar 3)) (mTup mNil))))) (sSeq (sAsg (mCall m__law_draw (mCons (mVar 0) (mCons (mCall fLen (mCons (mOp fIxD (mVar 1) (mVar 3)) mNil)) mNil))) (gN 4))
  (sAsg (mOp fAdd (mOp fAdd (mSl (mOp fIxD (mVar 1) (mVar 3)) mNoPart (mPart (mVar 4))) (mTup (mCons (mCall m__law_odd (mCons (mVar 0) (mCons (mCall fLen (mCons (mVar 1) mNil)) mNil))) mNil))) (mSl (mOp fIxD (mVar 1) (mVar 3)) (mPart (mOp fAdd (mVar 4) (mC (.int 1)))) mNoPart)) (gSt (mVar 1) (mVar 3)))) (sIf (mB (mOp (fEq2 false) (mVar 2) (mC (.int 1)))) (sAsg (mCall m__law_odd (mCons (mVar 0) (mCons (mCall fLen (mCons (mVar 1) mNil)) mNil))) (gSt (mVar 1) (mVar 3))) (sIf (mB (mOp (fEq2 false) (mVar 2) (mC (.int 2)))) (sAsg (mOp fAdd (mSl (mVar 1) mNoPart (mPart (mVar 3))) (mSl (mVar 1) (mPart (mOp fAdd (mVar 3) (mC (.int 1)))) mNoPart)) (gN 1)) (sIf (mB (mOp (fEq2 false) (mVar 2) (mC (.int 3)))) (sAsg (mOp fCatL (mVar 1) (mLst (mCons (mOp fIxD (mVar 1) (mVar 3)) mNil))) (gN 1)) (sIf (mB (mUn (fIsi "tuple") (mOp fIxD (mVar 1) (mVar 3)))) (sAsg (mOp fIxD (mLst (mCons (mSl (mOp fIxD (mVar 1) (mVar 3)) (mPart (mC (.int 1))) mNoPart) (mCons (mOp fAdd (mOp fIxD (mVar 1) (mVar 3)) (mSl (mOp fIxD (mVar 1) (mVar 3)) mNoPart (mPart (mC (.int 1))))) (mCons (mCall (frL lList) (mCons (mOp fIxD (mVar 1) (mVar 3)) mNil)) (mCons (mOp fMul0 (mOp fIxD (mVar 1) (mVar 3)) (mC (.int 2))) mNil))))) (mCall m__law_draw (mCons (mVar 0) (mCons (mC (.int 4)) mNil)))) (gSt (mVar 1) (mVar 3))) sNx))))) R [some (.ref n), some (.ref nr), some (.int w), some (.int at'), none] S) QS E := by
  have hne : nr ≠ n := by omega
  refine merge (P := fun ρ' S' => ∃ v v4 es, ρ' = [some (.ref n), some v, some (.int w), some (.int at'), v4] ∧ LV S' n v es ∧ es.length ≤ 2 * B + 2 ∧ (∀ e ∈ es, Kn S' (2 * B + 2) 2 e) ∧ PW n S0 (b + 2) S') ?_ fun ρ' S' hP => by
    obtain ⟨v, v4, es, rfl, h1, h2, h3, h4⟩ := hP
    exact hq v v4 es S' h1 h2 h3 h4
  obtain ⟨x, hx, ex⟩ := atI_mem (ds := ds) a0 a1
  have kx := hk x hx
  have kup : ∀ {S'}, (∀ {d m}, Kn S B m d → Kn S' B m d) → ∀ e ∈ ds, Kn S' (2 * B + 2) 2 e := fun f e he => (f (hk e he)).mono (by omega) (Nat.le_refl _)
  -- the place is written
  have put : ∀ {S' : Store} {y : D} {v4 : Option D}, S'[nr]? = some (.lst ds) → (∀ e ∈ ds, Kn S' (2 * B + 2) 2 e) → Kn S' (2 * B + 2) 2 y → PW n S0 (b + 2) S' → ∃ v v4' es, ([some (.ref n), some (.ref nr), some (.int w), some (.int at'), v4] : Rho) = [some (.ref n), some v, some (.int w), some (.int at'), v4'] ∧ LV (S'.set nr (.lst (ds.set at'.toNat y))) n v es ∧ es.length ≤ 2 * B + 2 ∧ (∀ e ∈ es, Kn (S'.set nr (.lst (ds.set at'.toNat y))) (2 * B + 2) 2 e) ∧ PW n S0 (b + 2) (S'.set nr (.lst (ds.set at'.toNat y))) := fun {S' y v4} hr' hk' hy hp' =>
    ⟨.ref nr, v4, ds.set at'.toNat y, rfl, .inr ⟨nr, rfl, set_at hr', hne⟩, by rw [List.length_set]; omega, fun e he => by
      rcases mem_set he with h | rfl
      · exact (hk' e h).set
      · exact hy.set, hp'.set_new hnr (by omega)⟩
  simp_arith []
  by_cases w0 : w = 0
  · subst w0
    simp_arith []
    rw [W_ixDS hr, ex]
    simp_arith []
    rw [W_isTp kx]
    cases hxt0 : isTp x with
    | false =>
      simp_arith []
      rw [W_ixDS hr, ex]
      simp_arith []
      rw [W_isTp kx]
      cases hxt : isTp x with
      | false =>
        simp_arith []
        exact ⟨trivial, .ref nr, _, ds, rfl, .inr ⟨nr, rfl, hr, hne⟩, by omega, kup (fun h => h), hp.mono (by omega)⟩
      | true =>
        obtain ⟨us, rfl⟩ := tp_tup hxt
        simp_arith []
        have kx' := kx
        cases kx' with
        | tup u1 u2 =>
        rw [W_ixDS hr, ex]
        simp_arith []
        rw [cutD_hi (by decide), W_ixDS hr, ex]
        simp_arith []
        rw [W_ixDS hr, ex]
        simp_arith []
        rw [cutD_lo (by decide), W_addT (by rw [List.length_take]; unfold sizeLine; omega)]
        simp_arith []
        rw [W_ixDS hr, ex]
        simp_arith []
        rw [W_frL (show lList [D.tup us] S = some us from rfl)]
        simp_arith []
        rw [W_ixDS hr, ex]
        simp_arith []
        rw [W_mul0 (by omega)]
        simp_arith []
        refine (W_drawP (PW.refl hp.1) (by omega) (by decide) (by decide)).mono fun q' S1 hq' => ?_
        obtain ⟨q, rfl, q0, q1, h1⟩ := hq'
        obtain ⟨y, hy, e⟩ := atI_mem (ds := [D.tup (us.drop (Int.toNat 1)), .tup (us ++ us.take (Int.toNat 1)), .lst us, .tup (us ++ us)]) q0 q1
        have ku : ∀ e ∈ us, Kn S1 (2 * B + 2) 1 e := fun e he => ((u2 e he).pw h1).mono (by omega) (Nat.le_refl _)
        have ky : Kn S1 (2 * B + 2) 2 y := by
          rcases List.mem_cons.mp hy with rfl | hy
          · exact .tup (by rw [List.length_drop]; omega) fun e he => ku e (List.mem_of_mem_drop he)
          rcases List.mem_cons.mp hy with rfl | hy
          · refine .tup (by rw [List.length_append, List.length_take]; omega) fun e he => ?_
            rcases List.mem_append.mp he with h | h
            · exact ku e h
            · exact ku e (List.mem_of_mem_take h)
          rcases List.mem_cons.mp hy with rfl | hy
          · exact .lst (by omega) ku
          · rw [List.mem_singleton.mp hy]
            refine .tup (by rw [List.length_append]; omega) fun e he => ?_
            rcases List.mem_append.mp he with h | h
            · exact ku e h
            · exact ku e h
        simp_arith []
        rw [e]
        simp_arith []
        rw [k_st2L (h1.at hr hne) (ixN_in a0 a1)]
        simp_arith []
        exact ⟨trivial, put (h1.at hr hne) (kup fun h => h.pw h1) ky ((hp.trans h1).mono (by omega))⟩
    | true =>
      obtain ⟨us0, rfl⟩ := tp_tup hxt0
      simp_arith []
      rw [W_ixDS hr, ex]
      simp_arith []
      rw [W_emT]
      cases hem : us0.isEmpty with
      | true =>
        simp_arith []
        generalize hgx : D.tup us0 = x at ex kx
        rw [W_ixDS hr, ex]
        simp_arith []
        rw [W_isTp kx]
        cases hxt : isTp x with
        | false =>
          simp_arith []
          exact ⟨trivial, .ref nr, _, ds, rfl, .inr ⟨nr, rfl, hr, hne⟩, by omega, kup (fun h => h), hp.mono (by omega)⟩
        | true =>
          obtain ⟨us, rfl⟩ := tp_tup hxt
          simp_arith []
          have kx' := kx
          cases kx' with
          | tup u1 u2 =>
          rw [W_ixDS hr, ex]
          simp_arith []
          rw [cutD_hi (by decide), W_ixDS hr, ex]
          simp_arith []
          rw [W_ixDS hr, ex]
          simp_arith []
          rw [cutD_lo (by decide), W_addT (by rw [List.length_take]; unfold sizeLine; omega)]
          simp_arith []
          rw [W_ixDS hr, ex]
          simp_arith []
          rw [W_frL (show lList [D.tup us] S = some us from rfl)]
          simp_arith []
          rw [W_ixDS hr, ex]
          simp_arith []
          rw [W_mul0 (by omega)]
          simp_arith []
          refine (W_drawP (PW.refl hp.1) (by omega) (by decide) (by decide)).mono fun q' S1 hq' => ?_
          obtain ⟨q, rfl, q0, q1, h1⟩ := hq'
          obtain ⟨y, hy, e⟩ := atI_mem (ds := [D.tup (us.drop (Int.toNat 1)), .tup (us ++ us.take (Int.toNat 1)), .lst us, .tup (us ++ us)]) q0 q1
          have ku : ∀ e ∈ us, Kn S1 (2 * B + 2) 1 e := fun e he => ((u2 e he).pw h1).mono (by omega) (Nat.le_refl _)
          have ky : Kn S1 (2 * B + 2) 2 y := by
            rcases List.mem_cons.mp hy with rfl | hy
            · exact .tup (by rw [List.length_drop]; omega) fun e he => ku e (List.mem_of_mem_drop he)
            rcases List.mem_cons.mp hy with rfl | hy
            · refine .tup (by rw [List.length_append, List.length_take]; omega) fun e he => ?_
              rcases List.mem_append.mp he with h | h
              · exact ku e h
              · exact ku e (List.mem_of_mem_take h)
            rcases List.mem_cons.mp hy with rfl | hy
            · exact .lst (by omega) ku
            · rw [List.mem_singleton.mp hy]
              refine .tup (by rw [List.length_append]; omega) fun e he => ?_
              rcases List.mem_append.mp he with h | h
              · exact ku e h
              · exact ku e h
          simp_arith []
          rw [e]
          simp_arith []
          rw [k_st2L (h1.at hr hne) (ixN_in a0 a1)]
          simp_arith []
          exact ⟨trivial, put (h1.at hr hne) (kup fun h => h.pw h1) ky ((hp.trans h1).mono (by omega))⟩
      | false =>
        simp_arith []
        have kx' := kx
        cases kx' with
        | tup u1 u2 =>
        have upos : 0 < us0.length := by
          cases us0 with
          | nil => cases hem
          | cons _ _ => exact Nat.succ_pos _
        rw [W_ixDS hr, ex]
        simp_arith []
        refine (W_drawP (PW.refl hp.1) (by omega) (by omega) (by omega)).mono fun q' S1 hq' => ?_
        obtain ⟨q, rfl, q0, q1, h1⟩ := hq'
        have hr1 := h1.at hr hne
        simp_arith []
        rw [W_ixDS hr1, ex]
        simp_arith []
        rw [cutD_lo q0, W_lenS hr1]
        simp_arith []
        refine W_odd h1.1 (by omega) hB fun od S2 h2 ko => ?_
        have hr2 := h2.at hr1 hne
        simp_arith []
        rw [W_addT (by rw [List.length_take]; simp only [List.length_cons, List.length_nil]; unfold sizeLine; omega)]
        simp_arith []
        rw [W_ixDS hr2, ex]
        simp_arith []
        rw [cutD_hi (by omega), W_addT (by rw [List.length_append, List.length_take, List.length_drop]; simp only [List.length_cons, List.length_nil]; unfold sizeLine; omega)]
        simp_arith []
        rw [k_st2L hr2 (ixN_in a0 a1)]
        simp_arith []
        have kup2 : ∀ {d : D} {m : Nat}, Kn S B m d → Kn S2 B m d := fun h => (h.pw h1).pw h2
        refine ⟨trivial, put hr2 (kup kup2) (.tup ?_ fun e he => ?_) ((hp.trans (h1.trans h2)).mono (by omega))⟩
        · rw [List.length_append, List.length_append, List.length_take, List.length_drop]
          simp only [List.length_cons, List.length_nil]
          omega
        · rcases List.mem_append.mp he with he | he
          · rcases List.mem_append.mp he with he | he
            · exact (kup2 (u2 e (List.mem_of_mem_take he))).mono (by omega) (Nat.le_refl _)
            · rw [List.mem_singleton.mp he]
              exact ko.mono (by omega) (Nat.le_refl _)
          · exact (kup2 (u2 e (List.mem_of_mem_drop he))).mono (by omega) (Nat.le_refl _)
  · rw [decide_eq_false w0]
    simp_arith []
    by_cases w1 : w = 1
    · subst w1
      simp_arith []
      rw [W_lenS hr]
      simp_arith []
      refine W_odd hp.1 (by omega) hB fun od S2 h2 ko => ?_
      have hr2 := h2.at hr hne
      simp_arith []
      rw [k_st2L hr2 (ixN_in a0 a1)]
      simp_arith []
      exact ⟨trivial, put hr2 (kup fun h => h.pw h2) (ko.mono (by omega) (by omega)) ((hp.trans h2).mono (by omega))⟩
    rw [decide_eq_false w1]
    simp_arith []
    by_cases w2 : w = 2
    · subst w2
      simp_arith []
      rw [k_sl3S hr]
      simp_arith []
      rw [k_sl3S hr]
      simp_arith []
      rw [cutD_lo a0, cutD_hi (by omega), W_addL (by rw [List.length_take, List.length_drop]; unfold sizeLine; omega)]
      simp_arith []
      refine ⟨trivial, _, _, _, rfl, .inl rfl, by rw [List.length_append, List.length_take, List.length_drop]; omega, fun e he => ?_, hp.mono (by omega)⟩
      rcases List.mem_append.mp he with h | h
      · exact kup (fun h => h) e (List.mem_of_mem_take h)
      · exact kup (fun h => h) e (List.mem_of_mem_drop h)
    rw [decide_eq_false w2]
    simp_arith []
    by_cases w3 : w = 3
    · subst w3
      simp_arith []
      rw [W_ixDS hr, ex]
      simp_arith []
      rw [W_catL (lsOf_ref hr) lsOf_lst (by simp only [List.length_cons, List.length_nil]; unfold sizeLine; omega)]
      simp_arith []
      refine ⟨trivial, _, _, _, rfl, .inl rfl, by rw [List.length_append]; simp only [List.length_cons, List.length_nil]; omega, fun e he => ?_, hp.mono (by omega)⟩
      rcases List.mem_append.mp he with h | h
      · exact kup (fun h => h) e h
      · rw [List.mem_singleton.mp h]
        exact kup (fun h => h) x hx
    rw [decide_eq_false w3]
    simp_arith []
    rw [W_ixDS hr, ex]
    simp_arith []
    rw [W_isTp kx]
    cases hxt : isTp x with
    | false =>
      simp_arith []
      exact ⟨trivial, .ref nr, _, ds, rfl, .inr ⟨nr, rfl, hr, hne⟩, by omega, kup (fun h => h), hp.mono (by omega)⟩
    | true =>
      obtain ⟨us, rfl⟩ := tp_tup hxt
      simp_arith []
      have kx' := kx
      cases kx' with
      | tup u1 u2 =>
      rw [W_ixDS hr, ex]
      simp_arith []
      rw [cutD_hi (by decide), W_ixDS hr, ex]
      simp_arith []
      rw [W_ixDS hr, ex]
      simp_arith []
      rw [cutD_lo (by decide), W_addT (by rw [List.length_take]; unfold sizeLine; omega)]
      simp_arith []
      rw [W_ixDS hr, ex]
      simp_arith []
      rw [W_frL (show lList [D.tup us] S = some us from rfl)]
      simp_arith []
      rw [W_ixDS hr, ex]
      simp_arith []
      rw [W_mul0 (by omega)]
      simp_arith []
      refine (W_drawP (PW.refl hp.1) (by omega) (by decide) (by decide)).mono fun q' S1 hq' => ?_
      obtain ⟨q, rfl, q0, q1, h1⟩ := hq'
      obtain ⟨y, hy, e⟩ := atI_mem (ds := [D.tup (us.drop (Int.toNat 1)), .tup (us ++ us.take (Int.toNat 1)), .lst us, .tup (us ++ us)]) q0 q1
      have ku : ∀ e ∈ us, Kn S1 (2 * B + 2) 1 e := fun e he => ((u2 e he).pw h1).mono (by omega) (Nat.le_refl _)
      have ky : Kn S1 (2 * B + 2) 2 y := by
        rcases List.mem_cons.mp hy with rfl | hy
        · exact .tup (by rw [List.length_drop]; omega) fun e he => ku e (List.mem_of_mem_drop he)
        rcases List.mem_cons.mp hy with rfl | hy
        · refine .tup (by rw [List.length_append, List.length_take]; omega) fun e he => ?_
          rcases List.mem_append.mp he with h | h
          · exact ku e h
          · exact ku e (List.mem_of_mem_take h)
        rcases List.mem_cons.mp hy with rfl | hy
        · exact .lst (by omega) ku
        · rw [List.mem_singleton.mp hy]
          refine .tup (by rw [List.length_append]; omega) fun e he => ?_
          rcases List.mem_append.mp he with h | h
          · exact ku e h
          · exact ku e h
      simp_arith []
      rw [e]
      simp_arith []
      rw [k_st2L (h1.at hr hne) (ixN_in a0 a1)]
      simp_arith []
      exact ⟨trivial, put (h1.at hr hne) (kup fun h => h.pw h1) ky ((hp.trans h1).mono (by omega))⟩
end
end
end MM

/-! the law, by hand -/
namespace MM
open PySem L2 PyProof.Rows
local macro_rules | `(tactic| simp_arith [$ts,*]) => `(tactic| simp -implicitDefEqProofs only [W_ok, W_var, k_var, W_c, W_op, k_op1, k_op2, W_un, k_un, W_nil, W_cons, k_cons1, k_cons2, W_call, k_call, W_tup, k_tup, W_lst, k_lst, W_lstS, k_lstS, W_seq, k_seq_nx, k_seq_rt, k_seq_bk, k_seq_ct, W_expr, k_expr, W_ret, k_ret, W_retN, W_nx, W_bk, W_ct, W_if, k_if_t, k_if_f, W_ifE, k_ifE_t, k_ifE_f, W_b, k_b, W_andT, k_andT_t, k_andT_f, W_orT, k_orT_t, k_orT_f, W_notT, k_notT, W_yes, W_andV, k_andV_t, k_andV_f, W_orV, k_orV_t, k_orV_f, W_notV, k_notV, W_cmpC, k_cmp1, k_cmp2, k_cmp3_t, k_cmp3_f, W_asg, k_asg, k_asg2, W_gN, W_gsNil, W_gsCons, k_gs, W_gTp, W_gIx, k_ix1, W_for, W_lc, W_lcS, W_next, W_miA, k_it_tup, k_it_lst, k_it_frz, W_def, k_def_rt, k_def_nx, W_callK, k_CK1, k_CK2, perm, List.filterMap_cons, List.filterMap_nil, and_self, W_f2I, W_addI, W_int, W_2L, W_is, W_lenT, W_lenL, W_lenF, W_tupleT, W_tupleL, W_tupleF, k_body, k_loop_nx, k_loop_ct, k_loop_bk, k_loop_rt, k_lc1, k_lc2_t, k_lc2_f, List.map_cons, List.map_nil, List.length_cons, List.length_nil, List.reduceReplicate, Nat.reduceSub, Nat.reduceAdd, Int.reduceAdd, Int.reduceSub, Int.reduceMul, Int.reduceNeg, Int.reduceLT, Int.reduceLE, Int.reduceEq, Int.cast_ofNat_Int, Int.natCast_zero, Int.natCast_one, eq_self, decide_true, decide_false, Bool.and_true, Bool.true_and, Bool.false_and, Bool.and_false, Nat.zero_add, List.replicate_zero, List.replicate_succ, List.cons_append, List.nil_append, List.append_nil, List.getElem?_cons_zero, List.getElem?_cons_succ, List.set_cons_zero, List.set_cons_succ, wipeD, Bool.not_true, Bool.not_false, if_true, if_false, reduceIte, isNon, Bool.false_eq_true, k_el, W_E, k_en_tup, k_en_lst, isi_int_i, isi_int_b, isi_int_n, isi_int_s, isi_int_t, isi_int_l, isi_bool_i, isi_bool_b, isi_bool_n, isi_bool_s, isi_bool_t, isi_bool_l, isi_tuple_i, isi_tuple_b, isi_tuple_n, isi_tuple_s, isi_tuple_t, isi_tuple_l, isi_list_i, isi_list_b, isi_list_n, isi_list_s, isi_list_t, isi_list_l, W_eq2I, W_intB, k_R1_eq, k_R2_eq, W_R1q, W_ixDT, W_ixDL, W_ixDF, k_opt, atI_lit, W_gTpT, W_gTpL, W_noPart, W_part, k_part, W_sl, k_sl1, k_sl2, k_sl3T, k_sl3L, W_revT, W_revL, W_meth, k_meth2, W_prop, W_make, k_make, k_made, W_sFld, k_fldS1, W_app, W_bits, W_gSt, k_st1, W_gSl, k_gsl1, k_gsl2, W_rgT, W_rgL, W_rgS, W_rg1, k_rg1, W_miS, k_itS, W_E2, k_en2_tup, k_en2_lst, k_en2_frz, W_par, k_par, W_par3, k_par3, W_dct0, W_disp, W_pnil, W_pcons, k_ps1, k_ps2, k_ps3, W_dc, k_dc1, k_dc2_t, k_dc2_f, k_dc3, k_dc4, isi_str_i, isi_str_b, isi_str_n, isi_str_s, isi_str_t, isi_str_l, W_metL, k_metL, W_err, k_err, W_callC, W_ifC, W_ifEC, W_isiEn, W_try, W_raise, k_raise, W_catL, lsOf_lst, $ts,*])
local macro_rules | `(tactic| simp_arith) => `(tactic| simp_arith [])
section
set_option maxHeartbeats 1000000
variable {Q : D → Store → Prop} {QA : List D → Store → Prop} {QS : Fl × Rho → Store → Prop} {E : Er → Store → Prop} {S : Store} {ρ : Rho}
section
variable {S0 : Store} {n B : Nat} {b : Int} {R : MS0} {ds : List D}
theorem part01 {w : Int} (hp : Pu S n b) (hbb : b < 2 ^ 39) (hB2 : B ≤ 100) (hl : ds.length ≤ B) (hpos : 0 < ds.length) (hk : ∀ e ∈ ds, Kn S B 2 e)
    (hq : ∀ nr (at' : Int) S', PW n S (b + 1) S' → S'[nr]? = some (.lst ds) → S.length ≤ nr → (∀ e ∈ ds, Kn S' B 2 e) → 0 ≤ at' → at' < ds.length → W (R [some (.ref n), some (.ref nr), some (.int w), some (.int at'), none] S') QS E) :
    W (sSeq (sAsg (mCall (frS lList) (mCons (mVar 1) mNil)) (gN 1)) (sSeq (sAsg (mCall m__law_draw (mCons (mVar 0) (mCons (mCall fLen (mCons (mVar 1) mNil)) mNil))) (gN 3)) R) [some (.ref n), some (.tup ds), some (.int w), none, none] S) QS E := by
  have hn := Pu.len hp
  simp_arith []
  rw [W_frS (show lList [D.tup ds] S = some ds from rfl)]
  simp_arith []
  have x3 : Ext S (S ++ [O.lst ds]) := Ext.app
  have hw3 : (S ++ [O.lst ds])[S.length]? = some (.lst ds) := at_end
  have hne : S.length ≠ n := by omega
  have hle : S.length ≤ S.length := Nat.le_refl _
  generalize S ++ [O.lst ds] = S3 at x3 hw3 ⊢
  generalize hnr : S.length = nr at hw3 hne ⊢
  have p3 := (PW.refl hp).ext x3
  rw [W_lenS hw3]
  simp_arith []
  refine (W_drawP (PW.refl p3.1) (by omega) (by omega) (by omega)).mono fun y S4 hy => ?_
  obtain ⟨r, rfl, r0, r1, h4⟩ := hy
  simp_arith []
  exact hq nr r S4 (p3.trans h4) (h4.at hw3 hne) (by omega) (fun e he => ((hk e he).ext x3).pw h4) r0 r1
theorem part3 {w at' : Int} {v : D} {v4 : Option D} {es : List D} {C : Nat} (hp : PW n S0 b S) (hbb : b < 2 ^ 39) (hv : LV S n v es) (hl : es.length ≤ C) (hk : ∀ e ∈ es, Kn S C 2 e) (hq : ∀ y S', PW n S0 (b + 1) S' → Kn S' C 3 y → Q y S') :
    W ((sRet (mOp fIxD (mLst (mCons (mCall fTuple (mCons (mVar 1) mNil)) (mCons (mVar 1) mNil))) (mCall fInt (mCons (mOp (fEq2 false) (mCall m__law_draw (mCons (mVar 0) (mCons (mC (.int 12)) mNil))) (mC (.int 0))) mNil)))) [some (.ref n), some v, some (.int w), some (.int at'), v4] S) (kDef Q) E := by
  have hk1 : ∀ S', PW n S (b + 1) S' → Kn S' C 3 (.tup es) := fun S' h => .tup hl fun e he => (hk e he).pw h
  have hk2 : ∀ S', PW n S (b + 1) S' → Kn S' C 3 v := fun S' h => by
    rcases hv with rfl | ⟨i, rfl, hi, hin⟩
    · exact .lst hl fun e he => (hk e he).pw h
    · exact .ref (.inl ⟨_, h.at hi hin⟩)
  have tup : ∀ {Q : D → Store → Prop}, Q (.tup es) S → W (fTuple [v] S) Q E := fun hq => by
    rcases hv with rfl | ⟨i, rfl, hi, hin⟩
    · exact hq
    · rw [W_tupS hi]
      exact hq
  simp_arith []
  refine tup ?_
  simp_arith []
  refine (W_drawP (PW.refl hp.1) (by omega) (by decide) (by decide)).mono fun y S4 hy => ?_
  obtain ⟨r, rfl, r0, r1, h4⟩ := hy
  simp_arith []
  by_cases hr : r = 0
  · rw [decide_eq_true hr]
    simp_arith []
    exact hq _ S4 (hp.trans h4) (hk2 S4 h4)
  · rw [decide_eq_false hr]
    simp_arith []
    exact hq _ S4 (hp.trans h4) (hk1 S4 h4)
theorem W_bentpart {w : Int} (hp : Pu S n b) (hbb : b < 2 ^ 38) (hB : 1 ≤ B) (hB2 : B ≤ 100) (hl : ds.length ≤ B) (hpos : 0 < ds.length) (hk : ∀ e ∈ ds, Kn S B 2 e) (hq : ∀ y S', PW n S (b + 4) S' → Kn S' (2 * B + 2) 3 y → Q y S') : W (m__law_bent_part [.ref n, .tup ds, .int w] S) Q E := by
  have hn := Pu.len hp
  unfold m__law_bent_part
  rw [W_def]
  refine part01 hp (by omega) hB2 hl hpos hk fun nr at' S1 h1 hr hle hk1 a0 a1 => ?_
  refine part2 h1 (by omega) hr hle hn hB hB2 hl hk1 a0 a1 fun v v4 es S2 g1 g2 g3 g4 => ?_
  exact part3 g4 (by omega) g1 g2 g3 fun y S3 h3 hy => hq y S3 (h3.mono (by omega)) hy
end
end
end MM

/-! the law, by hand -/
namespace MM
open PySem L2 PyProof.Rows
local macro_rules | `(tactic| simp_arith [$ts,*]) => `(tactic| simp -implicitDefEqProofs only [W_ok, W_var, k_var, W_c, W_op, k_op1, k_op2, W_un, k_un, W_nil, W_cons, k_cons1, k_cons2, W_call, k_call, W_tup, k_tup, W_lst, k_lst, W_lstS, k_lstS, W_seq, k_seq_nx, k_seq_rt, k_seq_bk, k_seq_ct, W_expr, k_expr, W_ret, k_ret, W_retN, W_nx, W_bk, W_ct, W_if, k_if_t, k_if_f, W_ifE, k_ifE_t, k_ifE_f, W_b, k_b, W_andT, k_andT_t, k_andT_f, W_orT, k_orT_t, k_orT_f, W_notT, k_notT, W_yes, W_andV, k_andV_t, k_andV_f, W_orV, k_orV_t, k_orV_f, W_notV, k_notV, W_cmpC, k_cmp1, k_cmp2, k_cmp3_t, k_cmp3_f, W_asg, k_asg, k_asg2, W_gN, W_gsNil, W_gsCons, k_gs, W_gTp, W_gIx, k_ix1, W_for, W_lc, W_lcS, W_next, W_miA, k_it_tup, k_it_lst, k_it_frz, W_def, k_def_rt, k_def_nx, W_callK, k_CK1, k_CK2, perm, List.filterMap_cons, List.filterMap_nil, and_self, W_f2I, W_addI, W_int, W_2L, W_is, W_lenT, W_lenL, W_lenF, W_tupleT, W_tupleL, W_tupleF, k_body, k_loop_nx, k_loop_ct, k_loop_bk, k_loop_rt, k_lc1, k_lc2_t, k_lc2_f, List.map_cons, List.map_nil, List.length_cons, List.length_nil, List.reduceReplicate, Nat.reduceSub, Nat.reduceAdd, Int.reduceAdd, Int.reduceSub, Int.reduceMul, Int.reduceNeg, Int.reduceLT, Int.reduceLE, Int.reduceEq, Int.cast_ofNat_Int, Int.natCast_zero, Int.natCast_one, eq_self, decide_true, decide_false, Bool.and_true, Bool.true_and, Bool.false_and, Bool.and_false, Nat.zero_add, List.replicate_zero, List.replicate_succ, List.cons_append, List.nil_append, List.append_nil, List.getElem?_cons_zero, List.getElem?_cons_succ, List.set_cons_zero, List.set_cons_succ, wipeD, Bool.not_true, Bool.not_false, if_true, if_false, reduceIte, isNon, Bool.false_eq_true, k_el, W_E, k_en_tup, k_en_lst, isi_int_i, isi_int_b, isi_int_n, isi_int_s, isi_int_t, isi_int_l, isi_bool_i, isi_bool_b, isi_bool_n, isi_bool_s, isi_bool_t, isi_bool_l, isi_tuple_i, isi_tuple_b, isi_tuple_n, isi_tuple_s, isi_tuple_t, isi_tuple_l, isi_list_i, isi_list_b, isi_list_n, isi_list_s, isi_list_t, isi_list_l, W_eq2I, W_intB, k_R1_eq, k_R2_eq, W_R1q, W_ixDT, W_ixDL, W_ixDF, k_opt, atI_lit, W_gTpT, W_gTpL, W_noPart, W_part, k_part, W_sl, k_sl1, k_sl2, k_sl3T, k_sl3L, W_revT, W_revL, W_meth, k_meth2, W_prop, W_make, k_make, k_made, W_sFld, k_fldS1, W_app, W_bits, W_gSt, k_st1, W_gSl, k_gsl1, k_gsl2, W_rgT, W_rgL, W_rgS, W_rg1, k_rg1, W_miS, k_itS, W_E2, k_en2_tup, k_en2_lst, k_en2_frz, W_par, k_par, W_par3, k_par3, W_dct0, W_disp, W_pnil, W_pcons, k_ps1, k_ps2, k_ps3, W_dc, k_dc1, k_dc2_t, k_dc2_f, k_dc3, k_dc4, isi_str_i, isi_str_b, isi_str_n, isi_str_s, isi_str_t, isi_str_l, W_metL, k_metL, W_err, k_err, W_callC, W_ifC, W_ifEC, W_isiEn, W_try, W_raise, k_raise, W_catL, lsOf_lst, $ts,*])
local macro_rules | `(tactic| simp_arith) => `(tactic| simp_arith [])
section
set_option maxHeartbeats 1000000
variable {Q : D → Store → Prop} {QA : List D → Store → Prop} {QS : Fl × Rho → Store → Prop} {E : Er → Store → Prop} {S : Store} {ρ : Rho}
theorem W_dispA (hq : Q (.ref S.length) (S ++ [.dct [(.inr "a", .int 1)]])) : kDisp Q S.length [(.str "a", .int 1)] (S ++ [.dct []]) := by
  rw [k_disp (kvs := [(.inr "a", .int 1)]) rfl at_end (by decide)]
  have : ∀ o o' : O, (S ++ [o]).set S.length o' = S ++ [o'] := fun o o' => by
    rw [List.set_append_right _ _ (Nat.le_refl _), Nat.sub_self]
    rfl
  rw [this]
  exact hq
section
variable {S0 : Store} {n B : Nat} {b : Int} {R : MS0}
def wholes (nr nd : Nat) (x y z : D) : List D := [.tup [x, y], .tup [x, y, z, .int 0], .ref nr, .non, .tup [], .str "machine", .int 7, .ref nd, .tup [x, z, y]]
theorem wholes_kn {nr nd : Nat} {x y z : D} {ds : List D} (hB : 4 ≤ B) (hx : Kn S B 3 x) (hy : Kn S B 3 y) (hz : Kn S B 3 z) (hr : S[nr]? = some (.lst ds)) {kvs : List (Key × D)} (hd : S[nd]? = some (.dct kvs)) : ∀ v ∈ wholes nr nd x y z, Kn S B 4 v := by
  have three : ∀ {a c e : D}, Kn S B 3 a → Kn S B 3 c → Kn S B 3 e → Kn S B 4 (.tup [a, c, e]) := fun ha hc he => .tup (by show 3 ≤ B; omega) fun v hv => by
    rcases List.mem_cons.mp hv with rfl | hv
    · exact ha
    rcases List.mem_cons.mp hv with rfl | hv
    · exact hc
    rw [List.mem_singleton.mp hv]
    exact he
  unfold wholes
  refine List.forall_mem_cons.mpr ⟨.tup (by show 2 ≤ B; omega) fun v hv => ?_, ?_⟩
  · rcases List.mem_cons.mp hv with rfl | hv
    · exact hx
    rw [List.mem_singleton.mp hv]
    exact hy
  refine List.forall_mem_cons.mpr ⟨.tup (by show 4 ≤ B; omega) fun v hv => ?_, ?_⟩
  · rcases List.mem_cons.mp hv with rfl | hv
    · exact hx
    rcases List.mem_cons.mp hv with rfl | hv
    · exact hy
    rcases List.mem_cons.mp hv with rfl | hv
    · exact hz
    rw [List.mem_singleton.mp hv]
    exact .int
  refine List.forall_mem_cons.mpr ⟨.ref (.inl ⟨_, hr⟩), ?_⟩
  refine List.forall_mem_cons.mpr ⟨.non, ?_⟩
  refine List.forall_mem_cons.mpr ⟨.tup (Nat.zero_le _) (fun _ z => (List.not_mem_nil z).elim), ?_⟩
  refine List.forall_mem_cons.mpr ⟨.str, ?_⟩
  refine List.forall_mem_cons.mpr ⟨.int, ?_⟩
  refine List.forall_mem_cons.mpr ⟨.ref (.inr ⟨_, hd⟩), ?_⟩
  refine List.forall_mem_cons.mpr ⟨three hx hz hy, ?_⟩
  exact fun _ z => (List.not_mem_nil z).elim
theorem bent012 {x y z : D} (hp : Pu S n b) (hbb : b < 2 ^ 38) (hk : ∀ e ∈ [x, y, z], Kn S B 3 e)
    (hq : ∀ nr way which S', PW n S (b + 2) S' → S'[nr]? = some (.lst [x, y, z]) → S.length ≤ nr → (∀ e ∈ [x, y, z], Kn S' B 3 e) → (which = 1 ∨ which = 2) → W (R [some (.ref n), some (.tup [x, y, z]), some (.ref nr), some (.int way), some (.int which), none] S') QS E) :
    W (sSeq (sAsg (mCall (frS lList) (mCons (mVar 1) mNil)) (gN 2)) (sSeq (sAsg (mCall m__law_draw (mCons (mVar 0) (mCons (mC (.int 8)) mNil))) (gN 3)) (sSeq (sAsg (mOp fAdd (mC (.int 1)) (mCall m__law_draw (mCons (mVar 0) (mCons (mC (.int 2)) mNil)))) (gN 4)) R)) [some (.ref n), some (.tup [x, y, z]), none, none, none, none] S) QS E := by
  have hn := Pu.len hp
  simp_arith []
  rw [W_frS (show lList [D.tup [x, y, z]] S = some [x, y, z] from rfl)]
  simp_arith []
  have x3 : Ext S (S ++ [O.lst [x, y, z]]) := Ext.app
  have hw3 : (S ++ [O.lst [x, y, z]])[S.length]? = some (.lst [x, y, z]) := at_end
  have hne : S.length ≠ n := by omega
  generalize S ++ [O.lst [x, y, z]] = S3 at x3 hw3 ⊢
  generalize hnr : S.length = nr at hw3 hne ⊢
  have p3 := (PW.refl hp).ext x3
  refine (W_drawP (PW.refl p3.1) (by omega) (by decide) (by decide)).mono fun w S4 hy => ?_
  obtain ⟨way, rfl, r0, r1, h4⟩ := hy
  simp_arith []
  refine (W_drawP (PW.refl h4.1) (by omega) (by decide) (by decide)).mono fun w S5 hy => ?_
  obtain ⟨q, rfl, q0, q1, h5⟩ := hy
  simp_arith []
  exact hq nr way (1 + q) S5 ((p3.trans (h4.trans h5)).mono (by omega)) (h5.at (h4.at hw3 hne) hne) (by omega) (fun e he => (((hk e he).ext x3).pw h4).pw h5) (by omega)
theorem bent3 {x y z : D} {nr : Nat} {way which : Int} (hp : PW n S0 b S) (hbb : b < 2 ^ 38) (hB : 4 ≤ B) (hB2 : B ≤ 100) (hr : S[nr]? = some (.lst [x, y, z])) (hle : S0.length ≤ nr) (hn : n < S0.length) (hk : ∀ e ∈ [x, y, z], Kn S B 3 e) (hw : which = 1 ∨ which = 2)
    (hd : ∀ v S', PW n S0 (b + 4) S' → Kn S' (2 * B + 2) 4 v → Q v S')
    (hq : W (R [some (.ref n), some (.tup [x, y, z]), some (.ref nr), some (.int way), some (.int which), none] S) (kDef Q) E) :
    W (sSeq (sIf (mAndT (mB (mOp fLtI (mVar 3) (mC (.int 5)))) (mAndT (mB (mUn (fIsi "tuple") (mOp fIxD (mVar 2) (mVar 4)))) (mB (mOp (fEm true) (mOp fIxD (mVar 2) (mVar 4)) (mTup mNil))))) (sSeq (sAsg (mCall m__law_bent_part (mCons (mVar 0) (mCons (mOp fIxD (mVar 2) (mVar 4)) (mCons (mVar 3) mNil)))) (gSt (mVar 2) (mVar 4)))
  (sRet (mCall fTuple (mCons (mVar 2) mNil)))) sNx) R [some (.ref n), some (.tup [x, y, z]), some (.ref nr), some (.int way), some (.int which), none] S) (kDef Q) E := by
  have hne : nr ≠ n := by omega
  have w0 : 0 ≤ which := by omega
  have w1 : which < ([x, y, z] : List D).length := by show which < 3; omega
  obtain ⟨p, hpm, ep⟩ := atI_mem (ds := [x, y, z]) w0 w1
  have kp := hk p hpm
  simp_arith []
  by_cases h5 : way < 5
  · rw [decide_eq_true h5]
    simp_arith []
    rw [W_ixDS hr, ep]
    simp_arith []
    rw [W_isTp kp]
    cases ht : isTp p with
    | false =>
      simp_arith []
      exact hq
    | true =>
      obtain ⟨ds, rfl⟩ := tp_tup ht
      simp_arith []
      rw [W_ixDS hr, ep]
      simp_arith []
      rw [W_emT]
      cases hem : ds.isEmpty with
      | true =>
        simp_arith []
        exact hq
      | false =>
        simp_arith []
        rw [W_ixDS hr, ep]
        simp_arith []
        have kp' := kp
        cases kp' with
        | tup d1 d2 =>
        have upos : 0 < ds.length := by
          cases ds with
          | nil => cases hem
          | cons _ _ => exact Nat.succ_pos _
        refine W_bentpart hp.1 hbb (by omega) hB2 d1 upos d2 fun v S1 h1 hv => ?_
        have hr1 := h1.at hr hne
        simp_arith []
        rw [k_st2L hr1 (ixN_in w0 w1)]
        simp_arith []
        rw [W_tupS (set_at hr1)]
        simp_arith []
        refine hd _ _ ((hp.trans h1).set_new hle (by omega)) (.tup (by rw [List.length_set]; show 3 ≤ 2 * B + 2; omega) fun e he => ?_)
        rcases mem_set he with h | rfl
        · exact (((hk e h).pw h1).mono (by omega) (Nat.le_refl _)).set
        · exact hv.set
  · rw [decide_eq_false h5]
    simp_arith []
    exact hq
theorem bent4 {x y z : D} {nr : Nat} {way which : Int} (hp : PW n S0 b S) (hbb : b < 2 ^ 38) (hB : 4 ≤ B) (hB2 : B ≤ 100) (hr : S[nr]? = some (.lst [x, y, z])) (hle : S0.length ≤ nr) (hn : n < S0.length) (hk : ∀ e ∈ [x, y, z], Kn S B 3 e)
    (hd : ∀ v S', PW n S0 (b + 2) S' → Kn S' (2 * B + 2) 4 v → Q v S')
    (hq : W (R [some (.ref n), some (.tup [x, y, z]), some (.ref nr), some (.int way), some (.int which), none] S) (kDef Q) E) :
    W (sSeq (sIf (mB (mOp fLtI (mVar 3) (mC (.int 7)))) (sSeq (sAsg (mCall m__law_draw (mCons (mVar 0) (mCons (mC (.int 3)) mNil))) (gN 4))
  (sSeq (sAsg (mCall m__law_odd (mCons (mVar 0) (mCons (mIfE (mB (mUn (fIsi "tuple") (mOp fIxD (mVar 2) (mC (.int 1))))) (mCall fLen (mCons (mOp fIxD (mVar 2) (mC (.int 1))) mNil)) (mC (.int 1))) mNil))) (gSt (mVar 2) (mVar 4)))
  (sRet (mCall fTuple (mCons (mVar 2) mNil))))) sNx) R [some (.ref n), some (.tup [x, y, z]), some (.ref nr), some (.int way), some (.int which), none] S) (kDef Q) E := by
  have hne : nr ≠ n := by omega
  simp_arith []
  by_cases h5 : way < 7
  · rw [decide_eq_true h5]
    simp_arith []
    refine (W_drawP (PW.refl hp.1) (by omega) (by decide) (by decide)).mono fun w S1 hy => ?_
    obtain ⟨q, rfl, q0, q1, h1⟩ := hy
    have hr1 := h1.at hr hne
    have ky : Kn S1 B 3 y := (hk y (by simp)).pw h1
    have fin : ∀ m : Int, W (m__law_odd [.ref n, .int m] S1) (fun v S' => PW n S1 (b + 2) S' ∧ Kn S' B 1 v) E := fun m => W_odd h1.1 (by omega) (by omega) fun v S' h2 hv => ⟨h2.mono (by omega), hv⟩
    have rest : ∀ m : Int, ∀ v S2, PW n S1 (b + 2) S2 ∧ Kn S2 B 1 v → Q (.tup (([x, y, z] : List D).set q.toNat v)) (S2.set nr (.lst (([x, y, z] : List D).set q.toNat v))) := fun m v S2 ⟨h2, hv⟩ => by
      refine hd _ _ ((hp.trans (h1.trans h2)).set_new hle (by omega)) (.tup (by rw [List.length_set]; show 3 ≤ 2 * B + 2; omega) fun e he => ?_)
      rcases mem_set he with h | rfl
      · exact ((((hk e h).pw h1).pw h2).mono (by omega) (Nat.le_refl _)).set
      · exact (hv.mono (by omega) (by omega)).set
    simp_arith []
    rw [W_ixDS hr1]
    simp_arith []
    rw [W_isTp ky]
    cases ht : isTp y with
    | true =>
      obtain ⟨rs, rfl⟩ := tp_tup ht
      simp_arith []
      rw [W_ixDS hr1]
      simp_arith []
      refine (fin _).mono fun v S2 h2 => ?_
      have hr2 := h2.1.at hr1 hne
      simp_arith []
      rw [k_st2L hr2 (ixN_in q0 q1)]
      simp_arith []
      rw [W_tupS (set_at hr2)]
      simp_arith []
      exact rest 0 v S2 h2
    | false =>
      simp_arith []
      refine (fin _).mono fun v S2 h2 => ?_
      have hr2 := h2.1.at hr1 hne
      simp_arith []
      rw [k_st2L hr2 (ixN_in q0 q1)]
      simp_arith []
      rw [W_tupS (set_at hr2)]
      simp_arith []
      exact rest 0 v S2 h2
  · rw [decide_eq_false h5]
    simp_arith []
    exact hq
theorem bent56 {x y z : D} {nr : Nat} {way which : Int} (hp : PW n S0 b S) (hbb : b < 2 ^ 38) (hB : 4 ≤ B) (hr : S[nr]? = some (.lst [x, y, z])) (hle : S0.length ≤ nr) (hn : n < S0.length) (hk : ∀ e ∈ [x, y, z], Kn S B 3 e)
    (hd : ∀ v S', PW n S0 (b + 2) S' → Kn S' (2 * B + 2) 4 v → Q v S') :
    W (sSeq (sAsg (mLst (mCons (mCall fTuple (mCons (mSl (mVar 2) mNoPart (mPart (mC (.int 2)))) mNil)) (mCons (mCall fTuple (mCons (mOp fCatL (mVar 2) (mLst (mCons (mC (.int 0)) mNil))) mNil)) (mCons (mVar 2) (mCons (mC .non) (mCons (mTup mNil) (mCons (mC (.str "machine")) (mCons (mC (.int 7)) (mCons (mDisp [((mC (.str "a")), (mC (.int 1)))]) mNil))))))))) (gN 5)) (sRet (mOp fIxD (mOp fAdd (mVar 5) (mLst (mCons (mTup (mCons (mOp fIxD (mVar 2) (mC (.int 0))) (mCons (mOp fIxD (mVar 2) (mC (.int 2))) (mCons (mOp fIxD (mVar 2) (mC (.int 1))) mNil)))) mNil))) (mCall m__law_draw (mCons (mVar 0) (mCons (mC (.int 9)) mNil))))) [some (.ref n), some (.tup [x, y, z]), some (.ref nr), some (.int way), some (.int which), none] S) (kDef Q) E := by
  have hne : nr ≠ n := by omega
  simp_arith []
  rw [k_sl3S hr]
  simp_arith []
  rw [cutD_lo (by decide), W_catL (lsOf_ref hr) lsOf_lst (by simp only [List.length_cons, List.length_nil]; decide)]
  simp_arith []
  refine W_dispA ?_
  have x1 : Ext S (S ++ [O.dct [(.inr "a", .int 1)]]) := Ext.app
  have hd1 : (S ++ [O.dct [(.inr "a", .int 1)]])[S.length]? = some (.dct [(.inr "a", .int 1)]) := at_end
  have hdn : S.length ≠ n := by have := hp.2.1; omega
  generalize S ++ [O.dct [(.inr "a", .int 1)]] = S1 at x1 hd1 ⊢
  generalize S.length = nd at hd1 hdn ⊢
  have hr1 := x1.at hr
  have p1 := hp.ext x1
  simp_arith []
  rw [W_ixDS hr1]
  simp_arith []
  rw [W_ixDS hr1]
  simp_arith []
  rw [W_ixDS hr1]
  simp_arith []
  rw [W_addL (by simp only [List.length_cons, List.length_nil]; decide)]
  simp_arith []
  refine (W_drawP (PW.refl p1.1) (by omega) (by decide) (by decide)).mono fun w S2 hy => ?_
  obtain ⟨q, rfl, q0, q1, h2⟩ := hy
  obtain ⟨v, hv, e⟩ := atI_mem (ds := wholes nr nd x y z) q0 q1
  simp_arith []
  have hkk : ∀ e ∈ [x, y, z], Kn S2 B 3 e := fun e he => ((hk e he).ext x1).pw h2
  have := (wholes_kn hB (hkk x (by simp)) (hkk y (by simp)) (hkk z (by simp)) (h2.at hr1 hne) (h2.at hd1 hdn) v hv).mono (B' := 2 * B + 2) (by omega) (Nat.le_refl _)
  have hfin := hd v S2 ((p1.trans h2).mono (by omega)) this
  unfold wholes at e
  rw [show ([x, y, z] : List D).take (Int.toNat 2) = [x, y] from rfl]
  rw [e]
  simp_arith []
  exact hfin
theorem W_bent {ds : List D} (hl : ds.length = 3) (hp : Pu S n b) (hbb : b < 2 ^ 37) (hB : 4 ≤ B) (hB2 : B ≤ 100) (hk : Kn S B 4 (.tup ds)) (hq : ∀ v S', PW n S (b + 20) S' → Kn S' (2 * B + 2) 4 v → Q v S') : W (m__law_bent [.ref n, .tup ds] S) Q E := by
  have hn := Pu.len hp
  match ds, hl with
  | [x, y, z], _ =>
  cases hk with
  | tup h1 h2 =>
  unfold m__law_bent
  rw [W_def]
  refine bent012 hp (by omega) h2 fun nr way which S1 p1 hr hle hk1 hw => ?_
  refine bent3 p1 (by omega) hB hB2 hr hle hn hk1 hw (fun v S' h hv => hq v S' (h.mono (by omega)) hv) ?_
  refine bent4 p1 (by omega) hB hB2 hr hle hn hk1 (fun v S' h hv => hq v S' (h.mono (by omega)) hv) ?_
  exact bent56 p1 (by omega) hB hr hle hn hk1 (fun v S' h hv => hq v S' (h.mono (by omega)) hv)
end
end
end MM

/-! the law, by hand -/
namespace MM
open PySem L2 PyProof.Rows
local macro_rules | `(tactic| simp_arith [$ts,*]) => `(tactic| simp -implicitDefEqProofs only [W_ok, W_var, k_var, W_c, W_op, k_op1, k_op2, W_un, k_un, W_nil, W_cons, k_cons1, k_cons2, W_call, k_call, W_tup, k_tup, W_lst, k_lst, W_lstS, k_lstS, W_seq, k_seq_nx, k_seq_rt, k_seq_bk, k_seq_ct, W_expr, k_expr, W_ret, k_ret, W_retN, W_nx, W_bk, W_ct, W_if, k_if_t, k_if_f, W_ifE, k_ifE_t, k_ifE_f, W_b, k_b, W_andT, k_andT_t, k_andT_f, W_orT, k_orT_t, k_orT_f, W_notT, k_notT, W_yes, W_andV, k_andV_t, k_andV_f, W_orV, k_orV_t, k_orV_f, W_notV, k_notV, W_cmpC, k_cmp1, k_cmp2, k_cmp3_t, k_cmp3_f, W_asg, k_asg, k_asg2, W_gN, W_gsNil, W_gsCons, k_gs, W_gTp, W_gIx, k_ix1, W_for, W_lc, W_lcS, W_next, W_miA, k_it_tup, k_it_lst, k_it_frz, W_def, k_def_rt, k_def_nx, W_callK, k_CK1, k_CK2, perm, List.filterMap_cons, List.filterMap_nil, and_self, W_f2I, W_addI, W_int, W_2L, W_is, W_lenT, W_lenL, W_lenF, W_tupleT, W_tupleL, W_tupleF, k_body, k_loop_nx, k_loop_ct, k_loop_bk, k_loop_rt, k_lc1, k_lc2_t, k_lc2_f, List.map_cons, List.map_nil, List.length_cons, List.length_nil, List.reduceReplicate, Nat.reduceSub, Nat.reduceAdd, Int.reduceAdd, Int.reduceSub, Int.reduceMul, Int.reduceNeg, Int.reduceLT, Int.reduceLE, Int.reduceEq, Int.cast_ofNat_Int, Int.natCast_zero, Int.natCast_one, eq_self, decide_true, decide_false, Bool.and_true, Bool.true_and, Bool.false_and, Bool.and_false, Nat.zero_add, List.replicate_zero, List.replicate_succ, List.cons_append, List.nil_append, List.append_nil, List.getElem?_cons_zero, List.getElem?_cons_succ, List.set_cons_zero, List.set_cons_succ, wipeD, Bool.not_true, Bool.not_false, if_true, if_false, reduceIte, isNon, Bool.false_eq_true, k_el, W_E, k_en_tup, k_en_lst, isi_int_i, isi_int_b, isi_int_n, isi_int_s, isi_int_t, isi_int_l, isi_bool_i, isi_bool_b, isi_bool_n, isi_bool_s, isi_bool_t, isi_bool_l, isi_tuple_i, isi_tuple_b, isi_tuple_n, isi_tuple_s, isi_tuple_t, isi_tuple_l, isi_list_i, isi_list_b, isi_list_n, isi_list_s, isi_list_t, isi_list_l, W_eq2I, W_intB, k_R1_eq, k_R2_eq, W_R1q, W_ixDT, W_ixDL, W_ixDF, k_opt, atI_lit, W_gTpT, W_gTpL, W_noPart, W_part, k_part, W_sl, k_sl1, k_sl2, k_sl3T, k_sl3L, W_revT, W_revL, W_meth, k_meth2, W_prop, W_make, k_make, k_made, W_sFld, k_fldS1, W_app, W_bits, W_gSt, k_st1, W_gSl, k_gsl1, k_gsl2, W_rgT, W_rgL, W_rgS, W_rg1, k_rg1, W_miS, k_itS, W_E2, k_en2_tup, k_en2_lst, k_en2_frz, W_par, k_par, W_par3, k_par3, W_dct0, W_disp, W_pnil, W_pcons, k_ps1, k_ps2, k_ps3, W_dc, k_dc1, k_dc2_t, k_dc2_f, k_dc3, k_dc4, isi_str_i, isi_str_b, isi_str_n, isi_str_s, isi_str_t, isi_str_l, W_metL, k_metL, W_err, k_err, W_callC, W_ifC, W_ifEC, W_isiEn, W_try, W_raise, k_raise, W_catL, lsOf_lst, $ts,*])
local macro_rules | `(tactic| simp_arith) => `(tactic| simp_arith [])
section
set_option maxHeartbeats 1000000
variable {Q : D → Store → Prop} {QA : List D → Store → Prop} {QS : Fl × Rho → Store → Prop} {E : Er → Store → Prop} {S : Store} {ρ : Rho}
inductive Fm : D → Prop
  | form : Fm (.tup [.str "form"])
  | steps {i : Nat} : Fm (.tup [.str "steps", .int i])
  | answers : Fm (.tup [.str "answers"])
  | start : Fm (.tup [.str "start"])
  | non : Fm .non
theorem fault_form {d : D} {s : Int} : Fm (faultD d s) := by
  unfold faultD
  split
  · unfold fault3
    split
    · unfold faultP
      split
      · split
        · unfold faultC
          split
          · exact .form
          · split
            · exact .steps
            · split
              · split
                · exact .non
                · exact .start
              · exact .answers
        · exact .form
      · exact .form
    · exact .form
  · exact .form
theorem fm_flat : flat 64 (.tup [.str "form"]) = true ∧ flat 64 (.tup [.str "answers"]) = true ∧ flat 64 (.tup [.str "start"]) = true ∧ PyData.strOk "steps" = true := by decide +kernel
theorem W_fmEq {f : D} (h : Fm f) : W (fEq2 true f f S) Q E = Q (.bl false) S := by
  obtain ⟨f1, f2, f3, f4⟩ := fm_flat
  have fl : flat 64 f = true := by
    cases h with
    | form => exact f1
    | answers => exact f2
    | start => exact f3
    | non => rfl
    | steps =>
      unfold flat flatL flatL flatL flat
      rw [f4]
      rfl
  have nb : noB f = true := by
    cases h <;> rfl
  rw [W_eq2F fl fl, (eqD_iff nb nb).mpr rfl]
  rfl
theorem W_four {a b c d : Bool} : W (fEq2 false (.lst [.bl a, .bl b, .bl c, .bl d]) (.lst [.bl false, .bl false, .bl false, .bl false]) S) Q E = Q (.bl (!a && !b && !c && !d)) S := by
  cases a <;> cases b <;> cases c <;> cases d <;> (rw [W_eq2F rfl rfl]; rfl)
theorem W_size1 {n : Int} (h1 : 1 ≤ n) (h2 : n ≤ 4) : m_require_size [.int n] S = .ok .non S := by
  have : n = 1 ∨ n = 2 ∨ n = 3 ∨ n = 4 := by omega
  rcases this with rfl | rfl | rfl | rfl <;> rfl
theorem W_check {B m : Nat} {d : D} {size : Int} (h1 : 1 ≤ size) (h2 : size ≤ 4) (h : Kn S B (m + 4) d) (hB : B < 1000) (hq : Q (faultD d size) S) : W (m_check_machine [d, .int size] S) Q E := by
  unfold m_check_machine
  simp_arith []
  rw [W_r (W_size1 h1 h2)]
  simp_arith []
  refine W_fault h hB ?_
  simp_arith []
  exact hq
def bnd : Nat → Nat
  | 0 => 4
  | 1 => 10
  | _ => 22
theorem bnd_ok {i : Nat} (h : i < 2) : 4 ≤ bnd i ∧ bnd i ≤ 100 ∧ 2 * bnd i + 2 = bnd (i + 1) := by
  have : i = 0 ∨ i = 1 := by omega
  rcases this with rfl | rfl <;> decide
theorem bnd_le {i : Nat} : bnd i ≤ 100 := by
  unfold bnd
  split <;> decide
def lastD : D := .tup [.int 0, .tup [.tup [.int 0, .int 0], .tup [.int 0]], .tup [.int 0, .int 0]]
theorem last_kn : Kn S 100 4 lastD := by
  have ints0 : ∀ {ds : List D} {m : Nat}, ds.length ≤ 100 → (∀ x ∈ ds, x = .int 0) → Kn S 100 (m + 1) (.tup ds) := fun hl h => .tup hl fun x hx => by
    rw [h x hx]
    exact .int
  refine .tup (by decide) fun x hx => ?_
  rcases List.mem_cons.mp hx with rfl | hx
  · exact .int
  rcases List.mem_cons.mp hx with rfl | hx
  · refine .tup (by decide) fun x hx => ?_
    rcases List.mem_cons.mp hx with rfl | hx
    · exact ints0 (by decide) (by simp)
    · rw [List.mem_singleton.mp hx]
      exact ints0 (by decide) (by simp)
  · rw [List.mem_singleton.mp hx]
    exact ints0 (by decide) (by simp)
theorem last_due : faultD lastD 2 = .tup [.str "steps", .int 1] := by rfl
def nonB (d : D) : Bool := isNon d
def dueB (thing : D) : D → D := fun d => match d with
  | .int v => .bl (nonB (faultD thing v))
  | _ => .non
theorem law_run {ns : List Int} (hl : ns.length ≤ 63) : W (m_law [.frz (ns.map .int)] []) (fun d _ => d = .bl true) Er0 := by
  unfold m_law
  simp_arith [W_2L, List.length_map]
  refine ⟨by split <;> omega, by split <;> omega, ?_⟩
  generalize hm : Int.toNat (1 + if (ns.length : Int) < 6 then (ns.length : Int) else 6) = m
  have hm7 : m ≤ 7 := by rw [← hm]; split <;> omega
  generalize ([] : Store) = S0
  refine k_for (lst_R _ _) (by rw [length_rangeD]; unfold BIG; omega) (fun i ρ S' => ∃ a b c d e f g, ρ = [some (.frz (ns.map .int)), a, b, c, d, e, f, g, none]) ⟨_, _, _, _, _, _, _, rfl⟩ (fun i d ρ S1 hi hI => ?_) (fun ρ S1 hI => ?_)
  · obtain ⟨a, b, c, d1, e, f, g, rfl⟩ := hI
    obtain ⟨hi, rfl⟩ := rangeD_get hi
    simp_arith []
    refine (W_purse (by omega) (by omega)).mono fun d S2 h2 => ?_
    obtain ⟨o, rfl, rfl, hp⟩ := h2
    simp_arith []
    generalize S1.length = n at hp ⊢
    generalize S1 ++ [o] = S2 at hp ⊢
    refine ⟨by decide, by decide, ?_⟩
    have l5 : (rangeD 0 (Int.toNat 6)).length = 6 := by rw [length_rangeD]; rfl
    refine k_for (lst_R _ _) (by rw [l5]; decide) (fun j ρ S' => ∃ c d e f g, ρ = [some (.frz (ns.map .int)), some (.int (0 + i)), some (.ref n), c, d, e, f, g, none] ∧ Pu S' n (1000 * (0 + i) + j * 1000)) ⟨_, _, _, _, _, rfl, by simpa using hp⟩ (fun j d ρ S3 hj hI => ?_) (fun ρ S3 hI => ?_)
    · obtain ⟨c, d1, e, f, g, rfl, hp⟩ := hI
      have hj5 := (List.getElem?_eq_some_iff.mp hj).1
      rw [l5] at hj5
      obtain ⟨_, rfl⟩ := rangeD_get hj
      generalize hb : 1000 * (0 + (i : Int)) + j * 1000 = bb at hp
      simp_arith []
      refine (W_drawP (PW.refl hp) (by omega) (by decide) (by decide)).mono fun y S4 hy => ?_
      obtain ⟨q, rfl, q0, q1, h4⟩ := hy
      simp_arith []
      generalize hsz : 1 + q = size
      refine (W_machine (PW.refl h4.1) (by omega) (by omega) (by omega) (by decide) (by decide)).mono fun y S5 hy => ?_
      obtain ⟨s, rows, ans, rfl, M, hrl, h5⟩ := hy
      have p5 := h4.trans h5
      simp_arith []
      refine (W_drawP (PW.refl p5.1) (by omega) (by decide) (by decide)).mono fun y S6 hy => ?_
      obtain ⟨q', rfl, q0', q1', h6⟩ := hy
      have p6 := p5.trans h6
      simp_arith []
      refine ⟨by omega, by omega, ?_⟩
      have lb : (rangeD 0 (Int.toNat (1 + q'))).length ≤ 2 := by rw [length_rangeD]; omega
      refine k_for (lst_R _ _) (Nat.lt_of_le_of_lt lb (by decide)) (fun k ρ S' => k ≤ 2 ∧ ∃ thing g, ρ = [some (.frz (ns.map .int)), some (.int (0 + i)), some (.ref n), some (.int (0 + j)), some (.int size), some (machD s rows ans), some thing, g, none] ∧ Pu S' n (bb + 60 + k * 30) ∧ Kn S' (bnd k) 4 thing)
        ⟨Nat.zero_le _, _, _, rfl, by
          obtain ⟨x, y, z, e1, e2, e3, e4, e5, e6⟩ := p6.1
          exact ⟨x, y, z, e1, e2, e3, e4, e5, by omega⟩, (kn_mach (m := 0) M (by show size ≤ 4; omega) (by show rows.length ≤ 4; omega) (by decide)).mono (Nat.le_refl _) (by decide)⟩ (fun k d ρ S7 hk hI => ?_) (fun ρ S7 hI => ?_)
      · obtain ⟨_, thing, g, rfl, hp7, hkn⟩ := hI
        have hk2 := (List.getElem?_eq_some_iff.mp hk).1
        obtain ⟨b1, b2, b3⟩ := bnd_ok (i := k) (by omega)
        simp_arith []
        rw [W_isTp hkn]
        have pmono : Pu S7 n (bb + 60 + (k + 1 : Nat) * 30) := by
          obtain ⟨x, y, z, e1, e2, e3, e4, e5, e6⟩ := hp7
          exact ⟨x, y, z, e1, e2, e3, e4, e5, by omega⟩
        cases ht : isTp thing with
        | false =>
          simp_arith []
          exact ⟨by omega, _, _, rfl, pmono, hkn.mono (by omega) (Nat.le_refl _)⟩
        | true =>
          obtain ⟨ds, rfl⟩ := tp_tup ht
          simp_arith []
          by_cases h3 : ds.length = 3
          · rw [decide_eq_true (show (ds.length : Int) = 3 by omega)]
            simp_arith []
            refine W_bent h3 hp7 (by omega) b1 b2 hkn fun v S8 h8 hv => ?_
            simp_arith []
            refine ⟨by omega, _, _, rfl, (h8.mono (by omega)).1, ?_⟩
            rw [b3] at hv
            exact hv
          · rw [decide_eq_false (show ¬ ((ds.length : Int) = 3) by omega)]
            simp_arith []
            exact ⟨by omega, _, _, rfl, pmono, hkn.mono (by omega) (Nat.le_refl _)⟩
      · obtain ⟨hk2, thing, g, rfl, hp7, hkn0⟩ := hI
        have hkn : Kn S7 100 4 thing := hkn0.mono bnd_le (Nat.le_refl _)
        have hkn4 : Kn S7 100 (0 + 4) thing := hkn
        simp_arith []
        refine W_check (by omega) (by omega) hkn4 (by decide) ?_
        simp_arith []
        refine W_due hkn4 (by decide) ?_
        simp_arith []
        rw [W_fmEq fault_form]
        simp_arith []
        refine W_R2 ?_
        simp_arith []
        refine ⟨by decide, by decide, by decide, by decide, ?_⟩
        refine k_lc_map (lst_R _ _) (f := dueB thing) (by rw [length_rangeD]; decide) (fun x hx Y hY => ?_) ?_
        · obtain ⟨k, hk⟩ := List.mem_iff_getElem?.mp hx
          obtain ⟨_, rfl⟩ := rangeD_get hk
          simp_arith []
          refine W_due hkn4 (by decide) ?_
          simp_arith []
          exact hY
        · rw [show (rangeD 1 (Int.toNat 4)).map (dueB thing) = [.bl (nonB (faultD thing 1)), .bl (nonB (faultD thing 2)), .bl (nonB (faultD thing 3)), .bl (nonB (faultD thing 4))] from rfl]
          simp_arith []
          rw [W_mulL (by decide) (by decide) (by simp only [List.length_cons, List.length_nil]; decide), rep_one]
          rw [show List.replicate (Int.toNat 4) (D.bl false) = [.bl false, .bl false, .bl false, .bl false] from rfl]
          simp_arith []
          rw [W_four]
          generalize hall : (!nonB (faultD thing 1) && !nonB (faultD thing 2) && !nonB (faultD thing 3) && !nonB (faultD thing 4)) = al
          have pend : Pu S7 n (1000 * (0 + i) + (j + 1 : Nat) * 1000) := by
            obtain ⟨x, y, z, e1, e2, e3, e4, e5, e6⟩ := hp7
            have : (List.length (rangeD 0 (Int.toNat (1 + q'))) : Int) ≤ 2 := by omega
            exact ⟨x, y, z, e1, e2, e3, e4, e5, by omega⟩
          cases al with
          | false =>
            simp_arith []
            exact ⟨_, _, _, _, _, rfl, pend⟩
          | true =>
            simp_arith []
            have hbad : Bad thing := fun s' s0 s1 => by
              have : s' = 1 ∨ s' = 2 ∨ s' = 3 ∨ s' = 4 := by omega
              simp only [Bool.and_eq_true, Bool.not_eq_true'] at hall
              obtain ⟨⟨⟨a1, a2⟩, a3⟩, a4⟩ := hall
              rcases this with rfl | rfl | rfl | rfl
              · exact a1
              · exact a2
              · exact a3
              · exact a4
            refine W_doors M (by omega) (by omega) (by omega) hkn hbad hp7 (by omega) fun S8 h8 => ?_
            simp_arith []
            refine ⟨_, _, _, _, _, rfl, ?_⟩
            obtain ⟨x, y, z, e1, e2, e3, e4, e5, e6⟩ := h8.1
            have : (List.length (rangeD 0 (Int.toNat (1 + q'))) : Int) ≤ 2 := by omega
            exact ⟨x, y, z, e1, e2, e3, e4, e5, by omega⟩
    · obtain ⟨c, d1, e, f, g, rfl, hp⟩ := hI
      simp_arith []
      exact ⟨_, _, _, _, _, _, _, rfl⟩
  · obtain ⟨a, b, c, d1, e, f, g, rfl⟩ := hI
    simp_arith []
    have hk : Kn S1 100 (0 + 4) lastD := last_kn
    refine W_check (by decide) (by decide) hk (by decide) ?_
    rw [show faultD (D.tup [D.int 0, D.tup [D.tup [D.int 0, D.int 0], D.tup [D.int 0]], D.tup [D.int 0, D.int 0]]) 2 = .tup [.str "steps", .int 1] from last_due]
    simp_arith []
    rw [W_eq2F (by decide +kernel) (by decide +kernel), (eqD_iff (by rfl) (by rfl)).mpr rfl]
    rfl
theorem W_end {r : Res D} (h : W r (fun d _ => d = .bl true) Er0) : ∃ S, r = .ok (.bl true) S := by
  obtain ⟨a, S, e, ea⟩ := W.ex h
  subst ea
  exact ⟨S, e⟩
theorem law_holds : ∀ ns : List Int, ns.length ≤ 63 → (∀ z ∈ ns, PySem.Builtin.Int.intBits z ≤ 1048576) → ∃ S, m_law [.frz (ns.map .int)] [] = .ok (.bl true) S := fun ns h _ => W_end (law_run h)
end
end MM

open PySem PySem.W PyProof.Rows
set_option maxHeartbeats 0 in
theorem PySem.Challenge.cw_lazytags_k02_machines_checked_holds : PySem.Challenge.rw_lazytags_k02_machines_checked.Holds := by
  w_on; o_law; k_head; (case hw => w_witness2)
  k_fill
  refine MM.walk_mm (l := PySem.Challenge.rw_lazytags_k02_machines_checked) (n := 63) (k := 13) (x := "_law_script") (m := MM.m_law) rfl (by decide) rfl ⟨rfl, by decide, by decide⟩ (fun w h Y => PySem.W.kIn_of Y) ?F MM.law_holds
  case F =>
    intro w mg fa h Y KX G hmg N
    refine' MM.law_mk KX G N hmg ?a__law_purse ?l__law_purse ?c__law_purse ?k__law_purse ?a__law_mixed ?l__law_mixed ?c__law_mixed ?k__law_mixed ?a__law_draw ?l__law_draw ?c__law_draw ?k__law_draw ?a__law_machine ?l__law_machine ?c__law_machine ?k__law_machine ?a__law_odd ?l__law_odd ?c__law_odd ?k__law_odd ?a__law_bent_part ?l__law_bent_part ?c__law_bent_part ?k__law_bent_part ?a__law_bent ?l__law_bent ?c__law_bent ?k__law_bent ?a_is_integer ?l_is_integer ?c_is_integer ?k_is_integer ?a_require_size ?l_require_size ?c_require_size ?k_require_size ?a_is_row ?l_is_row ?c_is_row ?k_is_row ?a_fault_of ?l_fault_of ?c_fault_of ?k_fault_of ?a_check_machine ?l_check_machine ?c_check_machine ?k_check_machine ?a__law_int ?l__law_int ?c__law_int ?k__law_int ?a__law_ints ?l__law_ints ?c__law_ints ?k__law_ints ?a__law_due ?l__law_due ?c__law_due ?k__law_due ?a_size_of ?l_size_of ?c_size_of ?k_size_of ?g_size_of ?v_size_of ?h_size_of ?n_size_of ?q_size_of ?a_require_machine ?l_require_machine ?c_require_machine ?k_require_machine ?a_answer ?l_answer ?c_answer ?k_answer ?a_least_machine ?l_least_machine ?c_least_machine ?k_least_machine ?a_machines_parted ?l_machines_parted ?c_machines_parted ?k_machines_parted ?a_mapped ?l_mapped ?c_mapped ?k_mapped ?a_turned ?l_turned ?c_turned ?k_turned ?a__law_asked ?l__law_asked ?c__law_asked ?k__law_asked ?a__law_doors_right ?l__law_doors_right ?c__law_doors_right ?k__law_doors_right ?a_law ?l_law ?c_law ?k_law ?aC_InvalidMachine ?aC_InvalidMap ?aC_InvalidRow ?aC_InvalidSize ?aC_LazyError ?ox_InvalidMachine ?or_InvalidMachine ?sa_InvalidMachine ?eC_InvalidMachine ?tC_InvalidMachine ?kC_InvalidMachine ?na_InvalidMachine ?iC_InvalidMachine ?tI_InvalidMachine ?l_InvalidMachine__init ?lt_InvalidMachine__init ?lv_InvalidMachine__init ?c_InvalidMachine__init ?k_InvalidMachine__init ?ox_InvalidMap ?or_InvalidMap ?sa_InvalidMap ?eC_InvalidMap ?tC_InvalidMap ?kC_InvalidMap ?na_InvalidMap ?iC_InvalidMap ?tI_InvalidMap ?l_InvalidMap__init ?lt_InvalidMap__init ?lv_InvalidMap__init ?c_InvalidMap__init ?k_InvalidMap__init ?ox_InvalidRow ?or_InvalidRow ?sa_InvalidRow ?eC_InvalidRow ?tC_InvalidRow ?kC_InvalidRow ?na_InvalidRow ?iC_InvalidRow ?tI_InvalidRow ?l_InvalidRow__init ?lt_InvalidRow__init ?lv_InvalidRow__init ?c_InvalidRow__init ?k_InvalidRow__init ?ox_InvalidSize ?or_InvalidSize ?sa_InvalidSize ?eC_InvalidSize ?tC_InvalidSize ?kC_InvalidSize ?na_InvalidSize ?iC_InvalidSize ?tI_InvalidSize ?l_InvalidSize__init ?lt_InvalidSize__init ?lv_InvalidSize__init ?c_InvalidSize__init ?k_InvalidSize__init ?kit_cl_InvalidMachine ?ga_InvalidMachine ?gg_InvalidMachine ?hd_InvalidMachine ?ia_InvalidMachine ?ib_InvalidMachine ?ic_InvalidMachine ?id_InvalidMachine ?kit_InvalidMachine_InvalidMachine ?kit_InvalidMachine_InvalidMap ?kit_InvalidMachine_InvalidRow ?kit_InvalidMachine_InvalidSize ?kit_x_InvalidMachine_LazyError ?kit_cl_InvalidMap ?ga_InvalidMap ?gg_InvalidMap ?hd_InvalidMap ?ia_InvalidMap ?ib_InvalidMap ?ic_InvalidMap ?id_InvalidMap ?kit_InvalidMap_InvalidMachine ?kit_InvalidMap_InvalidMap ?kit_InvalidMap_InvalidRow ?kit_InvalidMap_InvalidSize ?kit_x_InvalidMap_LazyError ?kit_cl_InvalidRow ?ga_InvalidRow ?gg_InvalidRow ?hd_InvalidRow ?ia_InvalidRow ?ib_InvalidRow ?ic_InvalidRow ?id_InvalidRow ?kit_InvalidRow_InvalidMachine ?kit_InvalidRow_InvalidMap ?kit_InvalidRow_InvalidRow ?kit_InvalidRow_InvalidSize ?kit_x_InvalidRow_LazyError ?kit_cl_InvalidSize ?ga_InvalidSize ?gg_InvalidSize ?hd_InvalidSize ?ia_InvalidSize ?ib_InvalidSize ?ic_InvalidSize ?id_InvalidSize ?kit_InvalidSize_InvalidMachine ?kit_InvalidSize_InvalidMap ?kit_InvalidSize_InvalidRow ?kit_InvalidSize_InvalidSize ?kit_x_InvalidSize_LazyError ?kit_InvalidMachine_NoneType ?kit_InvalidMachine_bool ?kit_InvalidMachine_int ?kit_InvalidMachine_str ?kit_InvalidMachine_tuple ?kit_InvalidMachine_list ?kit_InvalidMachine_dict ?kit_InvalidMap_NoneType ?kit_InvalidMap_bool ?kit_InvalidMap_int ?kit_InvalidMap_str ?kit_InvalidMap_tuple ?kit_InvalidMap_list ?kit_InvalidMap_dict ?kit_InvalidRow_NoneType ?kit_InvalidRow_bool ?kit_InvalidRow_int ?kit_InvalidRow_str ?kit_InvalidRow_tuple ?kit_InvalidRow_list ?kit_InvalidRow_dict ?kit_InvalidSize_NoneType ?kit_InvalidSize_bool ?kit_InvalidSize_int ?kit_InvalidSize_str ?kit_InvalidSize_tuple ?kit_InvalidSize_list ?kit_InvalidSize_dict ?z_all ?z_bool ?z_enumerate ?z_int ?z_isinstance ?z_len ?z_list ?z_max ?z_min ?z_next ?z_range ?z_tuple ?y_MOST_ANSWER ?y_MOST_VALUES
    (case a__law_purse => k_is)
    (case l__law_purse => k_is)
    (case c__law_purse => k_is)
    (case k__law_purse => k_is)
    (case a__law_mixed => k_is)
    (case l__law_mixed => k_is)
    (case c__law_mixed => k_is)
    (case k__law_mixed => k_is)
    (case a__law_draw => k_is)
    (case l__law_draw => k_is)
    (case c__law_draw => k_is)
    (case k__law_draw => k_is)
    (case a__law_machine => k_is)
    (case l__law_machine => k_is)
    (case c__law_machine => k_is)
    (case k__law_machine => k_is)
    (case a__law_odd => k_is)
    (case l__law_odd => k_is)
    (case c__law_odd => k_is)
    (case k__law_odd => k_is)
    (case a__law_bent_part => k_is)
    (case l__law_bent_part => k_is)
    (case c__law_bent_part => k_is)
    (case k__law_bent_part => k_is)
    (case a__law_bent => k_is)
    (case l__law_bent => k_is)
    (case c__law_bent => k_is)
    (case k__law_bent => k_is)
    (case a_is_integer => k_is)
    (case l_is_integer => k_is)
    (case c_is_integer => k_is)
    (case k_is_integer => k_is)
    (case a_require_size => k_is)
    (case l_require_size => k_is)
    (case c_require_size => k_is)
    (case k_require_size => k_is)
    (case a_is_row => k_is)
    (case l_is_row => k_is)
    (case c_is_row => k_is)
    (case k_is_row => k_is)
    (case a_fault_of => k_is)
    (case l_fault_of => k_is)
    (case c_fault_of => k_is)
    (case k_fault_of => k_is)
    (case a_check_machine => k_is)
    (case l_check_machine => k_is)
    (case c_check_machine => k_is)
    (case k_check_machine => k_is)
    (case a__law_int => k_is)
    (case l__law_int => k_is)
    (case c__law_int => k_is)
    (case k__law_int => k_is)
    (case a__law_ints => k_is)
    (case l__law_ints => k_is)
    (case c__law_ints => k_is)
    (case k__law_ints => k_is)
    (case a__law_due => k_is)
    (case l__law_due => k_is)
    (case c__law_due => k_is)
    (case k__law_due => k_is)
    (case a_size_of => k_is)
    (case l_size_of => k_is)
    (case c_size_of => k_is)
    (case k_size_of => k_is)
    (case g_size_of => k_is)
    (case v_size_of => exact rfl)
    (case h_size_of => kernel_rfl)
    (case n_size_of => kernel_rfl)
    (case q_size_of => kernel_rfl)
    (case a_require_machine => k_is)
    (case l_require_machine => k_is)
    (case c_require_machine => k_is)
    (case k_require_machine => k_is)
    (case a_answer => k_is)
    (case l_answer => k_is)
    (case c_answer => k_is)
    (case k_answer => k_is)
    (case a_least_machine => k_is)
    (case l_least_machine => k_is)
    (case c_least_machine => k_is)
    (case k_least_machine => k_is)
    (case a_machines_parted => k_is)
    (case l_machines_parted => k_is)
    (case c_machines_parted => k_is)
    (case k_machines_parted => k_is)
    (case a_mapped => k_is)
    (case l_mapped => k_is)
    (case c_mapped => k_is)
    (case k_mapped => k_is)
    (case a_turned => k_is)
    (case l_turned => k_is)
    (case c_turned => k_is)
    (case k_turned => k_is)
    (case a__law_asked => k_is)
    (case l__law_asked => k_is)
    (case c__law_asked => k_is)
    (case k__law_asked => k_is)
    (case a__law_doors_right => k_is)
    (case l__law_doors_right => k_is)
    (case c__law_doors_right => k_is)
    (case k__law_doors_right => k_is)
    (case a_law => k_is)
    (case l_law => k_is)
    (case c_law => k_is)
    (case k_law => k_is)
    (case aC_InvalidMachine => k_is)
    (case aC_InvalidMap => k_is)
    (case aC_InvalidRow => k_is)
    (case aC_InvalidSize => k_is)
    (case aC_LazyError => k_is)
    (case ox_InvalidMachine => k_is)
    (case or_InvalidMachine => decide +kernel)
    (case sa_InvalidMachine => k_is)
    (case eC_InvalidMachine => k_is)
    (case tC_InvalidMachine => k_is)
    (case kC_InvalidMachine => k_is)
    (case na_InvalidMachine => k_is)
    (case iC_InvalidMachine => k_is)
    (case tI_InvalidMachine => k_is)
    (case l_InvalidMachine__init => k_is)
    (case lt_InvalidMachine__init => k_is)
    (case lv_InvalidMachine__init => exact .cons rfl .nil)
    (case c_InvalidMachine__init => k_is)
    (case k_InvalidMachine__init => k_is)
    (case ox_InvalidMap => k_is)
    (case or_InvalidMap => decide +kernel)
    (case sa_InvalidMap => k_is)
    (case eC_InvalidMap => k_is)
    (case tC_InvalidMap => k_is)
    (case kC_InvalidMap => k_is)
    (case na_InvalidMap => k_is)
    (case iC_InvalidMap => k_is)
    (case tI_InvalidMap => k_is)
    (case l_InvalidMap__init => k_is)
    (case lt_InvalidMap__init => k_is)
    (case lv_InvalidMap__init => exact .cons rfl .nil)
    (case c_InvalidMap__init => k_is)
    (case k_InvalidMap__init => k_is)
    (case ox_InvalidRow => k_is)
    (case or_InvalidRow => decide +kernel)
    (case sa_InvalidRow => k_is)
    (case eC_InvalidRow => k_is)
    (case tC_InvalidRow => k_is)
    (case kC_InvalidRow => k_is)
    (case na_InvalidRow => k_is)
    (case iC_InvalidRow => k_is)
    (case tI_InvalidRow => k_is)
    (case l_InvalidRow__init => k_is)
    (case lt_InvalidRow__init => k_is)
    (case lv_InvalidRow__init => exact .cons rfl .nil)
    (case c_InvalidRow__init => k_is)
    (case k_InvalidRow__init => k_is)
    (case ox_InvalidSize => k_is)
    (case or_InvalidSize => decide +kernel)
    (case sa_InvalidSize => k_is)
    (case eC_InvalidSize => k_is)
    (case tC_InvalidSize => k_is)
    (case kC_InvalidSize => k_is)
    (case na_InvalidSize => k_is)
    (case iC_InvalidSize => k_is)
    (case tI_InvalidSize => k_is)
    (case l_InvalidSize__init => k_is)
    (case lt_InvalidSize__init => k_is)
    (case lv_InvalidSize__init => exact .cons rfl .nil)
    (case c_InvalidSize__init => k_is)
    (case k_InvalidSize__init => k_is)
    (case kit_cl_InvalidMachine => kernel_rfl)
    (case ga_InvalidMachine => k_is)
    (case gg_InvalidMachine => k_is)
    (case hd_InvalidMachine => k_is)
    (case ia_InvalidMachine => k_is)
    (case ib_InvalidMachine => k_is)
    (case ic_InvalidMachine => k_is)
    (case id_InvalidMachine => k_is)
    (case kit_InvalidMachine_InvalidMachine => kernel_rfl)
    (case kit_InvalidMachine_InvalidMap => kernel_rfl)
    (case kit_InvalidMachine_InvalidRow => kernel_rfl)
    (case kit_InvalidMachine_InvalidSize => kernel_rfl)
    (case kit_x_InvalidMachine_LazyError => kernel_rfl)
    (case kit_cl_InvalidMap => kernel_rfl)
    (case ga_InvalidMap => k_is)
    (case gg_InvalidMap => k_is)
    (case hd_InvalidMap => k_is)
    (case ia_InvalidMap => k_is)
    (case ib_InvalidMap => k_is)
    (case ic_InvalidMap => k_is)
    (case id_InvalidMap => k_is)
    (case kit_InvalidMap_InvalidMachine => kernel_rfl)
    (case kit_InvalidMap_InvalidMap => kernel_rfl)
    (case kit_InvalidMap_InvalidRow => kernel_rfl)
    (case kit_InvalidMap_InvalidSize => kernel_rfl)
    (case kit_x_InvalidMap_LazyError => kernel_rfl)
    (case kit_cl_InvalidRow => kernel_rfl)
    (case ga_InvalidRow => k_is)
    (case gg_InvalidRow => k_is)
    (case hd_InvalidRow => k_is)
    (case ia_InvalidRow => k_is)
    (case ib_InvalidRow => k_is)
    (case ic_InvalidRow => k_is)
    (case id_InvalidRow => k_is)
    (case kit_InvalidRow_InvalidMachine => kernel_rfl)
    (case kit_InvalidRow_InvalidMap => kernel_rfl)
    (case kit_InvalidRow_InvalidRow => kernel_rfl)
    (case kit_InvalidRow_InvalidSize => kernel_rfl)
    (case kit_x_InvalidRow_LazyError => kernel_rfl)
    (case kit_cl_InvalidSize => kernel_rfl)
    (case ga_InvalidSize => k_is)
    (case gg_InvalidSize => k_is)
    (case hd_InvalidSize => k_is)
    (case ia_InvalidSize => k_is)
    (case ib_InvalidSize => k_is)
    (case ic_InvalidSize => k_is)
    (case id_InvalidSize => k_is)
    (case kit_InvalidSize_InvalidMachine => kernel_rfl)
    (case kit_InvalidSize_InvalidMap => kernel_rfl)
    (case kit_InvalidSize_InvalidRow => kernel_rfl)
    (case kit_InvalidSize_InvalidSize => kernel_rfl)
    (case kit_x_InvalidSize_LazyError => kernel_rfl)
    (case kit_InvalidMachine_NoneType => kernel_rfl)
    (case kit_InvalidMachine_bool => kernel_rfl)
    (case kit_InvalidMachine_int => kernel_rfl)
    (case kit_InvalidMachine_str => kernel_rfl)
    (case kit_InvalidMachine_tuple => kernel_rfl)
    (case kit_InvalidMachine_list => kernel_rfl)
    (case kit_InvalidMachine_dict => kernel_rfl)
    (case kit_InvalidMap_NoneType => kernel_rfl)
    (case kit_InvalidMap_bool => kernel_rfl)
    (case kit_InvalidMap_int => kernel_rfl)
    (case kit_InvalidMap_str => kernel_rfl)
    (case kit_InvalidMap_tuple => kernel_rfl)
    (case kit_InvalidMap_list => kernel_rfl)
    (case kit_InvalidMap_dict => kernel_rfl)
    (case kit_InvalidRow_NoneType => kernel_rfl)
    (case kit_InvalidRow_bool => kernel_rfl)
    (case kit_InvalidRow_int => kernel_rfl)
    (case kit_InvalidRow_str => kernel_rfl)
    (case kit_InvalidRow_tuple => kernel_rfl)
    (case kit_InvalidRow_list => kernel_rfl)
    (case kit_InvalidRow_dict => kernel_rfl)
    (case kit_InvalidSize_NoneType => kernel_rfl)
    (case kit_InvalidSize_bool => kernel_rfl)
    (case kit_InvalidSize_int => kernel_rfl)
    (case kit_InvalidSize_str => kernel_rfl)
    (case kit_InvalidSize_tuple => kernel_rfl)
    (case kit_InvalidSize_list => kernel_rfl)
    (case kit_InvalidSize_dict => kernel_rfl)
    (case z_all => k_is)
    (case z_bool => k_is)
    (case z_enumerate => k_is)
    (case z_int => k_is)
    (case z_isinstance => k_is)
    (case z_len => k_is)
    (case z_list => k_is)
    (case z_max => k_is)
    (case z_min => k_is)
    (case z_next => k_is)
    (case z_range => k_is)
    (case z_tuple => k_is)
    (case y_MOST_ANSWER => k_is)
    (case y_MOST_VALUES => k_is)
