import PyProof.Rows.All
import Wide.All
import OpenK.AllK
import Wide.FinOn
import HandS.ForExc
import HandS.Comp
import HandS.Iter
import HandS.Dict
import HandS.Text
import HandS.Property
import HandS.Conv
import HandS.Style
import HandS.Wide
import HandS.WideBits
import HandS.Zip
import HandS.Strs
import HandS.Deep
import HandS.DeepEq
import HandS.IsInst
import HandS.TupAny
import HandS.RaiseMore
import KE.GoesMore
import PyProof.LongRange
import PyProof.ReprRoads
import HandS.SortInts
import HandS.TryOnly
import HandS.Ends
import HandS.Star
import HandS.SetFor
import KE.DataMinMax
import PyProof.Rows.RowBridgeK
import KE.KRevSl
import HandS.Replace
import PySem.Challenge.RW_ditherdepths_k39_screens_shown_and_read
set_option Elab.async false
set_option linter.all false
set_option maxRecDepth 100000
/-! a semantic layer: pure data, store cells, outcomes -/
namespace Dd
open PySem PySem.Spec PyProof.Rows L2

/-- pure data -/
inductive D where
  | non | bl (b : Bool) | int (i : Int) | str (s : Str)
  | tup (l : List D) | lst (l : List D) | scr (l : List D) | edct
  | exn (c : Str) (f : D) | scp (l : List D)
  deriving Inhabited
/-- a value: pure, or a cell of the store -/
inductive R where
  | p (d : D) | r (n : Nat)
  deriving Inhabited
/-- what a cell holds -/
inductive Con where
  | lst (l : List D) | dct (kvs : List (D × D)) | obj (k : Nat) (fs : List (Str × D))
inductive Cell where
  | mu (o : Con) | fz (l : List D) | dead
abbrev Store := List Cell
structure Sg where
  sl : List (Option R)
  st : Store
/-- an own exception: its class's name, its field -/
structure Xn where
  c : Str
  f : D
inductive Res (α : Type) where
  | ok (a : α) (S : Sg) | exc (x : Xn) (S : Sg) | bad
abbrev M (α : Type) := Sg → Res α
def M.pure {α : Type} (a : α) : M α := fun S => .ok a S
def M.bind {α β : Type} (f : M α) (g : α → M β) : M β := fun S => match f S with
  | .ok a S' => g a S'
  | .exc x S' => .exc x S'
  | .bad => .bad
instance : Monad M := { pure := M.pure, bind := M.bind }
def bad {α : Type} : M α := fun _ => .bad
def raiseX {α : Type} (x : Xn) : M α := fun S => .exc x S
section
variable {α β : Type}
theorem pure_ap (a : α) (S : Sg) : (pure a : M α) S = .ok a S := rfl
theorem bind_ap (f : M α) (g : α → M β) (S : Sg) : (f >>= g) S = (match f S with | .ok a S' => g a S' | .exc x S' => .exc x S' | .bad => .bad) := rfl
theorem bind_ok {f : M α} {g : α → M β} {S S' : Sg} {a : α} (h : f S = .ok a S') : (f >>= g) S = g a S' := by rw [bind_ap, h]
theorem bind_exc {f : M α} {g : α → M β} {S S' : Sg} {x : Xn} (h : f S = .exc x S') : (f >>= g) S = .exc x S' := by rw [bind_ap, h]
theorem bind_bad {f : M α} {g : α → M β} {S : Sg} (h : f S = .bad) : (f >>= g) S = .bad := by rw [bind_ap, h]
theorem bad_ap (S : Sg) : (bad : M α) S = .bad := rfl
theorem raiseX_ap (x : Xn) (S : Sg) : (raiseX x : M α) S = .exc x S := rfl
end

/-- the static context: the written part, the classes by number -/
structure Cg where
  K : PySem.W.Frag
  cls : Nat → Addr
/-- ghosts: G what never changes any more, L what others keep, ρ where the cells stand -/
structure Gh where
  G : Hp
  L : Hp
  ρ : List Addr
def Ext (H H' : Hp) : Prop := ∀ a o, H a = some o → H' a = some o
theorem Ext.refl {H : Hp} : Ext H H := fun _ _ h => h
theorem Ext.trans {H H1 H2 : Hp} (a : Ext H H1) (b : Ext H1 H2) : Ext H H2 := fun c o h => b c o (a c o h)
theorem Ext.upd {H : Hp} {p : Addr} {o : HO} (h : H p = none) : Ext H (upd H p o) := fun a u e => by rw [upd_ne (ne_of_none e h)]; exact e
theorem Ext.none {H H' : Hp} (e : Ext H H') {a : Addr} (h : H' a = none) : H a = none := by
  cases q : H a with
  | none => rfl
  | some o => rw [e _ _ q] at h; cases h
structure Gh.le (Γ Γ' : Gh) : Prop where
  g : Ext Γ.G Γ'.G
  l : Γ'.L = Γ.L
  r : ∃ t, Γ'.ρ = Γ.ρ ++ t
theorem Gh.le.refl {Γ : Gh} : Γ.le Γ := ⟨Ext.refl, rfl, [], by simp⟩
theorem Gh.le.trans {Γ Γ1 Γ2 : Gh} (a : Γ.le Γ1) (b : Γ1.le Γ2) : Γ.le Γ2 :=
  ⟨a.g.trans b.g, b.l.trans a.l, by
    obtain ⟨t, e⟩ := a.r
    obtain ⟨u, e'⟩ := b.r
    exact ⟨t ++ u, by rw [e', e, List.append_assoc]⟩⟩
theorem Gh.le.at {Γ Γ' : Gh} (h : Γ.le Γ') {n : Nat} {a : Addr} (e : Γ.ρ[n]? = some a) : Γ'.ρ[n]? = some a := by
  obtain ⟨t, q⟩ := h.r
  rw [q, List.getElem?_append_left (List.getElem?_eq_some_iff.mp e).1]
  exact e

/-- .. whatever others keep -/
structure Gh.sub (Γ Γ' : Gh) : Prop where
  g : Ext Γ.G Γ'.G
  r : ∃ t, Γ'.ρ = Γ.ρ ++ t
theorem Gh.le.sub {Γ Γ' : Gh} (h : Γ.le Γ') : Γ.sub Γ' := ⟨h.g, h.r⟩
theorem Gh.sub.trans {Γ Γ1 Γ2 : Gh} (a : Γ.sub Γ1) (b : Γ1.sub Γ2) : Γ.sub Γ2 :=
  ⟨a.g.trans b.g, by
    obtain ⟨t, e⟩ := a.r
    obtain ⟨u, e'⟩ := b.r
    exact ⟨t ++ u, by rw [e', e, List.append_assoc]⟩⟩
theorem Gh.sub.at {Γ Γ' : Gh} (h : Γ.sub Γ') {n : Nat} {a : Addr} (e : Γ.ρ[n]? = some a) : Γ'.ρ[n]? = some a := by
  obtain ⟨t, q⟩ := h.r
  rw [q, List.getElem?_append_left (List.getElem?_eq_some_iff.mp e).1]
  exact e
/-! ### data and values -/
/-- a tuple that is known to have no dict -/
def TupS (K : PySem.W.Frag) (G : Hp) (a : Addr) (vs : List V) : Prop :=
  (∃ o : Obj, G a = some (.frz o (.tup vs)) ∧ o.dict = none) ∨
    ∃ (o : Obj) (its : Array Value) (n : Nat), K.lookup a = some o ∧ o.cls = .type "tuple" ∧ o.dict = none ∧ o.data = .seq its n ∧ its.size ≤ sizeLine ∧ Vals vs its.toList
theorem TupS.sq {K : PySem.W.Frag} {G : Hp} {a : Addr} {vs : List V} (h : TupS K G a vs) : SqT K G a vs := by
  rcases h with ⟨o, h, _⟩ | ⟨o, its, n, h1, h2, _, h3, h4, h5⟩
  · exact .inl (.inr ⟨o, h⟩)
  · exact .inr ⟨o, its, n, h1, h2, h3, h4, h5⟩
theorem TupS.mono {K : PySem.W.Frag} {H H' : Hp} (e : Ext H H') {a : Addr} {xs : List V} (h : TupS K H a xs) : TupS K H' a xs := by
  rcases h with ⟨o, h, k⟩ | h
  · exact .inl ⟨o, e _ _ h, k⟩
  · exact .inr h
mutual
def Rep (c : Cg) (G : Hp) : D → V → Prop
  | .non, v => v = .non
  | .bl b, v => v = .bl b
  | .int i, v => v = .int i
  | .str s, v => v = .str s
  | .tup l, v => ∃ a vs, v = .ref a ∧ TupS c.K G a vs ∧ RepL c G l vs
  | .lst l, v => ∃ a vs, v = .ref a ∧ G a = some (.lst vs) ∧ RepL c G l vs
  | .scp l, v => ∃ a vs, v = .ref a ∧ SqL c.K G a vs ∧ RepL c G l vs
  | .scr l, v => ∃ a dx b vs, v = .ref a ∧ G a = some (.ins (c.cls 0) dx [("own_levels", .ref b)]) ∧ TupS c.K G b vs ∧ RepL c G l vs
  | .edct, v => ∃ a, v = .ref a ∧ G a = some (.dK [])
  | .exn _ _, _ => False
def RepL (c : Cg) (G : Hp) : List D → List V → Prop
  | [], vs => vs = []
  | d :: ds, vs => ∃ v r, vs = v :: r ∧ Rep c G d v ∧ RepL c G ds r
end
theorem SqL.mono {K : PySem.W.Frag} {H H' : Hp} (e : Ext H H') {a : Addr} {xs : List V} (h : SqL K H a xs) : SqL K H' a xs := by
  rcases h with (h | ⟨o, h⟩) | h
  · exact .inl (.inl (e _ _ h))
  · exact .inl (.inr ⟨o, e _ _ h⟩)
  · exact .inr h
theorem SqT.mono {K : PySem.W.Frag} {H H' : Hp} (e : Ext H H') {a : Addr} {xs : List V} (h : SqT K H a xs) : SqT K H' a xs := by
  rcases h with (h | ⟨o, h⟩) | h
  · exact .inl (.inl (e _ _ h))
  · exact .inl (.inr ⟨o, e _ _ h⟩)
  · exact .inr h
mutual
theorem Rep.mono {c : Cg} {G G' : Hp} (e : Ext G G') : ∀ {d : D} {v : V}, Rep c G d v → Rep c G' d v
  | .non, v, h => h
  | .bl b, v, h => h
  | .int i, v, h => h
  | .str s, v, h => h
  | .tup l, v, h => by
    unfold Rep at h ⊢
    obtain ⟨a, vs, h1, h2, h3⟩ := h
    exact ⟨a, vs, h1, TupS.mono e h2, RepL.mono e h3⟩
  | .lst l, v, h => by
    unfold Rep at h ⊢
    obtain ⟨a, vs, h1, h2, h3⟩ := h
    exact ⟨a, vs, h1, e _ _ h2, RepL.mono e h3⟩
  | .scp l, v, h => by
    unfold Rep at h ⊢
    obtain ⟨a, vs, h1, h2, h3⟩ := h
    exact ⟨a, vs, h1, SqL.mono e h2, RepL.mono e h3⟩
  | .scr l, v, h => by
    unfold Rep at h ⊢
    obtain ⟨a, dx, b, vs, h1, h2, h3, h4⟩ := h
    exact ⟨a, dx, b, vs, h1, e _ _ h2, TupS.mono e h3, RepL.mono e h4⟩
  | .edct, v, h => by
    unfold Rep at h ⊢
    obtain ⟨a, h1, h2⟩ := h
    exact ⟨a, h1, e _ _ h2⟩
  | .exn _ _, v, h => by unfold Rep at h; exact h.elim
theorem RepL.mono {c : Cg} {G G' : Hp} (e : Ext G G') : ∀ {l : List D} {vs : List V}, RepL c G l vs → RepL c G' l vs
  | [], vs, h => by unfold RepL at h ⊢; exact h
  | d :: ds, vs, h => by
    unfold RepL at h ⊢
    obtain ⟨v, r, h1, h2, h3⟩ := h
    exact ⟨v, r, h1, Rep.mono e h2, RepL.mono e h3⟩
end
section
variable {c : Cg} {G : Hp}
theorem RepL.nil_iff {vs : List V} : RepL c G [] vs ↔ vs = [] := by unfold RepL; exact Iff.rfl
theorem RepL.cons_iff {d : D} {ds : List D} {vs : List V} : RepL c G (d :: ds) vs ↔ ∃ v r, vs = v :: r ∧ Rep c G d v ∧ RepL c G ds r := by
  constructor
  · intro h; unfold RepL at h; exact h
  · intro h; unfold RepL; exact h
theorem RepL.nil : RepL c G [] [] := RepL.nil_iff.mpr rfl
theorem RepL.cons {d : D} {ds : List D} {v : V} {vs : List V} (h : Rep c G d v) (t : RepL c G ds vs) : RepL c G (d :: ds) (v :: vs) := RepL.cons_iff.mpr ⟨v, vs, rfl, h, t⟩
theorem RepL.length : ∀ {ds : List D} {vs : List V}, RepL c G ds vs → vs.length = ds.length
  | [], vs, h => by rw [RepL.nil_iff.mp h]; rfl
  | d :: ds, vs, h => by
    obtain ⟨v, r, rfl, _, t⟩ := RepL.cons_iff.mp h
    simp [RepL.length t]
theorem RepL.get : ∀ {ds : List D} {vs : List V} {i : Nat} {d : D}, RepL c G ds vs → ds[i]? = some d → ∃ v, vs[i]? = some v ∧ Rep c G d v
  | [], vs, i, d, h, e => by simp at e
  | d' :: ds, vs, i, d, h, e => by
    obtain ⟨v, r, rfl, h1, t⟩ := RepL.cons_iff.mp h
    cases i with
    | zero => simp at e; subst e; exact ⟨v, rfl, h1⟩
    | succ i => exact RepL.get (i := i) t (by simpa using e)
theorem RepL.append : ∀ {ds es : List D} {vs ws : List V}, RepL c G ds vs → RepL c G es ws → RepL c G (ds ++ es) (vs ++ ws)
  | [], es, vs, ws, h, k => by rw [RepL.nil_iff.mp h]; exact k
  | d :: ds, es, vs, ws, h, k => by
    obtain ⟨v, r, rfl, h1, t⟩ := RepL.cons_iff.mp h
    exact RepL.cons h1 (RepL.append t k)
theorem RepL.one {d : D} {v : V} (h : Rep c G d v) : RepL c G [d] [v] := RepL.cons h RepL.nil
theorem RepL.set : ∀ {ds : List D} {vs : List V} {d : D} {v : V} (i : Nat), RepL c G ds vs → Rep c G d v → RepL c G (ds.set i d) (vs.set i v)
  | [], vs, d, v, i, h, k => by rw [RepL.nil_iff.mp h]; exact RepL.nil
  | d' :: ds, vs, d, v, i, h, k => by
    obtain ⟨v', r, rfl, h1, t⟩ := RepL.cons_iff.mp h
    cases i with
    | zero => exact RepL.cons k t
    | succ i => exact RepL.cons h1 (RepL.set i t k)
theorem RepL.take : ∀ {ds : List D} {vs : List V} (n : Nat), RepL c G ds vs → RepL c G (ds.take n) (vs.take n)
  | _, _, 0, _ => by simp; exact RepL.nil
  | [], vs, n + 1, h => by rw [RepL.nil_iff.mp h]; exact RepL.nil
  | d :: ds, vs, n + 1, h => by
    obtain ⟨v, r, rfl, h1, t⟩ := RepL.cons_iff.mp h
    exact RepL.cons h1 (RepL.take n t)
theorem RepL.drop : ∀ {ds : List D} {vs : List V} (n : Nat), RepL c G ds vs → RepL c G (ds.drop n) (vs.drop n)
  | _, _, 0, h => by simpa using h
  | [], vs, n + 1, h => by rw [RepL.nil_iff.mp h]; exact RepL.nil
  | d :: ds, vs, n + 1, h => by
    obtain ⟨v, r, rfl, h1, t⟩ := RepL.cons_iff.mp h
    exact RepL.drop n t
theorem RepL.eraseIdx : ∀ {ds : List D} {vs : List V} (i : Nat), RepL c G ds vs → RepL c G (ds.eraseIdx i) (vs.eraseIdx i)
  | [], vs, i, h => by rw [RepL.nil_iff.mp h]; exact RepL.nil
  | d :: ds, vs, i, h => by
    obtain ⟨v, r, rfl, h1, t⟩ := RepL.cons_iff.mp h
    cases i with
    | zero => exact t
    | succ i => exact RepL.cons h1 (RepL.eraseIdx i t)
theorem RepL.ints : ∀ {ns : List Int} {vs : List V}, RepL c G (ns.map D.int) vs → vs = ns.map V.int
  | [], vs, h => RepL.nil_iff.mp h
  | n :: ns, vs, h => by
    obtain ⟨v, r, rfl, h1, t⟩ := RepL.cons_iff.mp h
    unfold Rep at h1
    rw [h1, RepL.ints t]; rfl
theorem RepL.of_ints : ∀ (ns : List Int), RepL c G (ns.map D.int) (ns.map V.int)
  | [] => RepL.nil
  | n :: ns => RepL.cons (by unfold Rep; rfl) (RepL.of_ints ns)
theorem RepL.bls : ∀ {ns : List Bool} {vs : List V}, RepL c G (ns.map D.bl) vs → vs = ns.map V.bl
  | [], vs, h => RepL.nil_iff.mp h
  | n :: ns, vs, h => by
    obtain ⟨v, r, rfl, h1, t⟩ := RepL.cons_iff.mp h
    unfold Rep at h1
    rw [h1, RepL.bls t]; rfl
theorem RepL.strs : ∀ {ns : List Str} {vs : List V}, RepL c G (ns.map D.str) vs → vs = ns.map V.str
  | [], vs, h => RepL.nil_iff.mp h
  | n :: ns, vs, h => by
    obtain ⟨v, r, rfl, h1, t⟩ := RepL.cons_iff.mp h
    unfold Rep at h1
    rw [h1, RepL.strs t]; rfl
end
theorem Rep.int_iff {c : Cg} {G : Hp} {i : Int} {v : V} : Rep c G (.int i) v ↔ v = .int i := by unfold Rep; exact Iff.rfl
theorem Rep.bl_iff {c : Cg} {G : Hp} {b : Bool} {v : V} : Rep c G (.bl b) v ↔ v = .bl b := by unfold Rep; exact Iff.rfl
theorem Rep.str_iff {c : Cg} {G : Hp} {b : Str} {v : V} : Rep c G (.str b) v ↔ v = .str b := by unfold Rep; exact Iff.rfl
theorem Rep.non_iff {c : Cg} {G : Hp} {v : V} : Rep c G .non v ↔ v = .non := by unfold Rep; exact Iff.rfl
theorem Rep.tup_iff {c : Cg} {G : Hp} {l : List D} {v : V} : Rep c G (.tup l) v ↔ ∃ a vs, v = .ref a ∧ TupS c.K G a vs ∧ RepL c G l vs := by
  constructor
  · intro h; unfold Rep at h; exact h
  · intro h; unfold Rep; exact h
theorem Rep.scp_iff {c : Cg} {G : Hp} {l : List D} {v : V} : Rep c G (.scp l) v ↔ ∃ a vs, v = .ref a ∧ SqL c.K G a vs ∧ RepL c G l vs := by
  constructor
  · intro h; unfold Rep at h; exact h
  · intro h; unfold Rep; exact h
theorem Rep.lst_iff {c : Cg} {G : Hp} {l : List D} {v : V} : Rep c G (.lst l) v ↔ ∃ a vs, v = .ref a ∧ G a = some (.lst vs) ∧ RepL c G l vs := by
  constructor
  · intro h; unfold Rep at h; exact h
  · intro h; unfold Rep; exact h
theorem Rep.scr_iff {c : Cg} {G : Hp} {l : List D} {v : V} : Rep c G (.scr l) v ↔ ∃ a dx b vs, v = .ref a ∧ G a = some (.ins (c.cls 0) dx [("own_levels", .ref b)]) ∧ TupS c.K G b vs ∧ RepL c G l vs := by
  constructor
  · intro h; unfold Rep at h; exact h
  · intro h; unfold Rep; exact h
theorem Rep.edct_iff {c : Cg} {G : Hp} {v : V} : Rep c G .edct v ↔ ∃ a, v = .ref a ∧ G a = some (.dK []) := by unfold Rep; exact Iff.rfl

def RepR (c : Cg) (Γ : Gh) : R → V → Prop
  | .p d, v => Rep c Γ.G d v
  | .r n, v => ∃ a, Γ.ρ[n]? = some a ∧ v = .ref a
theorem RepR.mono {c : Cg} {Γ Γ' : Gh} (e : Γ.le Γ') : ∀ {x : R} {v : V}, RepR c Γ x v → RepR c Γ' x v
  | .p d, v, h => Rep.mono e.g h
  | .r n, v, h => by
    obtain ⟨a, h1, h2⟩ := h
    exact ⟨a, e.at h1, h2⟩
theorem RepR.sub {c : Cg} {Γ Γ' : Gh} (e : Γ.sub Γ') : ∀ {x : R} {v : V}, RepR c Γ x v → RepR c Γ' x v
  | .p d, v, h => Rep.mono e.g h
  | .r n, v, h => by
    obtain ⟨a, h1, h2⟩ := h
    exact ⟨a, e.at h1, h2⟩
def RepRL (c : Cg) (Γ : Gh) : List R → List V → Prop
  | [], vs => vs = []
  | x :: xs, vs => ∃ v r, vs = v :: r ∧ RepR c Γ x v ∧ RepRL c Γ xs r
theorem RepRL.mono {c : Cg} {Γ Γ' : Gh} (e : Γ.le Γ') : ∀ {x : List R} {v : List V}, RepRL c Γ x v → RepRL c Γ' x v
  | [], v, h => h
  | x :: xs, v, h => by
    obtain ⟨u, r, h1, h2, h3⟩ := h
    exact ⟨u, r, h1, RepR.mono e h2, RepRL.mono e h3⟩
theorem RepRL.length {c : Cg} {Γ : Gh} : ∀ {x : List R} {v : List V}, RepRL c Γ x v → v.length = x.length
  | [], v, h => by rw [show v = [] from h]; rfl
  | x :: xs, v, h => by
    obtain ⟨u, r, rfl, h2, h3⟩ := h
    simp [RepRL.length h3]
theorem RepRL.get {c : Cg} {Γ : Gh} : ∀ {xs : List R} {vs : List V} {i : Nat} {x : R}, RepRL c Γ xs vs → xs[i]? = some x → ∃ v, vs[i]? = some v ∧ RepR c Γ x v
  | [], v, i, x, h, e => by simp at e
  | x' :: xs, v, i, x, h, e => by
    obtain ⟨u, r, rfl, h2, h3⟩ := h
    cases i with
    | zero => simp at e; subst e; exact ⟨u, rfl, h2⟩
    | succ i => exact RepRL.get (i := i) h3 (by simpa using e)

/-! ### the store, held -/
/-- an object's attributes -/
def RepF (c : Cg) (G : Hp) : List (Str × D) → List (Str × V) → Prop
  | [], fs => fs = []
  | (n, x) :: xs, fs => ∃ v r, fs = (n, v) :: r ∧ Rep c G x v ∧ RepF c G xs r
def RepK (c : Cg) (G : Hp) : List (D × D) → List (List D × V) → Prop
  | _, _ => False
/-- what stands at a cell's address -/
def ConOk (c : Cg) (Γ : Gh) : Con → HO → Prop
  | .lst l, o => ∃ vs, o = .lst vs ∧ RepL c Γ.G l vs
  | .dct kvs, o => kvs = [] ∧ o = .dK []
  | .obj k fs, o => ∃ dx vs, o = .ins (c.cls k) dx vs ∧ RepF c Γ.G fs vs
def CellOk (c : Cg) (Γ : Gh) (H : Hp) (a : Addr) : Cell → Prop
  | .mu o => ∃ u, H a = some u ∧ ConOk c Γ o u ∧ Γ.G a = none ∧ Γ.L a = none
  | .fz l => ∃ vs, Γ.G a = some (.lst vs) ∧ RepL c Γ.G l vs
  | .dead => True
structure StOk (c : Cg) (Γ : Gh) (st : Store) (H : Hp) : Prop where
  g : Ext Γ.G H
  l : Ext Γ.L H
  gl : ∀ (a : Addr) (o : HO), Γ.L a = some o → Γ.G a = none
  len : st.length = Γ.ρ.length
  cell : ∀ (n : Nat) (x : Cell) (a : Addr), st[n]? = some x → Γ.ρ[n]? = some a → CellOk c Γ H a x
  inj : ∀ (n m : Nat) (a : Addr) (o u : Con), st[n]? = some (.mu o) → st[m]? = some (.mu u) → Γ.ρ[n]? = some a → Γ.ρ[m]? = some a → n = m
structure FrOk (c : Cg) (Γ : Gh) (S : Sg) (σ : L2.St) (H : Hp) : Prop where
  s : StOk c Γ S.st H
  len : S.sl.length = σ.length
  sl : ∀ (i : Nat) (x : R), S.sl[i]? = some (some x) → ∃ v, σ[i]? = some (some v) ∧ RepR c Γ x v

/-- what is wanted of an own exception: class, dict -/
def XRep (c : Cg) (Γ : Gh) (H : Hp) (x : Xn) (cls : Value) (dd : Option Addr) : Prop := False
/-- what is wanted behind an outcome -/
def Post (c : Cg) (W : WX) (σ : L2.St) (Γ : Gh) {α : Type} (r : Res α) (K : α → Sg → Gh → Hp → Prop) : Prop := match r with
  | .ok a S' => ∀ Γ' H', Γ.le Γ' → FrOk c Γ' S' σ H' → K a S' Γ' H'
  | .exc x S' => ∀ Γ' H' cls dd, Γ.le Γ' → FrOk c Γ' S' σ H' → XRep c Γ' H' x cls dd → W cls dd σ H'
  | .bad => False
section
variable {c : Cg} {W : WX} {σ : L2.St} {Γ Γ1 : Gh} {α β : Type}
theorem Post.le {r : Res α} {K : α → Sg → Gh → Hp → Prop} (h : Post c W σ Γ r K) (e : Γ.le Γ1) : Post c W σ Γ1 r K := by
  cases r with
  | ok a S => exact fun Γ' H' e' f => h Γ' H' (e.trans e') f
  | exc x S => exact fun Γ' H' cls dd e' f q => h Γ' H' cls dd (e.trans e') f q
  | bad => exact h
theorem Post.imp {r : Res α} {K K' : α → Sg → Gh → Hp → Prop} (h : Post c W σ Γ r K) (k : ∀ a S' Γ' H', Γ.le Γ' → FrOk c Γ' S' σ H' → K a S' Γ' H' → K' a S' Γ' H') : Post c W σ Γ r K' := by
  cases r with
  | ok a S => exact fun Γ' H' e' f => k _ _ _ _ e' f (h Γ' H' e' f)
  | exc x S => exact h
  | bad => exact h
theorem Post.bind {f : M α} {g : α → M β} {S : Sg} {K : β → Sg → Gh → Hp → Prop} (h : Post c W σ Γ ((f >>= g) S) K) :
    Post c W σ Γ (f S) fun a S' Γ' H' => Γ.le Γ' ∧ Post c W σ Γ' (g a S') K := by
  rw [bind_ap] at h
  cases e : f S with
  | ok a S' => rw [e] at h; exact fun Γ' H' e' f => ⟨e', Post.le h e'⟩
  | exc x S' => rw [e] at h; exact h
  | bad => rw [e] at h; exact h
theorem Post.ok {a : α} {S : Sg} {K : α → Sg → Gh → Hp → Prop} {Γ' : Gh} {H' : Hp} (h : Post c W σ Γ (.ok a S) K) (e : Γ.le Γ') (f : FrOk c Γ' S σ H') : K a S Γ' H' := h Γ' H' e f
end

/-- an expression's reading -/
def rdE (c : Cg) (W : WX) (f : M R) : TE := fun σ H Q => ∃ Γ S, FrOk c Γ S σ H ∧ Post c W σ Γ (f S) fun x S' Γ' H' => ∀ v, RepR c Γ' x v → Q v H'
/-- a test's -/
def rdT (c : Cg) (W : WX) (f : M Bool) : TT := fun σ H Q => ∃ Γ S, FrOk c Γ S σ H ∧ Post c W σ Γ (f S) fun b S' Γ' H' => Q b H'
/-- an argument list's -/
def rdA (c : Cg) (W : WX) (f : M (List R)) : TA := fun σ H Q => ∃ Γ S, FrOk c Γ S σ H ∧ Post c W σ Γ (f S) fun xs S' Γ' H' => ∀ vs, RepRL c Γ' xs vs → Q vs H'

/-- where a statement goes on -/
inductive Fl where
  | nx | bk | ct | rt (x : R)
def PostS (c : Cg) (W : WX) (Γ : Gh) (r : Res Fl) (E : Ends) : Prop := match r with
  | .ok .nx S' => ∀ Γ' σ' H', Γ.le Γ' → FrOk c Γ' S' σ' H' → E.nx σ' H'
  | .ok .bk S' => ∀ Γ' σ' H', Γ.le Γ' → FrOk c Γ' S' σ' H' → E.bk σ' H'
  | .ok .ct S' => ∀ Γ' σ' H', Γ.le Γ' → FrOk c Γ' S' σ' H' → E.ct σ' H'
  | .ok (.rt x) S' => ∀ Γ' σ' H' v, Γ.le Γ' → FrOk c Γ' S' σ' H' → RepR c Γ' x v → E.rt v H'
  | .exc x S' => ∀ Γ' σ' H' cls dd, Γ.le Γ' → FrOk c Γ' S' σ' H' → XRep c Γ' H' x cls dd → W cls dd σ' H'
  | .bad => False
def rdS (c : Cg) (W : WX) (f : M Fl) : TS := fun E σ H => ∃ Γ S, FrOk c Γ S σ H ∧ PostS c W Γ (f S) E
section
variable {c : Cg} {W : WX} {Γ Γ1 : Gh} {E : Ends}
theorem PostS.le {r : Res Fl} (h : PostS c W Γ r E) (e : Γ.le Γ1) : PostS c W Γ1 r E := by
  cases r with
  | ok a S =>
    cases a with
    | nx => exact fun Γ' σ' H' e' f => h Γ' σ' H' (e.trans e') f
    | bk => exact fun Γ' σ' H' e' f => h Γ' σ' H' (e.trans e') f
    | ct => exact fun Γ' σ' H' e' f => h Γ' σ' H' (e.trans e') f
    | rt x => exact fun Γ' σ' H' v e' f q => h Γ' σ' H' v (e.trans e') f q
  | exc x S => exact fun Γ' σ' H' cls dd e' f q => h Γ' σ' H' cls dd (e.trans e') f q
  | bad => exact h
/-- an expression ahead of a statement -/
theorem PostS.bindE {α : Type} {f : M α} {g : α → M Fl} {S : Sg} {σ : L2.St} (h : PostS c W Γ ((f >>= g) S) E) :
    Post c W σ Γ (f S) fun a S' Γ' H' => Γ.le Γ' ∧ PostS c W Γ' (g a S') E := by
  rw [bind_ap] at h
  cases e : f S with
  | ok a S' => rw [e] at h; exact fun Γ' H' e' f => ⟨e', PostS.le h e'⟩
  | exc x S' => rw [e] at h; exact fun Γ' H' cls dd e' f q => h Γ' σ H' cls dd e' f q
  | bad => rw [e] at h; exact h
end
end Dd

set_option Elab.async false
set_option linter.all false
set_option maxRecDepth 100000
namespace Dd
open PySem PySem.Spec PyProof.Rows L2

/-! ### names, constants, operators -/
section
variable {X : Cx} {c : Cg} {W : WX} {e a b : Expr} {f fa fb : M R} {pos : Pos}
theorem se_of {t : TE} (h : PE X e t) (hi : ∀ σ H Q, rdE c W f σ H Q → t σ H Q) : PE X e (rdE c W f) := ⟨fun pins s σ H Q I q => h.run pins s σ H Q I (hi σ H Q q)⟩
theorem st_of {t : TT} {f : M Bool} (h : PT X e t) (hi : ∀ σ H Q, rdT c W f σ H Q → t σ H Q) : PT X e (rdT c W f) := ⟨fun pins s σ H Q I q => h.run pins s σ H Q I (hi σ H Q q)⟩
theorem sa_of {es : List Expr} {t : TA} {f : M (List R)} (h : PA X es t) (hi : ∀ σ H Q, rdA c W f σ H Q → t σ H Q) : PA X es (rdA c W f) := ⟨fun pos pins s σ H Q I q => h.run pos pins s σ H Q I (hi σ H Q q)⟩
theorem ss_of {st : Stmt} {t : TS} {f : M Fl} (h : PS X st t) (hi : ∀ E σ H, rdS c W f E σ H → t E σ H) : PS X st (rdS c W f) := ⟨fun pins s σ H E I q => h.run pins s σ H E I (hi E σ H q)⟩
theorem sss_of {st : List Stmt} {t : TS} {f : M Fl} (h : PSs X st t) (hi : ∀ E σ H, rdS c W f E σ H → t E σ H) : PSs X st (rdS c W f) := ⟨fun pins s σ H E I q => h.run pins s σ H E I (hi E σ H q)⟩

theorem RepR.pure {Γ : Gh} {d : D} {v : V} : RepR c Γ (.p d) v ↔ Rep c Γ.G d v := Iff.rfl
theorem RepR.int {Γ : Gh} {i : Int} {v : V} (h : RepR c Γ (.p (.int i)) v) : v = .int i := Rep.int_iff.mp (RepR.pure.mp h)
theorem RepR.bl {Γ : Gh} {i : Bool} {v : V} (h : RepR c Γ (.p (.bl i)) v) : v = .bl i := Rep.bl_iff.mp (RepR.pure.mp h)
theorem RepR.str {Γ : Gh} {i : Str} {v : V} (h : RepR c Γ (.p (.str i)) v) : v = .str i := Rep.str_iff.mp (RepR.pure.mp h)
theorem RepR.non {Γ : Gh} {v : V} (h : RepR c Γ (.p .non) v) : v = .non := Rep.non_iff.mp (RepR.pure.mp h)
/-- the name in slot i -/
def vr (i : Nat) : M R := fun S => match S.sl[i]? with
  | some (some x) => .ok x S
  | _ => .bad
theorem vr_ok {i : Nat} {S : Sg} {x : R} (h : S.sl[i]? = some (some x)) : vr i S = .ok x S := by unfold vr; rw [h]
theorem se_var {i : Nat} (h : PE X e (tVar i)) : PE X e (rdE c W (vr i)) := by
  refine se_of h fun σ H Q q => ?_
  obtain ⟨Γ, S, F, P⟩ := q
  unfold vr at P
  split at P
  · rename_i x hx
    obtain ⟨v, h1, h2⟩ := F.sl i x hx
    exact ⟨v, h1, P.ok Gh.le.refl F v h2⟩
  · exact P.elim
def ci (i : Int) : M R := pure (.p (.int i))
def cb (b : Bool) : M R := pure (.p (.bl b))
def cn : M R := pure (.p .non)
def cs (s : Str) : M R := pure (.p (.str s))
theorem se_tC {d : D} {v : V} (hr : ∀ G, Rep c G d v) (h : PE X e (tC v)) : PE X e (rdE c W (pure (.p d))) := by
  refine se_of h fun σ H Q q => ?_
  obtain ⟨Γ, S, F, P⟩ := q
  exact Post.ok (c := c) (W := W) P Gh.le.refl F v (hr _)
theorem se_int {i : Int} {j} : PE X (.Constant (.int i) j pos) (rdE c W (ci i)) := se_tC (fun _ => Rep.int_iff.mpr rfl) pe_int
theorem se_bl {i : Bool} {j} : PE X (.Constant (.bool i) j pos) (rdE c W (cb i)) := se_tC (fun _ => Rep.bl_iff.mpr rfl) pe_bl
theorem se_non {j} : PE X (.Constant .none j pos) (rdE c W cn) := se_tC (fun _ => Rep.non_iff.mpr rfl) pe_non
theorem se_str {i : Str} {j} : PE X (.Constant (.str i) j pos) (rdE c W (cs i)) := se_tC (fun _ => Rep.str_iff.mpr rfl) pe_str
/-- a module's constant that is pure data -/
def cd (d : D) : M R := pure (.p d)
theorem se_glob {d : D} {v : V} (hr : ∀ G, Rep c G d v) (h : PE X e (tC v)) : PE X e (rdE c W (cd d)) := se_tC hr h

def bin (op : R → R → M R) (f g : M R) : M R := do
  let x ← f
  let y ← g
  op x y
/-- an operation on values serves a rule -/
def OpD (c : Cg) (W : WX) (op : R → R → M R) (r : R2) : Prop :=
  ∀ (Γ : Gh) (S : Sg) (σ : L2.St) (H : Hp) (x y : R) (v w : V) (Q : VK), FrOk c Γ S σ H → RepR c Γ x v → RepR c Γ y w →
    Post c W σ Γ (op x y S) (fun z S' Γ' H' => ∀ u, RepR c Γ' z u → Q u H') → r v w H Q
theorem bin_read {op : R → R → M R} {r : R2} (hd : OpD c W op r) {σ : L2.St} {H : Hp} {Q : VK} (q : rdE c W (bin op fa fb) σ H Q) : tOp r (rdE c W fa) (rdE c W fb) σ H Q := by
  obtain ⟨Γ, S, F, P⟩ := q
  refine ⟨Γ, S, F, ?_⟩
  refine (Post.bind P).imp fun x S1 Γ1 H1 e1 F1 ⟨_, P1⟩ v hv => ?_
  refine ⟨Γ1, S1, F1, ?_⟩
  refine (Post.bind P1).imp fun y S2 Γ2 H2 e2 F2 ⟨_, P2⟩ w hw => ?_
  exact hd Γ2 S2 σ H2 x y v w Q F2 (hv.mono e2) hw P2
theorem se_bin {o : Operator} {op : R → R → M R} {r : R2} (ho : OpR X (binaryOp o) r) (hd : OpD c W op r) (ha : PE X a (rdE c W fa)) (hb : PE X b (rdE c W fb)) : PE X (.BinOp a o b pos) (rdE c W (bin op fa fb)) :=
  se_of (pe_op ho ha hb) fun _ _ _ q => bin_read hd q
theorem se_cmp {o : CmpOp} {op : R → R → M R} {r : R2} (ho : OpR X (compareOp o) r) (hd : OpD c W op r) (ha : PE X a (rdE c W fa)) (hb : PE X b (rdE c W fb)) (hm : behindInMarks o b = false) : PE X (.Compare a [o] [b] pos) (rdE c W (bin op fa fb)) :=
  se_of (pe_cmpR ho ha hb hm) fun _ _ _ q => bin_read hd q
theorem OpD.or {op : R → R → M R} {r r' : R2} (h : OpD c W op r) : OpD c W op (fun x y H Q => r x y H Q ∨ r' x y H Q) := fun Γ S σ H x y v w Q F hx hy P => .inl (h Γ S σ H x y v w Q F hx hy P)

/-- ints in -/
def opI (C : Int → Int → Prop) [∀ i j, Decidable (C i j)] (g : Int → Int → D) : R → R → M R := fun x y S => match x, y with
  | .p (.int i), .p (.int j) => if C i j then .ok (.p (g i j)) S else .bad
  | _, _ => .bad
def opI0 (g : Int → Int → D) : R → R → M R := fun x y S => match x, y with
  | .p (.int i), .p (.int j) => .ok (.p (g i j)) S
  | _, _ => .bad
theorem opI_ok {C : Int → Int → Prop} [∀ i j, Decidable (C i j)] {g : Int → Int → D} {i j : Int} {S : Sg} (h : C i j) : opI C g (.p (.int i)) (.p (.int j)) S = .ok (.p (g i j)) S := if_pos h
theorem opI0_ok {g : Int → Int → D} {i j : Int} {S : Sg} : opI0 g (.p (.int i)) (.p (.int j)) S = .ok (.p (g i j)) S := rfl
/-- the ints behind two values -/
theorem two_ints {x y : R} {S : Sg} {α : Type} {k : Int → Int → Res α} {Z : Prop}
    (h : ∀ i j, x = .p (.int i) → y = .p (.int j) → Z) (P : (match x, y with | .p (.int i), .p (.int j) => k i j | _, _ => (Res.bad : Res α)) ≠ .bad) : Z := by
  split at P
  · exact h _ _ rfl rfl
  · exact (P rfl).elim
theorem Post.ne {α : Type} {σ : L2.St} {Γ : Gh} {r : Res α} {K : α → Sg → Gh → Hp → Prop} (P : Post c W σ Γ r K) : r ≠ .bad := by
  intro e
  rw [e] at P
  exact P
theorem od_I {C : Int → Int → Prop} [∀ i j, Decidable (C i j)] {g : Int → Int → D} {gv : Int → Int → V} (hg : ∀ G i j, Rep c G (g i j) (gv i j)) : OpD c W (opI C g) (rI C gv) := by
  intro Γ S σ H x y v w Q F hx hy P
  unfold opI at P
  refine two_ints (S := S) (k := fun i j => if C i j then Res.ok (R.p (g i j)) S else .bad) (fun i j e1 e2 => ?_) P.ne
  subst e1 e2
  have P : Post c W σ Γ (if C i j then Res.ok (R.p (g i j)) S else Res.bad) fun z S' Γ' H' => ∀ u, RepR c Γ' z u → Q u H' := P
  by_cases h : C i j
  · rw [if_pos h] at P
    exact ⟨i, j, RepR.int hx, RepR.int hy, h, P.ok Gh.le.refl F _ (hg _ _ _)⟩
  · rw [if_neg h] at P
    exact P.elim
theorem od_I0 {g : Int → Int → D} {gv : Int → Int → V} (hg : ∀ G i j, Rep c G (g i j) (gv i j)) : OpD c W (opI0 g) (rI0 gv) := by
  intro Γ S σ H x y v w Q F hx hy P
  unfold opI0 at P
  refine two_ints (S := S) (k := fun i j => Res.ok (R.p (g i j)) S) (fun i j e1 e2 => ?_) P.ne
  subst e1 e2
  exact ⟨i, j, RepR.int hx, RepR.int hy, P.ok Gh.le.refl F _ (hg _ _ _)⟩
end
instance (i j : Int) : Decidable (CDivW i j) := inferInstanceAs (Decidable (_ ∧ _))
instance (i j : Int) : Decidable (CMulW i j) := inferInstanceAs (Decidable (_ < _))
instance (i j : Int) : Decidable (CPow i j) := inferInstanceAs (Decidable (_ ∧ _ ∧ _))
instance (i j : Int) : Decidable (CShl i j) := inferInstanceAs (Decidable (_ ∧ _))

/-! ### sequences, looked into -/
/-- the items of a list or tuple -/
def getL (x : R) (S : Sg) : Option (List D) := match x with
  | .p (.tup l) => some l
  | .p (.lst l) => some l
  | .p (.scp l) => some l
  | .p _ => none
  | .r n => match S.st[n]? with
    | some (.mu (.lst l)) => some l
    | some (.fz l) => some l
    | _ => none
/-- a list's alone -/
def getLst (x : R) (S : Sg) : Option (List D) := match x with
  | .p (.lst l) => some l
  | .p (.scp l) => some l
  | .p _ => none
  | .r n => match S.st[n]? with
    | some (.mu (.lst l)) => some l
    | some (.fz l) => some l
    | _ => none
section
variable {c : Cg} {W : WX} {Γ : Gh} {S : Sg} {σ : L2.St} {H : Hp} {x : R} {v : V} {l : List D}
theorem StOk.at {st : Store} (F : StOk c Γ st H) {n : Nat} {o : Cell} (h : st[n]? = some o) : ∃ a, Γ.ρ[n]? = some a := by
  have h1 := (List.getElem?_eq_some_iff.mp h).1
  rw [F.len] at h1
  exact ⟨_, List.getElem?_eq_getElem h1⟩
theorem StOk.lst {st : Store} (F : StOk c Γ st H) {n : Nat} {l : List D} (h : st[n]? = some (.mu (.lst l))) : ∃ a vs, Γ.ρ[n]? = some a ∧ H a = some (.lst vs) ∧ RepL c Γ.G l vs ∧ Γ.G a = none ∧ Γ.L a = none := by
  obtain ⟨a, ha⟩ := F.at h
  obtain ⟨u, h1, ⟨vs, h2, h3⟩, h4, h5⟩ := F.cell n _ a h ha
  subst h2
  exact ⟨a, vs, ha, h1, h3, h4, h5⟩
theorem StOk.fro {st : Store} (F : StOk c Γ st H) {n : Nat} {l : List D} (h : st[n]? = some (.fz l)) : ∃ a vs, Γ.ρ[n]? = some a ∧ Γ.G a = some (.lst vs) ∧ RepL c Γ.G l vs := by
  obtain ⟨a, ha⟩ := F.at h
  obtain ⟨vs, h1, h2⟩ := F.cell n _ a h ha
  exact ⟨a, vs, ha, h1, h2⟩
theorem getLst_ok (F : FrOk c Γ S σ H) (hx : RepR c Γ x v) (h : getLst x S = some l) : ∃ a vs, v = .ref a ∧ SqL c.K H a vs ∧ RepL c Γ.G l vs := by
  cases x with
  | p d =>
    cases d with
    | lst l' =>
      cases h
      obtain ⟨a, vs, h1, h2, h3⟩ := Rep.lst_iff.mp hx
      exact ⟨a, vs, h1, .inl (.inl (F.s.g _ _ h2)), h3⟩
    | scp l' =>
      cases h
      obtain ⟨a, vs, h1, h2, h3⟩ := Rep.scp_iff.mp hx
      exact ⟨a, vs, h1, SqL.mono F.s.g h2, h3⟩
    | _ => cases h
  | r n =>
    obtain ⟨a, h1, h2⟩ := hx
    unfold getLst at h
    simp only at h
    split at h
    · rename_i l' e
      cases h
      obtain ⟨a', vs, h3, h4, h5, _⟩ := F.s.lst e
      rw [h1] at h3; cases h3
      exact ⟨a, vs, h2, .inl (.inl h4), h5⟩
    · rename_i l' e
      cases h
      obtain ⟨a', vs, h3, h4, h5⟩ := F.s.fro e
      rw [h1] at h3; cases h3
      exact ⟨a, vs, h2, .inl (.inl (F.s.g _ _ h4)), h5⟩
    · cases h
theorem getL_ok (F : FrOk c Γ S σ H) (hx : RepR c Γ x v) (h : getL x S = some l) : ∃ a vs, v = .ref a ∧ (SqL c.K H a vs ∨ SqT c.K H a vs) ∧ RepL c Γ.G l vs := by
  cases x with
  | p d =>
    cases d with
    | lst l' =>
      cases h
      obtain ⟨a, vs, h1, h2, h3⟩ := Rep.lst_iff.mp hx
      exact ⟨a, vs, h1, .inl (.inl (.inl (F.s.g _ _ h2))), h3⟩
    | scp l' =>
      cases h
      obtain ⟨a, vs, h1, h2, h3⟩ := Rep.scp_iff.mp hx
      exact ⟨a, vs, h1, .inl (SqL.mono F.s.g h2), h3⟩
    | tup l' =>
      cases h
      obtain ⟨a, vs, h1, h2, h3⟩ := Rep.tup_iff.mp hx
      exact ⟨a, vs, h1, .inr (TupS.mono F.s.g h2).sq, h3⟩
    | _ => cases h
  | r n =>
    obtain ⟨a, vs, h1, h2, h3⟩ := getLst_ok (x := .r n) F hx h
    exact ⟨a, vs, h1, .inl h2, h3⟩

/-! ### the store changes: a new object, a new cell, a list written, a list frozen -/
theorem RepF.mono {G G' : Hp} (e : Ext G G') : ∀ {fs : List (Str × D)} {vs : List (Str × V)}, RepF c G fs vs → RepF c G' fs vs
  | [], _, h => h
  | (n, x) :: xs, _, h => by
    obtain ⟨v, r, h1, h2, h3⟩ := h
    exact ⟨v, r, h1, h2.mono e, RepF.mono e h3⟩
theorem ConOk.mono {Γ Γ' : Gh} (e : Γ.le Γ') {o : Con} {u : HO} (h : ConOk c Γ o u) : ConOk c Γ' o u := by
  cases o with
  | lst l => obtain ⟨vs, k1, k2⟩ := h; exact ⟨vs, k1, RepL.mono e.g k2⟩
  | dct kvs => exact h
  | obj k fs => obtain ⟨dx, vs, k1, k2⟩ := h; exact ⟨dx, vs, k1, k2.mono e.g⟩
/-- a new object that never changes -/
theorem StOk.newG {st : Store} {p : Addr} {o : HO} (F : StOk c Γ st H) (hp : H p = none) : StOk c { Γ with G := upd Γ.G p o } st (upd H p o) where
  g := fun a u e => by
    by_cases h : a = p
    · have e' : upd Γ.G p o a = some u := e
      subst h; rw [upd_same] at e' ⊢; exact e'
    · have e' : upd Γ.G p o a = some u := e
      rw [upd_ne h] at e' ⊢; exact F.g _ _ e'
  l := fun a u e => by rw [upd_ne (ne_of_none (F.l _ _ e) hp)]; exact F.l _ _ e
  gl := fun a u e => by
    show upd Γ.G p o a = none
    rw [upd_ne (ne_of_none (F.l _ _ e) hp)]; exact F.gl a u e
  len := F.len
  cell := fun n x a e1 e2 => by
    have hGp : Γ.G p = none := Ext.none F.g hp
    have ex : Ext Γ.G (upd Γ.G p o) := Ext.upd hGp
    have q := F.cell n x a e1 e2
    cases x with
    | mu u =>
      obtain ⟨w, h1, h2, h3, h4⟩ := q
      have hap : a ≠ p := ne_of_none h1 hp
      refine ⟨w, by rw [upd_ne hap]; exact h1, ?_, by show upd Γ.G p o a = none; rw [upd_ne hap]; exact h3, h4⟩
      cases u with
      | lst l => obtain ⟨vs, k1, k2⟩ := h2; exact ⟨vs, k1, RepL.mono ex k2⟩
      | dct kvs => exact h2
      | obj k fs =>
        have le : Γ.le { Γ with G := upd Γ.G p o } := ⟨ex, rfl, [], by simp⟩
        exact ConOk.mono le h2
    | fz l =>
      obtain ⟨vs, h1, h2⟩ := q
      exact ⟨vs, ex _ _ h1, RepL.mono ex h2⟩
    | dead => trivial
  inj := F.inj
/-- a new cell -/
theorem StOk.newC {st : Store} {p : Addr} {o : Con} {u : HO} (F : StOk c Γ st H) (hp : H p = none) (ho : ConOk c Γ o u) : StOk c { Γ with ρ := Γ.ρ ++ [p] } (st ++ [.mu o]) (upd H p u) where
  g := fun a w e => by rw [upd_ne (ne_of_none (F.g _ _ e) hp)]; exact F.g _ _ e
  l := fun a w e => by rw [upd_ne (ne_of_none (F.l _ _ e) hp)]; exact F.l _ _ e
  gl := F.gl
  len := by simp [F.len]
  cell := fun n x a e1 e2 => by
    have le : Γ.le { Γ with ρ := Γ.ρ ++ [p] } := ⟨Ext.refl, rfl, [p], rfl⟩
    by_cases hn : n < st.length
    · rw [List.getElem?_append_left hn] at e1
      have hn2 : n < Γ.ρ.length := by rw [← F.len]; exact hn
      have e2' : (Γ.ρ ++ [p])[n]? = some a := e2
      rw [List.getElem?_append_left hn2] at e2'
      have q := F.cell n x a e1 e2'
      cases x with
      | mu w =>
        obtain ⟨w', h1, h2, h3, h4⟩ := q
        exact ⟨w', by rw [upd_ne (ne_of_none h1 hp)]; exact h1, h2.mono le, h3, h4⟩
      | fz l => exact q
      | dead => trivial
    · have hn' : n = st.length := by
        have := (List.getElem?_eq_some_iff.mp e1).1
        simp at this
        omega
      subst hn'
      have e2' : (Γ.ρ ++ [p])[st.length]? = some a := e2
      rw [F.len] at e2'
      simp at e1 e2'
      subst e1 e2'
      exact ⟨u, upd_same, ho.mono le, Ext.none F.g hp, Ext.none F.l hp⟩
  inj := fun n m a o1 o2 h1 h2 h3 h4 => by
    have h3' : (Γ.ρ ++ [p])[n]? = some a := h3
    have h4' : (Γ.ρ ++ [p])[m]? = some a := h4
    have old : ∀ (k : Nat) (o : Con), k < st.length → (st ++ [Cell.mu o])[k]? = st[k]? := fun k o hk => List.getElem?_append_left hk
    have ne : ∀ (k : Nat) (o : Con), k < st.length → st[k]? = some (.mu o) → Γ.ρ[k]? = some a → a ≠ p := fun k o hk e1 e2 => by
      obtain ⟨w, q, _⟩ := F.cell k _ a e1 e2
      exact ne_of_none q hp
    by_cases hn : n < st.length
    · have hn2 : n < Γ.ρ.length := by rw [← F.len]; exact hn
      rw [List.getElem?_append_left hn] at h1
      rw [List.getElem?_append_left hn2] at h3'
      by_cases hm : m < st.length
      · have hm2 : m < Γ.ρ.length := by rw [← F.len]; exact hm
        rw [List.getElem?_append_left hm] at h2
        rw [List.getElem?_append_left hm2] at h4'
        exact F.inj n m a o1 o2 h1 h2 h3' h4'
      · have hm' : m = st.length := by
          have := (List.getElem?_eq_some_iff.mp h2).1
          simp at this; omega
        subst hm'
        rw [F.len] at h4'
        simp at h4'
        exact ((ne n o1 hn h1 h3') h4'.symm).elim
    · have hn' : n = st.length := by
        have := (List.getElem?_eq_some_iff.mp h1).1
        simp at this; omega
      subst hn'
      rw [F.len] at h3'
      simp at h3'
      by_cases hm : m < st.length
      · have hm2 : m < Γ.ρ.length := by rw [← F.len]; exact hm
        rw [List.getElem?_append_left hm] at h2
        rw [List.getElem?_append_left hm2] at h4'
        exact ((ne m o2 hm h2 h4') h3'.symm).elim
      · have := (List.getElem?_eq_some_iff.mp h2).1
        simp at this; omega
/-- a cell is written -/
theorem StOk.setC {st : Store} {n : Nat} {a : Addr} {o o' : Con} {u : HO} (F : StOk c Γ st H) (h : st[n]? = some (.mu o)) (ha : Γ.ρ[n]? = some a) (ho : ConOk c Γ o' u) : StOk c Γ (st.set n (.mu o')) (upd H a u) := by
  obtain ⟨w, h1, h2, h3, h4⟩ := F.cell n _ a h ha
  have hlt := (List.getElem?_eq_some_iff.mp h).1
  have back : ∀ (m : Nat) (p : Con), (st.set n (.mu o'))[m]? = some (.mu p) → ∃ p', st[m]? = some (.mu p') := fun m p e => by
    by_cases hm : n = m
    · subst hm; exact ⟨o, h⟩
    · rw [List.getElem?_set_ne hm] at e; exact ⟨p, e⟩
  refine ⟨fun b x e => ?_, fun b x e => ?_, F.gl, by simpa using F.len, fun m x b e1 e2 => ?_, fun m k b p p' e1 e2 e3 e4 => ?_⟩
  · have : b ≠ a := fun z => by rw [z, h3] at e; cases e
    rw [upd_ne this]; exact F.g _ _ e
  · have : b ≠ a := fun z => by rw [z, h4] at e; cases e
    rw [upd_ne this]; exact F.l _ _ e
  · by_cases hm : n = m
    · subst hm
      rw [List.getElem?_set_self hlt] at e1
      cases e1
      rw [ha] at e2; cases e2
      exact ⟨u, upd_same, ho, h3, h4⟩
    · rw [List.getElem?_set_ne hm] at e1
      have q := F.cell m x b e1 e2
      cases x with
      | mu p =>
        obtain ⟨w', q1, q2, q3, q4⟩ := q
        have : b ≠ a := fun z => by subst z; exact hm (F.inj n m b o p h e1 ha e2)
        exact ⟨w', by rw [upd_ne this]; exact q1, q2, q3, q4⟩
      | fz l => exact q
      | dead => trivial
  · obtain ⟨q1, r1⟩ := back m p e1
    obtain ⟨q2, r2⟩ := back k p' e2
    exact F.inj m k b q1 q2 r1 r2 e3 e4
/-- what is known of a cell no longer matters -/
theorem StOk.drop {st : Store} {n : Nat} {x : Cell} (F : StOk c Γ st H) (hx : ∀ a, Γ.ρ[n]? = some a → CellOk c Γ H a x) (hm : ∀ o, x ≠ .mu o) : StOk c Γ (st.set n x) H := by
  refine ⟨F.g, F.l, F.gl, by simpa using F.len, fun m y b e1 e2 => ?_, fun m k b p p' e1 e2 e3 e4 => ?_⟩
  · by_cases h : n = m
    · subst h
      have hlt := (List.getElem?_eq_some_iff.mp e1).1
      simp at hlt
      rw [List.getElem?_set_self hlt] at e1
      cases e1
      exact hx b e2
    · rw [List.getElem?_set_ne h] at e1
      exact F.cell m y b e1 e2
  · have old : ∀ (m : Nat) (p : Con), (st.set n x)[m]? = some (.mu p) → st[m]? = some (.mu p) := fun m p e => by
      by_cases h : n = m
      · subst h
        have hlt := (List.getElem?_eq_some_iff.mp e).1
        simp at hlt
        rw [List.getElem?_set_self hlt] at e
        cases e
        exact (hm p rfl).elim
      · rw [List.getElem?_set_ne h] at e; exact e
    exact F.inj m k b p p' (old m p e1) (old k p' e2) e3 e4
/-- G takes in what stands at an address, no cell's any more -/
theorem StOk.takeG {st : Store} {a : Addr} {o : HO} (F : StOk c Γ st H) (h : H a = some o) (hg : Γ.G a = none) (hL : Γ.L a = none) (hn : ∀ (n : Nat) (p : Con), st[n]? = some (.mu p) → Γ.ρ[n]? ≠ some a) : StOk c { Γ with G := upd Γ.G a o } st H where
  g := fun b u e => by
    have e' : upd Γ.G a o b = some u := e
    by_cases hb : b = a
    · subst hb; rw [upd_same] at e'; cases e'; exact h
    · rw [upd_ne hb] at e'; exact F.g _ _ e'
  l := F.l
  gl := fun b u e => by
    show upd Γ.G a o b = none
    have : b ≠ a := fun z => by
      have e' : Γ.L b = some u := e
      rw [z, hL] at e'; cases e'
    rw [upd_ne this]; exact F.gl b u e
  len := F.len
  cell := fun n x b e1 e2 => by
    have ex : Ext Γ.G (upd Γ.G a o) := Ext.upd hg
    have le : Γ.le { Γ with G := upd Γ.G a o } := ⟨ex, rfl, [], by simp⟩
    have q := F.cell n x b e1 e2
    cases x with
    | mu p =>
      obtain ⟨w, q1, q2, q3, q4⟩ := q
      have hb : b ≠ a := fun z => hn n p e1 (by rw [← z]; exact e2)
      exact ⟨w, q1, q2.mono le, by show upd Γ.G a o b = none; rw [upd_ne hb]; exact q3, q4⟩
    | fz l => obtain ⟨vs, q1, q2⟩ := q; exact ⟨vs, ex _ _ q1, RepL.mono ex q2⟩
    | dead => trivial
  inj := F.inj
theorem FrOk.of {Γ' : Gh} {st' : Store} {H' : Hp} (F : FrOk c Γ S σ H) (e : Γ.le Γ') (F' : StOk c Γ' st' H') : FrOk c Γ' { S with st := st' } σ H' :=
  ⟨F', F.len, fun i x h => let ⟨v, h1, h2⟩ := F.sl i x h; ⟨v, h1, h2.mono e⟩⟩
end
/-- an object's data, a screen's -/
def objD (k : Nat) (fs : List (Str × D)) : Option D := match fs with
  | [] => none
  | f :: r => match f.2 with
    | .tup l => if k = 0 ∧ f.1 = "own_levels" ∧ r.isEmpty = true then some (.scr l) else none
    | _ => none
/-- a value as pure data: a list's cell is frozen, a made screen is one -/
def pureC (n : Nat) (S : Sg) : Option Cell → Res D
  | some (.fz l) => .ok (.lst l) S
  | some (.mu o) => match o with
    | .lst l => .ok (.lst l) { S with st := S.st.set n (.fz l) }
    | .dct kvs => if kvs.isEmpty = true then .ok .edct { S with st := S.st.set n .dead } else .bad
    | .obj k fs => match objD k fs with
      | some d => .ok d { S with st := S.st.set n .dead }
      | none => .bad
  | _ => .bad
def pure1 : R → M D
  | .p d => pure d
  | .r n => fun S => pureC n S S.st[n]?
section
variable {c : Cg} {W : WX} {Γ : Gh} {S : Sg} {σ : L2.St} {H : Hp} {x : R} {v : V} {l : List D}
theorem freeze_aux {n : Nat} {o : Con} {a : Addr} {u : HO} {d : D} {y : Cell} (F : FrOk c Γ S σ H) (h : S.st[n]? = some (.mu o)) (ha : Γ.ρ[n]? = some a) (hu : H a = some u) (hG : Γ.G a = none) (hL : Γ.L a = none)
    (hd : Rep c (upd Γ.G a u) d (.ref a)) (hy : ∀ o, y ≠ .mu o) (hc : CellOk c { Γ with G := upd Γ.G a u } H a y) :
    ∃ Γ', Γ.le Γ' ∧ FrOk c Γ' { S with st := S.st.set n y } σ H ∧ Rep c Γ'.G d (.ref a) := by
  have ex : Ext Γ.G (upd Γ.G a u) := Ext.upd hG
  have le : Γ.le { Γ with G := upd Γ.G a u } := ⟨ex, rfl, [], by simp⟩
  have F1 : StOk c Γ (S.st.set n .dead) H := F.s.drop (fun _ _ => trivial) (fun _ => by simp)
  have F2 : StOk c { Γ with G := upd Γ.G a u } (S.st.set n .dead) H := F1.takeG hu hG hL fun m p e1 e2 => by
    by_cases hm : n = m
    · subst hm
      have hlt := (List.getElem?_eq_some_iff.mp h).1
      rw [List.getElem?_set_self hlt] at e1
      cases e1
    · rw [List.getElem?_set_ne hm] at e1
      exact hm (F.s.inj n m a o p h e1 ha e2)
  have F3 : StOk c { Γ with G := upd Γ.G a u } ((S.st.set n .dead).set n y) H := F2.drop (fun b hb => by
    have hb' : Γ.ρ[n]? = some b := hb
    rw [ha] at hb'; cases hb'; exact hc) hy
  rw [List.set_set] at F3
  exact ⟨_, le, F.of le F3, hd⟩
theorem objD_some {k : Nat} {fs : List (Str × D)} {d : D} (h : objD k fs = some d) : ∃ l, d = .scr l ∧ k = 0 ∧ fs = [(("own_levels" : Str), D.tup l)] := by
  cases fs with
  | nil => cases h
  | cons f r =>
    obtain ⟨nm, x⟩ := f
    cases x with
    | tup l =>
      have h : (if k = 0 ∧ nm = "own_levels" ∧ r.isEmpty = true then some (D.scr l) else none) = some d := h
      by_cases q : k = 0 ∧ nm = "own_levels" ∧ r.isEmpty = true
      · rw [if_pos q] at h
        cases h
        obtain ⟨q1, q2, q3⟩ := q
        subst q1 q2
        cases r with
        | nil => exact ⟨l, rfl, rfl, rfl⟩
        | cons y ys => cases q3
      · rw [if_neg q] at h; cases h
    | _ => cases h
theorem pure1_ok {K : D → Sg → Gh → Hp → Prop} (F : FrOk c Γ S σ H) (hx : RepR c Γ x v) (P : Post c W σ Γ (pure1 x S) K) : ∃ d Γ' S', Γ.le Γ' ∧ FrOk c Γ' S' σ H ∧ Rep c Γ'.G d v ∧ K d S' Γ' H := by
  cases x with
  | p d => exact ⟨d, Γ, S, Gh.le.refl, F, hx, Post.ok (c := c) (W := W) P Gh.le.refl F⟩
  | r n =>
    obtain ⟨a, ha, hv⟩ := hx
    subst hv
    have P : Post c W σ Γ (pureC n S S.st[n]?) K := P
    cases e : S.st[n]? with
    | none => rw [e] at P; exact P.elim
    | some y =>
      rw [e] at P
      cases y with
      | dead => exact P.elim
      | fz l =>
        obtain ⟨a', vs, h1, h2, h3⟩ := F.s.fro e
        rw [ha] at h1; cases h1
        exact ⟨.lst l, Γ, S, Gh.le.refl, F, Rep.lst_iff.mpr ⟨a, vs, rfl, h2, h3⟩, Post.ok (c := c) (W := W) P Gh.le.refl F⟩
      | mu o =>
        obtain ⟨u, h1, h2, h4, h5⟩ := F.s.cell n _ a e ha
        cases o with
        | lst l =>
          obtain ⟨vs, h2, h3⟩ := h2
          subst h2
          have ex : Ext Γ.G (upd Γ.G a (.lst vs)) := Ext.upd h4
          obtain ⟨Γ', le, F', R'⟩ := freeze_aux (d := .lst l) (y := .fz l) F e ha h1 h4 h5 (Rep.lst_iff.mpr ⟨a, vs, rfl, upd_same, RepL.mono ex h3⟩) (fun _ => by simp) ⟨vs, upd_same, RepL.mono ex h3⟩
          exact ⟨_, Γ', _, le, F', R', Post.ok (c := c) (W := W) P le F'⟩
        | dct kvs =>
          have P : Post c W σ Γ (if kvs.isEmpty = true then Res.ok D.edct { S with st := S.st.set n .dead } else .bad) K := P
          by_cases hk : kvs.isEmpty = true
          · rw [if_pos hk] at P
            obtain ⟨_, h2⟩ := h2
            subst h2
            obtain ⟨Γ', le, F', R'⟩ := freeze_aux (d := .edct) (y := .dead) F e ha h1 h4 h5 (Rep.edct_iff.mpr ⟨a, rfl, upd_same⟩) (fun _ => by simp) trivial
            exact ⟨_, Γ', _, le, F', R', Post.ok (c := c) (W := W) P le F'⟩
          · rw [if_neg hk] at P; exact P.elim
        | obj k fs =>
          have P : Post c W σ Γ (match objD k fs with | some d => Res.ok d { S with st := S.st.set n .dead } | none => .bad) K := P
          cases hd : objD k fs with
          | none => rw [hd] at P; exact P.elim
          | some d =>
            rw [hd] at P
            obtain ⟨l, rfl, rfl, rfl⟩ := objD_some hd
            obtain ⟨dx, fs, h2, v', r, h3, h3', h3''⟩ := h2
            have h3b : r = [] := h3''
            subst h3b h3 h2
            obtain ⟨b, vs, k1, k2, k3⟩ := Rep.tup_iff.mp h3'
            subst k1
            have ex : Ext Γ.G (upd Γ.G a (.ins (c.cls 0) dx [("own_levels", .ref b)])) := Ext.upd h4
            obtain ⟨Γ', le, F', R'⟩ := freeze_aux (d := .scr l) (y := .dead) F e ha h1 h4 h5 (Rep.scr_iff.mpr ⟨a, dx, b, vs, rfl, upd_same, TupS.mono ex k2, RepL.mono ex k3⟩) (fun _ => by simp) trivial
            exact ⟨_, Γ', _, le, F', R', Post.ok (c := c) (W := W) P le F'⟩
end
end Dd

set_option Elab.async false
set_option linter.all false
set_option maxRecDepth 100000
namespace Dd
open PySem PySem.Spec PyProof.Rows L2

/-! ### argument lists, displays -/
def aN : M (List R) := pure []
def aC (f : M R) (g : M (List R)) : M (List R) := do
  let x ← f
  let xs ← g
  pure (x :: xs)
def pur (f : M R) : M R := do
  let x ← f
  let d ← pure1 x
  pure (.p d)
def pureL : List R → M (List D)
  | [] => pure []
  | x :: xs => do
    let d ← pure1 x
    let ds ← pureL xs
    pure (d :: ds)
def allocT (ds : List D) : M R := fun S => if ds.length ≤ sizeLine then .ok (.p (.tup ds)) S else .bad
def allocL (ds : List D) : M R := fun S => if ds.length ≤ sizeLine then .ok (.r S.st.length) { S with st := S.st ++ [.mu (.lst ds)] } else .bad
def tupE (g : M (List R)) : M R := do
  let xs ← g
  let ds ← pureL xs
  allocT ds
def lstE (g : M (List R)) : M R := do
  let xs ← g
  let ds ← pureL xs
  allocL ds
section
variable {X : Cx} {c : Cg} {W : WX} {e a b : Expr} {es : List Expr} {f fa fb : M R} {g : M (List R)} {pos : Pos}
theorem sa_nil : PA X [] (rdA c W aN) := sa_of pa_nil fun σ H Q q => by
  obtain ⟨Γ, S, F, P⟩ := q
  exact Post.ok (c := c) (W := W) P Gh.le.refl F [] rfl
theorem sa_cons (ha : PE X e (rdE c W f)) (hr : PA X es (rdA c W g)) (hs : starEach (e :: es) X.env = (false, eval e X.env) :: starEach es X.env := by rfl) : PA X (e :: es) (rdA c W (aC f g)) :=
  sa_of (pa_cons ha hr hs) fun σ H Q q => by
    obtain ⟨Γ, S, F, P⟩ := q
    refine ⟨Γ, S, F, ?_⟩
    refine (Post.bind P).imp fun x S1 Γ1 H1 e1 F1 ⟨_, P1⟩ v hv => ?_
    refine ⟨Γ1, S1, F1, ?_⟩
    refine (Post.bind P1).imp fun xs S2 Γ2 H2 e2 F2 ⟨_, P2⟩ vs hvs => ?_
    exact Post.ok (c := c) (W := W) P2 Gh.le.refl F2 (v :: vs) ⟨v, vs, rfl, hv.mono e2, hvs⟩
theorem se_pur (ha : PE X e (rdE c W f)) : PE X e (rdE c W (pur f)) := se_of ha fun σ H Q q => by
  obtain ⟨Γ, S, F, P⟩ := q
  refine ⟨Γ, S, F, ?_⟩
  refine (Post.bind P).imp fun x S1 Γ1 H1 e1 F1 ⟨_, P1⟩ v hv => ?_
  obtain ⟨d, Γ2, S2, e2, F2, hd, _, P2⟩ := pure1_ok F1 hv (Post.bind P1)
  exact Post.ok (c := c) (W := W) P2 Gh.le.refl F2 v hd
theorem pureL_ok {σ : L2.St} {H : Hp} : ∀ {xs : List R} {vs : List V} {Γ : Gh} {S : Sg} {K : List D → Sg → Gh → Hp → Prop}, FrOk c Γ S σ H → RepRL c Γ xs vs → Post c W σ Γ (pureL xs S) K → ∃ ds Γ' S', Γ.le Γ' ∧ FrOk c Γ' S' σ H ∧ RepL c Γ'.G ds vs ∧ K ds S' Γ' H
  | [], vs, Γ, S, K, F, hx, P => ⟨[], Γ, S, Gh.le.refl, F, RepL.nil_iff.mpr hx, Post.ok (c := c) (W := W) P Gh.le.refl F⟩
  | x :: xs, vs, Γ, S, K, F, hx, P => by
    obtain ⟨v, r, rfl, h1, h2⟩ := hx
    obtain ⟨d, Γ1, S1, e1, F1, hd, _, P1⟩ := pure1_ok F h1 (Post.bind P)
    obtain ⟨ds, Γ2, S2, e2, F2, hds, _, P2⟩ := pureL_ok F1 (RepRL.mono e1 h2) (Post.bind P1)
    exact ⟨d :: ds, Γ2, S2, e1.trans e2, F2, RepL.cons (Rep.mono e2.g hd) hds, Post.ok (c := c) (W := W) P2 Gh.le.refl F2⟩
/-- a tuple that is made: known to have no dict -/
def tTupF (t : TA) : TE := fun σ H Q => t σ H fun xs H1 => xs.length ≤ sizeLine ∧ ∀ p o, H1 p = none → o.dict = none → Q (.ref p) (upd H1 p (.frz o (.tup xs)))
theorem pe_tupF {x1} {t : TA} (h : PA X es t) : PE X (.Tuple es x1 pos) (tTupF t) := by
  refine ⟨fun pins s σ H Q I hq => ?_⟩
  refine wpAny_Tuple_spliced (thn (h.run pos pins s σ H _ I hq) fun us s1 ⟨xs, H1, I1, r, z, q⟩ => ⟨by rw [← r.length]; exact z, ?_⟩)
  have hf : H1 s1.heap.objs.size = none := I1.hok.fresh (Nat.le_refl _)
  refine ⟨.ref s1.heap.objs.size, upd H1 s1.heap.objs.size (.frz { cls := .type "tuple", data := .seq us.toArray } (.tup xs)), I1.laid (t' := s1.toks) (fun b u e => Heap.get?_push_of_some _ e) (Nat.le_refl _) ?_, rfl, q _ _ hf rfl⟩
  exact ⟨Heap.get?_push_size _ rfl, z, us, r, ⟨_, Heap.get?_push_size _ rfl, rfl, _, rfl⟩⟩
theorem newT_ok {Γ : Gh} {S : Sg} {σ : L2.St} {H : Hp} {ds : List D} {vs : List V} {p : Addr} {o : Obj} (F : FrOk c Γ S σ H) (h : RepL c Γ.G ds vs) (hp : H p = none) (ho : o.dict = none) :
    ∃ Γ', Γ.le Γ' ∧ FrOk c Γ' S σ (upd H p (.frz o (.tup vs))) ∧ Rep c Γ'.G (.tup ds) (.ref p) := by
  have hG : Γ.G p = none := Ext.none F.s.g hp
  have ex : Ext Γ.G (upd Γ.G p (.frz o (.tup vs))) := Ext.upd hG
  have le : Γ.le { Γ with G := upd Γ.G p (.frz o (.tup vs)) } := ⟨ex, rfl, [], by simp⟩
  exact ⟨_, le, F.of le (F.s.newG hp), Rep.tup_iff.mpr ⟨p, vs, rfl, .inl ⟨o, upd_same, ho⟩, RepL.mono ex h⟩⟩
theorem newL_ok {Γ : Gh} {S : Sg} {σ : L2.St} {H : Hp} {ds : List D} {vs : List V} {p : Addr} (F : FrOk c Γ S σ H) (h : RepL c Γ.G ds vs) (hp : H p = none) :
    ∃ Γ', Γ.le Γ' ∧ FrOk c Γ' { S with st := S.st ++ [.mu (.lst ds)] } σ (upd H p (.lst vs)) ∧ RepR c Γ' (.r S.st.length) (.ref p) := by
  have le : Γ.le { Γ with ρ := Γ.ρ ++ [p] } := ⟨Ext.refl, rfl, [p], rfl⟩
  refine ⟨_, le, F.of le (F.s.newC hp ⟨vs, rfl, h⟩), p, ?_, rfl⟩
  show (Γ.ρ ++ [p])[S.st.length]? = some p
  rw [F.s.len]; simp
theorem se_tup {x1} (h : PA X es (rdA c W g)) : PE X (.Tuple es x1 pos) (rdE c W (tupE g)) := se_of (pe_tupF h) fun σ H Q q => by
  obtain ⟨Γ, S, F, P⟩ := q
  refine ⟨Γ, S, F, ?_⟩
  refine (Post.bind P).imp fun xs S1 Γ1 H1 e1 F1 ⟨_, P1⟩ vs hvs => ?_
  obtain ⟨ds, Γ2, S2, e2, F2, hds, _, P2⟩ := pureL_ok F1 hvs (Post.bind P1)
  unfold allocT at P2
  by_cases hz : ds.length ≤ sizeLine
  · rw [if_pos hz] at P2
    refine ⟨by rw [hds.length]; exact hz, fun p o hp ho => ?_⟩
    obtain ⟨Γ3, e3, F3, r3⟩ := newT_ok F2 hds hp ho
    exact P2.ok e3 F3 _ r3
  · rw [if_neg hz] at P2; exact P2.elim
theorem se_lst (h : PA X es (rdA c W g)) : PE X (.List es pos) (rdE c W (lstE g)) := se_of (pe_lst h) fun σ H Q q => by
  obtain ⟨Γ, S, F, P⟩ := q
  refine ⟨Γ, S, F, ?_⟩
  refine (Post.bind P).imp fun xs S1 Γ1 H1 e1 F1 ⟨_, P1⟩ vs hvs => ?_
  obtain ⟨ds, Γ2, S2, e2, F2, hds, _, P2⟩ := pureL_ok F1 hvs (Post.bind P1)
  unfold allocL at P2
  by_cases hz : ds.length ≤ sizeLine
  · rw [if_pos hz] at P2
    refine ⟨by rw [hds.length]; exact hz, fun p hp => ?_⟩
    obtain ⟨Γ3, e3, F3, r3⟩ := newL_ok F2 hds hp
    exact P2.ok e3 F3 _ r3
  · rw [if_neg hz] at P2; exact P2.elim
end

/-! ### functions -/
inductive FR where
  | val (d : D) | new (o : Con)
inductive FRes where
  | ok (r : FR) (st : Store) | exc (x : Xn) (st : Store) | bad
abbrev Fn := List R → Store → FRes
def applyF (S : Sg) : FRes → Res R
  | .ok (.val d) st => .ok (.p d) { S with st := st }
  | .ok (.new o) st => .ok (.r st.length) { S with st := st ++ [.mu o] }
  | .exc x st => .exc x { S with st := st }
  | .bad => .bad
def callM (F : Fn) (n : Nat) (g : M (List R)) : M R := do
  let xs ← g
  fun S => if xs.length = n then applyF S (F xs S.st) else .bad
def FPost (c : Cg) (Γ : Gh) (r : FRes) (Q : VK) (E : XK) : Prop := match r with
  | .ok (.val d) st => ∀ Γ' H' v, Γ.le Γ' → StOk c Γ' st H' → Rep c Γ'.G d v → Q v H'
  | .ok (.new o) st => ∀ Γ' H' a, Γ.le Γ' → StOk c { Γ' with ρ := Γ'.ρ ++ [a] } (st ++ [.mu o]) H' → Q (.ref a) H'
  | .exc x st => ∀ Γ' H' cls dd, Γ.le Γ' → StOk c Γ' st H' → XRep c Γ' H' x cls dd → E cls dd H'
  | .bad => False
def spF (c : Cg) (n : Nat) (F : Fn) : Sp := fun vs H Q E => ∃ xs Γ st, vs.length = n ∧ RepRL c Γ xs vs ∧ StOk c Γ st H ∧ FPost c Γ (F xs st) Q E
theorem le_app {Γ : Gh} {a : Addr} : Γ.le { Γ with ρ := Γ.ρ ++ [a] } := ⟨Ext.refl, rfl, [a], rfl⟩
/-- from the wish at an expression to the promise -/
theorem applyF_ok {c : Cg} {W : WX} {Γ : Gh} {S : Sg} {σ : L2.St} {H : Hp} {r : FRes} {Q : VK} (F : FrOk c Γ S σ H) (P : Post c W σ Γ (applyF S r) fun x S' Γ' H' => ∀ v, RepR c Γ' x v → Q v H') : FPost c Γ r Q (WE W σ) := by
  cases r with
  | bad => exact P.elim
  | exc x st => exact fun Γ' H' cls dd e s q => P Γ' H' cls dd e (F.of e s) q
  | ok r st =>
    cases r with
    | val d => exact fun Γ' H' v e s q => Post.ok (c := c) (W := W) P e (F.of e s) v q
    | new o =>
      intro Γ' H' a e s
      have e' : Γ.le { Γ' with ρ := Γ'.ρ ++ [a] } := e.trans le_app
      refine Post.ok (c := c) (W := W) P e' (F.of e' s) (.ref a) ⟨a, ?_, rfl⟩
      show (Γ'.ρ ++ [a])[st.length]? = some a
      have hl := s.len
      simp at hl
      rw [hl]; simp
/-- a def's promise where no repr is under way -/
structure FnG (P : Program) (w : World) (K : PySem.W.Frag) (mg : Str → Option Value) (base : Heap) (k : Nat) (f : Addr) (fd : FuncData) (ps : List Str) (sp : Sp) : Prop where
  len : ∀ vs H Q E, sp vs H Q E → vs.length = ps.length
  run : ∀ (A : Around) (outer : List Env) (s : Shared) (H : Hp) (args : Args) (us : List Value) (vs : List V) (Q : VK) (E : XK), A.guards = some [] → Room k A → Env0 P w K mg base A outer s H → BindsTo s fd args (ps.zip us) → Vals vs us → sp vs H Q E →
    codeAny (model P w) A (.call (.ref f) args) (CR (L2.CX P w) outer P w H s Q E) s
/-- how a call's outcome is taken -/
theorem taken {X : Cx} {pins : List (Addr × Obj)} {σ : L2.St} {H : Hp} {s s' : Shared} {Q : VK} {E : XK} {r : Result} (hx : PassesAt (L2.CX X.prog X.w) X σ E) (I : L2.Inv X pins σ H s) (h : CR (L2.CX X.prog X.w) X.stack X.prog X.w H s Q E r s') :
    (∃ e, r = .error e ∧ X.xe e s') ∨ ∃ u, r = .ok (.ret u) ∧ EP X pins σ Q u s' := by
  match r, h with
  | .error e, h => exact .inl ⟨e, rfl, hx pins H s e s' I h⟩
  | .ok (.ret u), h => exact .inr ⟨u, rfl, I.after h⟩
theorem run_fnG {X : Cx} {pins : List (Addr × Obj)} {σ : L2.St} {H : Hp} {s : Shared} {Q : VK} {us : List Value} {vs : List V} {E : XK} {k : Nat} {f : Addr} {fd : FuncData} {ps : List Str} {sp : Sp} (F : FnG X.prog X.w X.K X.mg X.base k f fd ps sp) (hG : X.A.guards = some []) (hr : Room k X.A) (hb : Binds X.K fd ps [])
    (hx : PassesAt (L2.CX X.prog X.w) X σ E) (I : L2.Inv X pins σ H s) (r : Vals vs us) (h : sp vs H Q E) : wpAny (model X.prog X.w) X.A (call (.ref f) us) (EP X pins σ Q) X.xe s := by
  have hl : (us ++ []).length = ps.length := by rw [List.append_nil, ← r.length]; exact F.len _ _ _ _ h
  have b := hb s us I.kIn hl
  simp only [List.append_nil] at b
  refine wpAny_call (codeAny_mono (F.run X.A X.stack s H _ us vs Q E hG hr I.env0 b r h) fun r s' hq => ?_)
  rcases taken hx I hq with ⟨e, rfl, q⟩ | ⟨u, rfl, q⟩
  · exact q
  · exact q
theorem pe_callG {X : Cx} {W : WX} {p pos : Pos} {x : Str} {e : Expr} {es : List Expr} {t : TA} {k : Nat} {f : Addr} {fd : FuncData} {ps : List Str} {sp : Sp} (F : FnG X.prog X.w X.K X.mg X.base k f fd ps sp) (hG : X.A.guards = some []) (hr : Room k X.A) (hg : Gl X x) (hm : X.mg x = some (.ref f)) (hk : PySem.W.keepIn X.K (.ref f) = true) (hb : Binds X.K fd ps []) (tk : Takes X W)
    (ha : PA X (e :: es) t) (hdb : (x == ("__debug__" : Str)) = false) (he : starEach (e :: es) X.env = (false, eval e X.env) :: starEach es X.env) (hpl : (backTo pos (starEach es X.env)).any (·.1) = false) :
    PE X (.Call (.Name x p) (e :: es) [] pos) (tCallS sp (WE W) t) :=
  ⟨fun pins s σ H Q I h => wpAny_Call_Name_kw (ld_glob I hg hm (PySem.W.callWith_K (h₀ := X.base) I.ok.mod.kin hk (thn (ha.run pos pins s σ H _ I h) fun us s1 ⟨vs, H1, I1, r, q⟩ => ⟨I1.kIn, run_fnG F hG hr hb (passAt tk σ) I1 r q⟩) he hpl) hdb)⟩
section
variable {X : Cx} {c : Cg} {W : WX} {e a b o : Expr} {es : List Expr} {f fa fb : M R} {g : M (List R)} {pos p apos : Pos} {F : Fn} {n k : Nat} {fA C : Addr} {fd : FuncData} {ps : List Str} {x m : Str}
theorem callM_read {σ : L2.St} {H : Hp} {Q : VK} (q : rdE c W (callM F n g) σ H Q) : rdA c W g σ H fun vs H1 => spF c n F vs H1 Q (WE W σ) := by
  obtain ⟨Γ, S, Fo, P⟩ := q
  refine ⟨Γ, S, Fo, ?_⟩
  refine (Post.bind P).imp fun xs S1 Γ1 H1 e1 F1 ⟨_, P1⟩ vs hvs => ?_
  by_cases h : xs.length = n
  · rw [if_pos h] at P1
    exact ⟨xs, Γ1, S1.st, by rw [hvs.length, h], hvs, F1.s, applyF_ok F1 P1⟩
  · rw [if_neg h] at P1; exact P1.elim
theorem se_call (Fk : FnG X.prog X.w X.K X.mg X.base k fA fd ps (spF c n F)) (hG : X.A.guards = some []) (hr : Room k X.A) (hg : Gl X x) (hm : X.mg x = some (.ref fA)) (hk : PySem.W.keepIn X.K (.ref fA) = true) (hb : Binds X.K fd ps []) (tk : Takes X W)
    (ha : PA X (e :: es) (rdA c W g)) (hdb : (x == ("__debug__" : Str)) = false := by decide) (he : starEach (e :: es) X.env = (false, eval e X.env) :: starEach es X.env := by rfl) (hpl : (backTo pos (starEach es X.env)).any (·.1) = false := by rfl) :
    PE X (.Call (.Name x p) (e :: es) [] pos) (rdE c W (callM F n g)) :=
  se_of (pe_callG Fk hG hr hg hm hk hb tk ha hdb he hpl) fun σ H Q q => callM_read q

/-! ### rules for built-ins -/
def CallD (c : Cg) (W : WX) (op : List R → M R) (r : List V → Hp → VK → Prop) : Prop :=
  ∀ (Γ : Gh) (S : Sg) (σ : L2.St) (H : Hp) (xs : List R) (vs : List V) (Q : VK), FrOk c Γ S σ H → RepRL c Γ xs vs →
    Post c W σ Γ (op xs S) (fun z S' Γ' H' => ∀ u, RepR c Γ' z u → Q u H') → r vs H Q
def opA (op : List R → M R) (g : M (List R)) : M R := g >>= op
theorem opA_read {op : List R → M R} {r : List V → Hp → VK → Prop} (hd : CallD c W op r) {σ : L2.St} {H : Hp} {Q : VK} (q : rdE c W (opA op g) σ H Q) : tCB r (rdA c W g) σ H Q := by
  obtain ⟨Γ, S, F, P⟩ := q
  refine ⟨Γ, S, F, ?_⟩
  refine (Post.bind P).imp fun xs S1 Γ1 H1 e1 F1 ⟨_, P1⟩ vs hvs => ?_
  exact hd Γ1 S1 σ H1 xs vs Q F1 hvs P1
theorem se_callB {id : String} {op : List R → M R} {r : List V → Hp → VK → Prop} (hc : CallR X (.builtin id) r) (hd : CallD c W op r) (hg : Gl X x) (hm : X.mg x = none) (hv : bootBuiltins x = some (.builtin id)) (ha : PA X (e :: es) (rdA c W g)) (hn : x ≠ "__name__" := by decide) (hdb : (x == ("__debug__" : Str)) = false := by decide)
    (he : starEach (e :: es) X.env = (false, eval e X.env) :: starEach es X.env := by rfl) (hpl : (backTo pos (starEach es X.env)).any (·.1) = false := by rfl) : PE X (.Call (.Name x p) (e :: es) [] pos) (rdE c W (opA op g)) :=
  se_of (pe_callB hc hg hm hv ha hn hdb he hpl) fun σ H Q q => opA_read hd q
theorem se_callTy {T : String} {op : List R → M R} {r : List V → Hp → VK → Prop} (hc : CallR X (.type T) r) (hd : CallD c W op r) (hg : Gl X x) (hm : X.mg x = none) (hv : bootBuiltins x = some (.type T)) (ha : PA X (e :: es) (rdA c W g)) (hn : x ≠ "__name__" := by decide) (hdb : (x == ("__debug__" : Str)) = false := by decide)
    (he : starEach (e :: es) X.env = (false, eval e X.env) :: starEach es X.env := by rfl) (hpl : (backTo pos (starEach es X.env)).any (·.1) = false := by rfl) : PE X (.Call (.Name x p) (e :: es) [] pos) (rdE c W (opA op g)) :=
  se_of (pe_callTy hc hg hm hv ha hn hdb he hpl) fun σ H Q q => opA_read hd q
/-- a method of a built-in type: the receiver looked at ahead of the arguments -/
def MtD (c : Cg) (W : WX) (op : R → List R → M R) (r : V → List V → Hp → VK → Prop) : Prop :=
  ∀ (Γ : Gh) (S : Sg) (σ : L2.St) (H : Hp) (x : R) (v : V) (xs : List R) (vs : List V) (Q : VK), FrOk c Γ S σ H → RepR c Γ x v → RepRL c Γ xs vs →
    Post c W σ Γ (op x xs S) (fun z S' Γ' H' => ∀ u, RepR c Γ' z u → Q u H') → r v vs H Q
/-- what is asked of the receiver -/
def TyD (c : Cg) (chk : R → Sg → Bool) (ty : V → Hp → Prop) : Prop := ∀ (Γ : Gh) (S : Sg) (σ : L2.St) (H : Hp) (x : R) (v : V), FrOk c Γ S σ H → RepR c Γ x v → chk x S = true → ty v H
def methM (chk : R → Sg → Bool) (op : R → List R → M R) (f : M R) (g : M (List R)) : M R := do
  let x ← f
  fun S => if chk x S = true then (g >>= op x) S else .bad
def tMg (ty : V → Hp → Prop) (r : V → List V → Hp → VK → Prop) (to : TE) (t : TA) : TE := fun σ H Q => to σ H fun x H1 => ty x H1 ∧ t σ H1 fun xs H2 => r x xs H2 Q
theorem methM_read {chk : R → Sg → Bool} {ty : V → Hp → Prop} {op : R → List R → M R} {r : V → List V → Hp → VK → Prop} (ht : TyD c chk ty) (hd : MtD c W op r) {σ : L2.St} {H : Hp} {Q : VK} (q : rdE c W (methM chk op f g) σ H Q) : tMg ty r (rdE c W f) (rdA c W g) σ H Q := by
  obtain ⟨Γ, S, F, P⟩ := q
  refine ⟨Γ, S, F, ?_⟩
  refine (Post.bind P).imp fun x S1 Γ1 H1 e1 F1 ⟨_, P1⟩ v hv => ?_
  by_cases h : chk x S1 = true
  · rw [if_pos h] at P1
    refine ⟨ht Γ1 S1 σ H1 x v F1 hv h, Γ1, S1, F1, ?_⟩
    refine (Post.bind P1).imp fun xs S2 Γ2 H2 e2 F2 ⟨_, P2⟩ vs hvs => ?_
    exact hd Γ2 S2 σ H2 x v xs vs Q F2 (hv.mono e2) hvs P2
  · rw [if_neg h] at P1; exact P1.elim
/-- the rules of method calls, the type told by any predicate -/
structure TyOk (X : Cx) (T : String) (ty : V → Hp → Prop) : Prop where
  is : ∀ (pins : List (Addr × Obj)) (σ : L2.St) (H : Hp) (s : Shared) (x : V) (v : Value), Inv X pins σ H s → RelV x v → ty x H → s.TypeIs v T ∧ ∀ a, v = .ref a → ∃ ob, s.heap.get? a = some ob ∧ ob.dict = none
theorem tyOk_V {T : String} : TyOk X T (tyV X.K T) := ⟨fun _ _ _ _ _ _ I r ty => tyV_is I r ty⟩
theorem tyOk_T : TyOk X "tuple" (fun v H => ∃ a vs, v = .ref a ∧ TupS X.K H a vs) := by
  refine ⟨fun pins σ H s x v I r ty => ?_⟩
  obtain ⟨a, vs, e, h⟩ := ty
  subst e
  obtain rfl : v = Value.ref a := r
  rcases h with ⟨o, h, hd⟩ | ⟨o, its, n, h1, h2, h3, _⟩
  · obtain ⟨e, _, its, _, o', e', hc, _⟩ := (show ObjOk X.prog X.w H s.heap a (.frz o (.tup vs)) from I.hok a _ h)
    rw [e] at e'; cases e'
    exact ⟨⟨_, e, hc⟩, fun b hb => by cases hb; exact ⟨o, e, hd⟩⟩
  · have e := I.kIn a o h1
    exact ⟨⟨_, e, h2⟩, fun b hb => by cases hb; exact ⟨o, e, h3⟩⟩
variable {T id : String} {name : Str} {to : TE} {t : TA} {r : V → List V → Hp → VK → Prop} {ty : V → Hp → Prop} {cpos : Pos}
theorem pe_bmG0 (pa : PlainAttrs T) (slot : Slot T name id) (hty : typeOf (.builtin id) = pure (.type "method_descriptor")) (hT : TyOk X T ty) (hm : MtR X id r) (ho : PE X o to)
    (hbase : attributeBase o name X.env (eval o X.env) = eval o X.env := by rfl) (hline : (apos.endLine == cpos.line) = true := by rfl) : PE X (.Call (.Attribute o name apos) [] [] cpos) (fun σ H Q => to σ H fun x H1 => ty x H1 ∧ r x [] H1 Q) := by
  refine ⟨fun pins s σ H Q I h => ?_⟩
  refine wpAny_Call_method0_late hbase hline (thn (ho.run pins s σ H _ I h) fun v s1 ⟨x, H1, I1, r1, ty, q1⟩ => ?_)
  obtain ⟨h1, h2⟩ := hT.is _ _ _ _ _ _ I1 r1 ty
  exact ⟨T, id, pa, slot, hty, h1, h2, Calls.callWith_builtin rfl (PySem.evalArgs_none (hm pins s1 σ H1 x [] v [] Q I1 r1 .nil q1))⟩
theorem pe_bmG (pa : PlainAttrs T) (slot : Slot T name id) (hty : typeOf (.builtin id) = pure (.type "method_descriptor")) (hT : TyOk X T ty) (hm : MtR X id r) (ho : PE X o to) (ha : PA X (e :: es) t)
    (hbase : attributeBase o name X.env (eval o X.env) = eval o X.env := by rfl)
    (hfew : ((backTo cpos (starEach (e :: es) X.env)).all (fun x => !x.1) && (backToKw cpos (keywordEach [] X.env)).all (fun x => x.1.isSome)
      && decide ((e :: es).length + ([] : List Keyword).length + (if ([] : List Keyword).isEmpty then 0 else 1) < 30)) = true := by rfl)
    (hline : (apos.endLine == cpos.line) = true := by rfl) (hs : starEach (e :: es) X.env = (false, eval e X.env) :: starEach es X.env := by rfl) (hplain : (backTo cpos (starEach es X.env)).any (·.1) = false := by rfl) :
    PE X (.Call (.Attribute o name apos) (e :: es) [] cpos) (tMg ty r to t) := by
  refine ⟨fun pins s σ H Q I h => ?_⟩
  refine wpAny_Call_method_late hbase hfew hline rfl (thn (ho.run pins s σ H _ I h) fun v s1 ⟨x, H1, I1, r1, ty, q1⟩ => ?_)
  obtain ⟨h1, h2⟩ := hT.is _ _ _ _ _ _ I1 r1 ty
  refine ⟨T, id, pa, slot, hty, h1, h2, ?_⟩
  have hA := ha.run cpos pins s1 σ H1 _ I1 q1
  rw [hs] at hA ⊢
  refine Calls.callWith_builtin (by show (false || (backTo cpos (starEach es X.env)).any (·.1)) = false; rw [hplain] <;> rfl) (Calls.evalArgs_plain ?_)
  exact thn hA fun us s2 ⟨vs, H2, I2, r2, q2⟩ => hm pins s2 σ H2 x vs v us Q I2 r1 r2 q2
theorem se_bm {chk : R → Sg → Bool} {op : R → List R → M R} (pa : PlainAttrs T) (slot : Slot T name id) (hty : typeOf (.builtin id) = pure (.type "method_descriptor")) (hT : TyOk X T ty) (hm : MtR X id r) (ht : TyD c chk ty) (hd : MtD c W op r) (ho : PE X o (rdE c W f)) (ha : PA X (e :: es) (rdA c W g))
    (hbase : attributeBase o name X.env (eval o X.env) = eval o X.env := by rfl)
    (hfew : ((backTo cpos (starEach (e :: es) X.env)).all (fun x => !x.1) && (backToKw cpos (keywordEach [] X.env)).all (fun x => x.1.isSome)
      && decide ((e :: es).length + ([] : List Keyword).length + (if ([] : List Keyword).isEmpty then 0 else 1) < 30)) = true := by rfl)
    (hline : (apos.endLine == cpos.line) = true := by rfl) (hs : starEach (e :: es) X.env = (false, eval e X.env) :: starEach es X.env := by rfl) (hplain : (backTo cpos (starEach es X.env)).any (·.1) = false := by rfl) :
    PE X (.Call (.Attribute o name apos) (e :: es) [] cpos) (rdE c W (methM chk op f g)) :=
  se_of (pe_bmG pa slot hty hT hm ho ha hbase hfew hline hs hplain) fun σ H Q q => methM_read ht hd q
theorem se_bm0 {chk : R → Sg → Bool} {op : R → List R → M R} (pa : PlainAttrs T) (slot : Slot T name id) (hty : typeOf (.builtin id) = pure (.type "method_descriptor")) (hT : TyOk X T ty) (hm : MtR X id r) (ht : TyD c chk ty) (hd : MtD c W op r) (ho : PE X o (rdE c W f))
    (hbase : attributeBase o name X.env (eval o X.env) = eval o X.env := by rfl) (hline : (apos.endLine == cpos.line) = true := by rfl) : PE X (.Call (.Attribute o name apos) [] [] cpos) (rdE c W (methM chk op f aN)) :=
  se_of (pe_bmG0 pa slot hty hT hm ho hbase hline) fun σ H Q q => by
    obtain ⟨Γ, S, F, P⟩ := methM_read ht hd q
    refine ⟨Γ, S, F, P.imp fun x S1 Γ1 H1 e1 F1 h v hv => ⟨(h v hv).1, ?_⟩⟩
    obtain ⟨Γ2, S2, F2, P2⟩ := (h v hv).2
    exact Post.ok (c := c) (W := W) P2 Gh.le.refl F2 [] rfl
end

/-! ### statements -/
section
variable {X : Cx} {c : Cg} {W : WX} {e a b o : Expr} {es : List Expr} {f fa fb : M R} {g : M (List R)} {h h1 h2 : M Fl} {pos pos' : Pos} {st : Stmt} {sts : List Stmt}
def sNx : M Fl := pure .nx
/-- one statement, then others -/
def sSq (h1 h2 : M Fl) : M Fl := do
  let f ← h1
  match f with
  | .nx => h2
  | x => pure x
theorem sSq_nx {S S' : Sg} (q : h1 S = .ok .nx S') : sSq h1 h2 S = h2 S' := by unfold sSq; rw [bind_ok q]
theorem sSq_rt {S S' : Sg} {x : R} (q : h1 S = .ok (.rt x) S') : sSq h1 h2 S = .ok (.rt x) S' := by unfold sSq; rw [bind_ok q]; rfl
theorem sSq_bk {S S' : Sg} (q : h1 S = .ok .bk S') : sSq h1 h2 S = .ok .bk S' := by unfold sSq; rw [bind_ok q]; rfl
theorem sSq_ct {S S' : Sg} (q : h1 S = .ok .ct S') : sSq h1 h2 S = .ok .ct S' := by unfold sSq; rw [bind_ok q]; rfl
theorem sSq_exc {S S' : Sg} {x : Xn} (q : h1 S = .exc x S') : sSq h1 h2 S = .exc x S' := by unfold sSq; rw [bind_exc q]
theorem sSq_bad {S : Sg} (q : h1 S = .bad) : sSq h1 h2 S = .bad := by unfold sSq; rw [bind_bad q]
theorem sss_nil : PSs X [] (rdS c W sNx) := sss_of pss_nil fun E σ H q => by
  obtain ⟨Γ, S, F, P⟩ := q
  exact P Γ σ H Gh.le.refl F
theorem PostS.seq {Γ : Gh} {S : Sg} {E : Ends} (P : PostS c W Γ (sSq h1 h2 S) E) : PostS c W Γ (h1 S) { E with nx := rdS c W h2 E } := by
  cases q : h1 S with
  | bad => rw [sSq_bad q] at P; exact P.elim
  | exc x S' => rw [sSq_exc q] at P; exact P
  | ok a S' =>
    cases a with
    | nx => rw [sSq_nx q] at P; exact fun Γ' σ' H' e F => ⟨Γ', S', F, P.le e⟩
    | rt x => rw [sSq_rt q] at P; exact P
    | bk => rw [sSq_bk q] at P; exact P
    | ct => rw [sSq_ct q] at P; exact P
theorem sss_cons (hs : PS X st (rdS c W h1)) (ht : PSs X sts (rdS c W h2)) : PSs X (st :: sts) (rdS c W (sSq h1 h2)) := sss_of (pss_cons hs ht) fun E σ H q => by
  obtain ⟨Γ, S, F, P⟩ := q
  exact ⟨Γ, S, F, P.seq⟩
theorem sss_one (hs : PS X st (rdS c W h1)) : PSs X [st] (rdS c W h1) := pss_one hs
def sBad : M Fl := bad
theorem ss_bad : PS X st (rdS c W sBad) := ss_of ps_never fun E σ H q => by
  obtain ⟨Γ, S, F, P⟩ := q
  exact P
theorem ss_pass : PS X (.Pass pos) (rdS c W sNx) := ss_of ps_pass fun E σ H q => by
  obtain ⟨Γ, S, F, P⟩ := q
  exact P Γ σ H Gh.le.refl F
def sBk : M Fl := pure .bk
def sCt : M Fl := pure .ct
theorem ss_break : PS X (.Break pos) (rdS c W sBk) := ss_of ps_break fun E σ H q => by
  obtain ⟨Γ, S, F, P⟩ := q
  exact P Γ σ H Gh.le.refl F
theorem ss_cont : PS X (.Continue pos) (rdS c W sCt) := ss_of ps_continue fun E σ H q => by
  obtain ⟨Γ, S, F, P⟩ := q
  exact P Γ σ H Gh.le.refl F
def sEx (f : M R) : M Fl := do
  let _ ← f
  pure .nx
theorem ss_expr (he : PE X e (rdE c W f)) (hs : swapsWith e none pos.line X.env = pure false := by rfl) : PS X (.Expr e pos) (rdS c W (sEx f)) := ss_of (ps_expr he hs) fun E σ H q => by
  obtain ⟨Γ, S, F, P⟩ := q
  refine ⟨Γ, S, F, (PostS.bindE P).imp fun x S1 Γ1 H1 e1 F1 ⟨_, P1⟩ v hv => ?_⟩
  exact P1 Γ1 σ H1 Gh.le.refl F1
def sRt (f : M R) : M Fl := do
  let x ← f
  pure (.rt x)
theorem ss_ret (he : PE X e (rdE c W f)) : PS X (.Return (some e) pos) (rdS c W (sRt f)) := ss_of (ps_ret he) fun E σ H q => by
  obtain ⟨Γ, S, F, P⟩ := q
  refine ⟨Γ, S, F, (PostS.bindE P).imp fun x S1 Γ1 H1 e1 F1 ⟨_, P1⟩ v hv => ?_⟩
  exact P1 Γ1 σ H1 v Gh.le.refl F1 hv
def sRtN : M Fl := pure (.rt (.p .non))
theorem ss_retN : PS X (.Return none pos) (rdS c W sRtN) := ss_of ps_retN fun E σ H q => by
  obtain ⟨Γ, S, F, P⟩ := q
  exact P Γ σ H .non Gh.le.refl F ((Rep.non_iff (c := c) (G := Γ.G)).mpr rfl)
def sIf (t : M Bool) (h1 h2 : M Fl) : M Fl := do
  let k ← t
  if k = true then h1 else h2
theorem ss_if {t : M Bool} {p q : List Stmt} (hc : PT X e (rdT c W t)) (hp : PSs X p (rdS c W h1)) (hq : PSs X q (rdS c W h2)) : PS X (.If e p q pos) (rdS c W (sIf t h1 h2)) := ss_of (ps_if hc hp hq) fun E σ H q => by
  obtain ⟨Γ, S, F, P⟩ := q
  refine ⟨Γ, S, F, (PostS.bindE P).imp fun k S1 Γ1 H1 e1 F1 ⟨_, P1⟩ => ?_⟩
  cases k with
  | true => exact ⟨Γ1, S1, F1, P1⟩
  | false => exact ⟨Γ1, S1, F1, P1⟩
/-- a name is stored -/
def put (i : Nat) (x : R) : M Unit := fun S => .ok () { S with sl := S.sl.set i (some x) }
theorem FrOk.put {Γ : Gh} {S : Sg} {σ : L2.St} {H : Hp} {x : R} {v : V} (i : Nat) (F : FrOk c Γ S σ H) (h : RepR c Γ x v) : FrOk c Γ { S with sl := S.sl.set i (some x) } (σ.set i (some v)) H := by
  refine ⟨F.s, by simp [F.len], fun j y hj => ?_⟩
  by_cases e : i = j
  · subst e
    have hlt := (List.getElem?_eq_some_iff.mp hj).1
    simp at hlt
    rw [List.getElem?_set_self hlt] at hj
    cases hj
    exact ⟨v, by rw [List.getElem?_set_self (by rw [← F.len]; exact hlt)], h⟩
  · rw [List.getElem?_set_ne e] at hj
    obtain ⟨w, h1, h2⟩ := F.sl j y hj
    exact ⟨w, by rw [List.getElem?_set_ne e]; exact h1, h2⟩
def sSet (i : Nat) (f : M R) : M Fl := do
  let x ← f
  put i x
  pure .nx
theorem ss_set {i : Nat} {x : Str} (hN : X.N.Nodup) (hi : X.N[i]? = some x) (hx : Loc X.env.scope x) (he : PE X e (rdE c W f)) (hs : swapsWith e (some (.Name x pos')) pos.line X.env = pure false := by rfl) (hf : X.fn x = true ∨ X.env.scope.names.lookup x = some .local := by first | exact .inl rfl | exact .inr rfl | assumption) :
    PS X (.Assign [.Name x pos'] e pos) (rdS c W (sSet i f)) := ss_of (ps_set hN hi hx he hs hf) fun E σ H q => by
  obtain ⟨Γ, S, F, P⟩ := q
  refine ⟨Γ, S, F, (PostS.bindE P).imp fun x S1 Γ1 H1 e1 F1 ⟨_, P1⟩ v hv => ?_⟩
  exact P1 Γ1 _ H1 Gh.le.refl (F1.put i hv)
end
end Dd

set_option Elab.async false
set_option linter.all false
set_option maxRecDepth 100000
namespace Dd
open PySem PySem.Spec PyProof.Rows L2

/-! ### tests -/
def toB : R → M Bool := fun x S => match x with
  | .p (.bl b) => .ok b S
  | _ => .bad
def tst (f : M R) : M Bool := f >>= toB
def mNot (t : M Bool) : M Bool := do
  let b ← t
  pure (!b)
def mAnd (t u : M Bool) : M Bool := do
  let b ← t
  if b = true then u else pure false
def mOr (t u : M Bool) : M Bool := do
  let b ← t
  if b = true then pure true else u
section
variable {X : Cx} {c : Cg} {W : WX} {e a b o : Expr} {rest : List Expr} {f fa fb fc : M R} {t u : M Bool} {pos : Pos}
theorem toB_ok {σ : L2.St} {Γ : Gh} {S : Sg} {x : R} {v : V} {K : Bool → Sg → Gh → Hp → Prop} {H : Hp} (F : FrOk c Γ S σ H) (hv : RepR c Γ x v) (P : Post c W σ Γ (toB x S) K) : ∃ k, v = .bl k ∧ K k S Γ H := by
  cases x with
  | r n => exact P.elim
  | p d =>
    cases d with
    | bl k => exact ⟨k, RepR.bl hv, Post.ok (c := c) (W := W) P Gh.le.refl F⟩
    | _ => exact P.elim
theorem tst_read {σ : L2.St} {H : Hp} {Q : Bool → Hp → Prop} (q : rdT c W (tst f) σ H Q) : rdE c W f σ H fun x H1 => ∃ k, x = .bl k ∧ Q k H1 := by
  obtain ⟨Γ, S, F, P⟩ := q
  refine ⟨Γ, S, F, (Post.bind P).imp fun x S1 Γ1 H1 e1 F1 ⟨_, P1⟩ v hv => ?_⟩
  exact toB_ok F1 hv P1
theorem st_val (h : PE X e (rdE c W f)) (he : ∀ whole, isTrue e X.env whole = (do let v ← whole; standAt e.pos; holding [v] (truthy v)) := by intro _; rfl) : PT X e (rdT c W (tst f)) :=
  st_of (pt_val h he) fun σ H Q q => tst_read q
theorem st_cmp {op' : CmpOp} {op : R → R → M R} {r : R2} (ho : OpR X (compareOp op') r) (hd : OpD c W op r) (ha : PE X a (rdE c W fa)) (hb : PE X b (rdE c W fb)) (hm : behindInMarks op' b = false) : PT X (.Compare a [op'] [b] pos) (rdT c W (tst (bin op fa fb))) :=
  st_of (pt_cmpR ho ha hb hm) fun σ H Q q => bin_read hd (tst_read q)
theorem st_not (h : PT X a (rdT c W t)) : PT X (.UnaryOp .Not a pos) (rdT c W (mNot t)) := st_of (pt_not h) fun σ H Q q => by
  obtain ⟨Γ, S, F, P⟩ := q
  refine ⟨Γ, S, F, (Post.bind P).imp fun k S1 Γ1 H1 e1 F1 ⟨_, P1⟩ => ?_⟩
  exact Post.ok (c := c) (W := W) P1 Gh.le.refl F1
theorem sw_and1 (h : PT X a (rdT c W t)) : PW X (.BoolOp .And [a] pos) (rdT c W t) := pw_and1 h
theorem sw_or1 (h : PT X a (rdT c W t)) : PW X (.BoolOp .Or [a] pos) (rdT c W t) := pw_or1 h
theorem sw_and (ha : PT X a (rdT c W t)) (hb : PW X (.BoolOp .And (b :: rest) pos) (rdT c W u)) : PW X (.BoolOp .And (a :: b :: rest) pos) (rdT c W (mAnd t u)) := ⟨fun wh pins s σ H Q I q => (pw_and ha hb).run wh pins s σ H Q I (by
  obtain ⟨Γ, S, F, P⟩ := q
  refine ⟨Γ, S, F, (Post.bind P).imp fun k S1 Γ1 H1 e1 F1 ⟨_, P1⟩ => ?_⟩
  cases k with
  | true => exact ⟨Γ1, S1, F1, P1⟩
  | false => exact Post.ok (c := c) (W := W) P1 Gh.le.refl F1)⟩
theorem sw_or (ha : PT X a (rdT c W t)) (hb : PW X (.BoolOp .Or (b :: rest) pos) (rdT c W u)) : PW X (.BoolOp .Or (a :: b :: rest) pos) (rdT c W (mOr t u)) := ⟨fun wh pins s σ H Q I q => (pw_or ha hb).run wh pins s σ H Q I (by
  obtain ⟨Γ, S, F, P⟩ := q
  refine ⟨Γ, S, F, (Post.bind P).imp fun k S1 Γ1 H1 e1 F1 ⟨_, P1⟩ => ?_⟩
  cases k with
  | false => exact ⟨Γ1, S1, F1, P1⟩
  | true => exact Post.ok (c := c) (W := W) P1 Gh.le.refl F1)⟩
theorem st_bool {o : BoolOp} {es : List Expr} (h : PW X (.BoolOp o es pos) (rdT c W t)) : PT X (.BoolOp o es pos) (rdT c W t) := h.pt
/-- values: a and b, a or b, not a (bools) -/
def eAnd (f g : M R) : M R := do
  let b ← tst f
  if b = true then g else pure (.p (.bl false))
def eOr (f g : M R) : M R := do
  let b ← tst f
  if b = true then pure (.p (.bl true)) else g
def eNot (f : M R) : M R := do
  let b ← tst f
  pure (.p (.bl (!b)))
theorem se_one {o : BoolOp} (h : PE X a (rdE c W f)) : PE X (.BoolOp o [a] pos) (rdE c W f) := pe_one h
theorem tst_bind {α : Type} {g : Bool → M α} {σ : L2.St} {H : Hp} {K : α → Sg → Gh → Hp → Prop} {Γ : Gh} {S : Sg} (F : FrOk c Γ S σ H) (P : Post c W σ Γ ((tst f >>= g) S) K) {Q : VK}
    (hq : ∀ k S1 Γ1 H1, Γ.le Γ1 → FrOk c Γ1 S1 σ H1 → Post c W σ Γ1 (g k S1) K → Q (.bl k) H1) : rdE c W f σ H fun x H1 => ∃ k, x = .bl k ∧ Q (.bl k) H1 := by
  refine ⟨Γ, S, F, ?_⟩
  refine (Post.bind (Post.bind P)).imp fun x S1 Γ1 H1 e1 F1 ⟨_, P1⟩ v hv => ?_
  obtain ⟨k, ek, _, P2⟩ := toB_ok F1 hv P1
  exact ⟨k, ek, hq k S1 Γ1 H1 e1 F1 P2⟩
theorem se_and (ha : PE X a (rdE c W fa)) (hb : PE X (.BoolOp .And (b :: rest) pos) (rdE c W fb)) : PE X (.BoolOp .And (a :: b :: rest) pos) (rdE c W (eAnd fa fb)) := se_of (pe_and ha hb) fun σ H Q q => by
  obtain ⟨Γ, S, F, P⟩ := q
  refine ⟨Γ, S, F, (Post.bind (Post.bind P)).imp fun x S1 Γ1 H1 e1 F1 ⟨_, P1⟩ v hv => ?_⟩
  obtain ⟨k, ek, _, P2⟩ := toB_ok F1 hv P1
  refine ⟨k, ek, ?_⟩
  cases k with
  | true => exact ⟨Γ1, S1, F1, P2⟩
  | false => exact Post.ok (c := c) (W := W) P2 Gh.le.refl F1 _ ((Rep.bl_iff (c := c) (G := Γ1.G)).mpr rfl)
theorem se_or (ha : PE X a (rdE c W fa)) (hb : PE X (.BoolOp .Or (b :: rest) pos) (rdE c W fb)) : PE X (.BoolOp .Or (a :: b :: rest) pos) (rdE c W (eOr fa fb)) := se_of (pe_or ha hb) fun σ H Q q => by
  obtain ⟨Γ, S, F, P⟩ := q
  refine ⟨Γ, S, F, (Post.bind (Post.bind P)).imp fun x S1 Γ1 H1 e1 F1 ⟨_, P1⟩ v hv => ?_⟩
  obtain ⟨k, ek, _, P2⟩ := toB_ok F1 hv P1
  refine ⟨k, ek, ?_⟩
  cases k with
  | false => exact ⟨Γ1, S1, F1, P2⟩
  | true => exact Post.ok (c := c) (W := W) P2 Gh.le.refl F1 _ ((Rep.bl_iff (c := c) (G := Γ1.G)).mpr rfl)
theorem se_not (ha : PE X a (rdE c W fa)) : PE X (.UnaryOp .Not a pos) (rdE c W (eNot fa)) := se_of (pe_not ha) fun σ H Q q => by
  obtain ⟨Γ, S, F, P⟩ := q
  refine ⟨Γ, S, F, (Post.bind (Post.bind P)).imp fun x S1 Γ1 H1 e1 F1 ⟨_, P1⟩ v hv => ?_⟩
  obtain ⟨k, ek, _, P2⟩ := toB_ok F1 hv P1
  exact ⟨k, ek, Post.ok (c := c) (W := W) P2 Gh.le.refl F1 _ ((Rep.bl_iff (c := c) (G := Γ1.G)).mpr rfl)⟩
def eIf (t : M Bool) (f g : M R) : M R := do
  let b ← t
  if b = true then f else g
theorem se_if {e : Expr} (hc : PT X e (rdT c W t)) (ha : PE X a (rdE c W fa)) (hb : PE X b (rdE c W fb)) : PE X (.IfExp e a b pos) (rdE c W (eIf t fa fb)) := se_of (pe_ifExp hc ha hb) fun σ H Q q => by
  obtain ⟨Γ, S, F, P⟩ := q
  refine ⟨Γ, S, F, (Post.bind P).imp fun k S1 Γ1 H1 e1 F1 ⟨_, P1⟩ => ?_⟩
  cases k with
  | true => exact ⟨Γ1, S1, F1, P1⟩
  | false => exact ⟨Γ1, S1, F1, P1⟩
/-- a op1 b op2 c -/
def eChain (op op' : R → R → M R) (f g h : M R) : M R := do
  let x ← f
  let y ← g
  let z ← op x y
  let b ← toB z
  if b = true then do
    let w ← h
    op' y w
  else pure (.p (.bl false))
theorem se_chain_read {op op' : R → R → M R} {r r' : R2} (hd : OpD c W op r) (hd' : OpD c W op' r') {σ : L2.St} {H : Hp} {Q : VK} (q : rdE c W (eChain op op' fa fb fc) σ H Q) : tChain r r' (rdE c W fa) (rdE c W fb) (rdE c W fc) σ H Q := by
  obtain ⟨Γ, S, F, P⟩ := q
  refine ⟨Γ, S, F, (Post.bind P).imp fun x S1 Γ1 H1 e1 F1 ⟨_, P1⟩ v hv => ?_⟩
  refine ⟨Γ1, S1, F1, (Post.bind P1).imp fun y S2 Γ2 H2 e2 F2 ⟨_, P2⟩ w hw => ?_⟩
  refine hd Γ2 S2 σ H2 x y v w _ F2 (hv.mono e2) hw ((Post.bind P2).imp fun z S3 Γ3 H3 e3 F3 ⟨_, P3⟩ u hu => ?_)
  obtain ⟨k, ek, _, P4⟩ := toB_ok F3 hu (Post.bind P3)
  refine ⟨k, ek, ?_⟩
  cases k with
  | false => exact Post.ok (c := c) (W := W) P4 Gh.le.refl F3 _ ((Rep.bl_iff (c := c) (G := Γ3.G)).mpr rfl)
  | true =>
    refine ⟨Γ3, S3, F3, (Post.bind P4).imp fun y' S4 Γ4 H4 e4 F4 ⟨_, P5⟩ w' hw' => ?_⟩
    exact hd' Γ4 S4 σ H4 y y' w w' Q F4 (hw.mono (e3.trans e4)) hw' P5
theorem se_chain {o o' : CmpOp} {op op' : R → R → M R} {r r' : R2} (ho : OpR X (compareOp o) r) (ho' : OpR X (compareOp o') r') (hd : OpD c W op r) (hd' : OpD c W op' r') {e' : Expr} (ha : PE X a (rdE c W fa)) (hb : PE X b (rdE c W fb)) (hc : PE X e' (rdE c W fc))
    (hm : lastMarks [o, o'] [b, e'] = false := by with_unfolding_all rfl) : PE X (.Compare a [o, o'] [b, e'] pos) (rdE c W (eChain op op' fa fb fc)) :=
  se_of (pe_chain ho ho' ha hb hc hm) fun σ H Q q => se_chain_read hd hd' q
theorem st_chain {o o' : CmpOp} {op op' : R → R → M R} {r r' : R2} (ho : OpR X (compareOp o) r) (ho' : OpR X (compareOp o') r') (hd : OpD c W op r) (hd' : OpD c W op' r') {e' : Expr} (ha : PE X a (rdE c W fa)) (hb : PE X b (rdE c W fb)) (hc : PE X e' (rdE c W fc))
    (hm : lastMarks [o, o'] [b, e'] = false := by with_unfolding_all rfl) : PT X (.Compare a [o, o'] [b, e'] pos) (rdT c W (tst (eChain op op' fa fb fc))) :=
  st_of (pt_chain ho ho' ha hb hc hm) fun σ H Q q => se_chain_read hd hd' (tst_read q)
end

/-! ### targets -/
/-- what a target does with an item -/
abbrev Tg := D → M Unit
def rdG (c : Cg) (W : WX) (t : Tg) : TG := fun v σ H Q => ∃ Γ S d, FrOk c Γ S σ H ∧ Rep c Γ.G d v ∧ match t d S with
  | .ok _ S' => ∀ Γ' σ' H', Γ.le Γ' → FrOk c Γ' S' σ' H' → Q σ' H'
  | _ => False
def rdGs (c : Cg) (W : WX) (t : List D → M Unit) : TGs := fun vs σ H Q => ∃ Γ S ds, FrOk c Γ S σ H ∧ RepL c Γ.G ds vs ∧ match t ds S with
  | .ok _ S' => ∀ Γ' σ' H', Γ.le Γ' → FrOk c Γ' S' σ' H' → Q σ' H'
  | _ => False
def gN (i : Nat) : Tg := fun d => put i (.p d)
def gsN : List D → M Unit := fun ds S => match ds with
  | [] => .ok () S
  | _ => .bad
def gsC (t : Tg) (u : List D → M Unit) : List D → M Unit := fun ds S => match ds with
  | d :: r => (t d >>= fun _ => u r) S
  | _ => .bad
/-- (a, b, ..) = a tuple -/
def gT (n : Nat) (u : List D → M Unit) : Tg := fun d S => match d with
  | .tup l => if l.length = n then u l S else .bad
  | _ => .bad
section
variable {X : Cx} {c : Cg} {W : WX} {e : Expr} {es : List Expr} {t : Tg} {u : List D → M Unit} {pos : Pos}
theorem sg_of {g : TG} (h : PG X e g) (hi : ∀ v σ H Q, rdG c W t v σ H Q → g v σ H Q) : PG X e (rdG c W t) := ⟨fun pins s σ H v u Q I r q => h.run pins s σ H v u Q I r (hi v σ H Q q)⟩
theorem sgs_of {g : TGs} (h : PGs X es g) (hi : ∀ vs σ H Q, rdGs c W u vs σ H Q → g vs σ H Q) : PGs X es (rdGs c W u) := ⟨fun pins s σ H vs us Q I r q => h.run pins s σ H vs us Q I r (hi vs σ H Q q)⟩
theorem sg_name {i : Nat} {x : Str} (hN : X.N.Nodup) (hi : X.N[i]? = some x) (hx : Loc X.env.scope x) (hf : X.fn x = true ∨ X.env.scope.names.lookup x = some .local := by first | exact .inl rfl | exact .inr rfl | assumption) : PG X (.Name x pos) (rdG c W (gN i)) :=
  sg_of (pg_name hN hi hx hf) fun v σ H Q q => by
    obtain ⟨Γ, S, d, F, r, k⟩ := q
    exact k Γ _ H Gh.le.refl (F.put i (x := .p d) r)
theorem sgs_nil : PGs X [] (rdGs c W gsN) := sgs_of pgs_nil fun vs σ H Q q => by
  obtain ⟨Γ, S, ds, F, r, k⟩ := q
  cases ds with
  | nil => exact ⟨RepL.nil_iff.mp r, k Γ σ H Gh.le.refl F⟩
  | cons d ds => exact k.elim
theorem sgs_cons (h1 : PG X e (rdG c W t)) (h2 : PGs X es (rdGs c W u)) (hs : (assignEach (e :: es) X.env).map (·.2) = assign e X.env :: (assignEach es X.env).map (·.2) := by rfl) : PGs X (e :: es) (rdGs c W (gsC t u)) :=
  sgs_of (pgs_cons h1 h2 hs) fun vs σ H Q q => by
    obtain ⟨Γ, S, ds, F, r, k⟩ := q
    cases ds with
    | nil => exact k.elim
    | cons d ds =>
      obtain ⟨v, vs', rfl, h1, h2⟩ := RepL.cons_iff.mp r
      refine ⟨v, vs', rfl, Γ, S, d, F, h1, ?_⟩
      have k : match (t d >>= fun _ => u ds) S with | .ok _ S' => ∀ Γ' σ' H', Γ.le Γ' → FrOk c Γ' S' σ' H' → Q σ' H' | _ => False := k
      rw [bind_ap] at k
      cases e1 : t d S with
      | bad => rw [e1] at k; exact k
      | exc x S' => rw [e1] at k; exact k
      | ok a S' =>
        rw [e1] at k
        intro Γ' σ' H' le F'
        refine ⟨Γ', S', ds, F', RepL.mono le.g h2, ?_⟩
        have k : match u ds S' with | .ok _ S' => ∀ Γ' σ' H', Γ.le Γ' → FrOk c Γ' S' σ' H' → Q σ' H' | _ => False := k
        cases e2 : u ds S' with
        | bad => rw [e2] at k; exact k
        | exc x S2 => rw [e2] at k; exact k
        | ok a S2 => rw [e2] at k; exact fun Γ2 σ2 H2 le2 F2 => k Γ2 σ2 H2 (le.trans le2) F2
theorem sg_tup {k : Nat} {n : Nat} (hc : X.calm = true) (hK : X.K = c.K) (h : PGs X es (rdGs c W u)) (hn : (assignEach es X.env).length = n := by rfl) (hst : (assignEach es X.env).findIdx? (·.1) = none := by rfl) : PG X (.Tuple es k pos) (rdG c W (gT n u)) :=
  sg_of (pg_tup hc h hn hst) fun v σ H Q q => by
    obtain ⟨Γ, S, d, F, r, k⟩ := q
    cases d with
    | tup l =>
      obtain ⟨a, vs, h1, h2, h3⟩ := Rep.tup_iff.mp r
      have k : match (if l.length = n then u l S else .bad) with | .ok _ S' => ∀ Γ' σ' H', Γ.le Γ' → FrOk c Γ' S' σ' H' → Q σ' H' | _ => False := k
      by_cases hl : l.length = n
      · rw [if_pos hl] at k
        exact ⟨a, vs, h1, hK ▸ (TupS.mono F.s.g h2).sq, by rw [h3.length, hl], Γ, S, l, F, h3, k⟩
      · rw [if_neg hl] at k; exact k.elim
    | _ => exact k.elim
/-- target = e, a tuple's items to names -/
def sAsg (f : M R) (t : Tg) : M Fl := do
  let x ← f
  let d ← pure1 x
  t d
  pure .nx
theorem ss_asg {tg e : Expr} {f : M R} (he : PE X e (rdE c W f)) (hg : PG X tg (rdG c W t)) (ht : ∀ d S x S', t d S ≠ .exc x S') (hs : swapsWithSole [tg] e pos.line X.env = pure false := by rfl) (hw : swappedStores [tg] e X.env = pure none := by rfl)
    (h1 : (assignEach [tg] X.env).map (·.2) = [assign tg X.env] := by rfl) : PS X (.Assign [tg] e pos) (rdS c W (sAsg f t)) := ss_of (ps_asg he hg hs hw h1) fun E σ H q => by
  obtain ⟨Γ, S, F, P⟩ := q
  refine ⟨Γ, S, F, (PostS.bindE P).imp fun x S1 Γ1 H1 e1 F1 ⟨_, P1⟩ v hv => ?_⟩
  obtain ⟨d, Γ2, S2, e2, F2, hd, _, P2⟩ := pure1_ok F1 hv (PostS.bindE P1)
  refine ⟨Γ2, S2, d, F2, hd, ?_⟩
  rw [bind_ap] at P2
  cases q : t d S2 with
  | bad => rw [q] at P2; exact P2
  | exc x S' => exact (ht _ _ _ _ q).elim
  | ok a S' => rw [q] at P2; exact fun Γ' σ' H' le F' => P2 Γ' σ' H' le F'
end
theorem gN_noexc {i : Nat} : ∀ d S x S', gN i d S ≠ .exc x S' := fun _ _ _ _ h => by cases h
theorem gsN_noexc : ∀ d S x S', gsN d S ≠ .exc x S' := fun d _ _ _ h => by cases d <;> cases h
theorem gsC_noexc {t : Tg} {u : List D → M Unit} (h1 : ∀ d S x S', t d S ≠ .exc x S') (h2 : ∀ d S x S', u d S ≠ .exc x S') : ∀ d S x S', gsC t u d S ≠ .exc x S' := fun d S x S' h => by
  cases d with
  | nil => cases h
  | cons d r =>
    have h : (t d >>= fun _ => u r) S = .exc x S' := h
    rw [bind_ap] at h
    cases e : t d S with
    | ok a S1 => rw [e] at h; exact h2 _ _ _ _ h
    | exc y S1 => exact h1 _ _ _ _ e
    | bad => rw [e] at h; cases h
theorem gT_noexc {n : Nat} {u : List D → M Unit} (h2 : ∀ d S x S', u d S ≠ .exc x S') : ∀ d S x S', gT n u d S ≠ .exc x S' := fun d S x S' h => by
  cases d with
  | tup l =>
    have h : (if l.length = n then u l S else .bad) = .exc x S' := h
    split at h
    · exact h2 _ _ _ _ h
    · cases h
  | _ => cases h

/-! ### what is walked -/
/-- the items that are come by, and what must stand while they are -/
structure Itm (α : Type) where
  ok : Sg → Prop
  l : List α
/-- the machine's side, items as values -/
def ItOk (c : Cg) (Γ0 : Gh) (I : Itm D) (J : L2.It) : Prop := ∀ (Γ : Gh) (S : Sg) (σ : L2.St) (H : Hp) (i : Nat), Γ0.sub Γ → FrOk c Γ S σ H → I.ok S →
  (∀ d, I.l[i]? = some d → J.go i H ∧ ∀ x H', J.yld i H x H' → ∃ Γ', Γ.le Γ' ∧ FrOk c Γ' S σ H' ∧ Rep c Γ'.G d x) ∧ (I.l.length = i → J.stop i H)
/-- .. items as new pairs -/
def ItOkT (c : Cg) (Γ0 : Gh) (I : Itm (List D)) (J : L2.It) : Prop := ∀ (Γ : Gh) (S : Sg) (σ : L2.St) (H : Hp) (i : Nat), Γ0.sub Γ → FrOk c Γ S σ H → I.ok S →
  (∀ ds, I.l[i]? = some ds → J.go i H ∧ ∀ x H', J.yld i H x H' → ∃ Γ' T vs, Γ.le Γ' ∧ FrOk c Γ' S σ H' ∧ x = .ref T ∧ H' T = some (.tup vs) ∧ RepL c Γ'.G ds vs) ∧ (I.l.length = i → J.stop i H)
def rdI (c : Cg) (W : WX) (f : M (Itm D)) : TI := fun σ H R => ∃ Γ S, FrOk c Γ S σ H ∧ Post c W σ Γ (f S) fun I S' Γ' H' => ∀ J, ItOk c Γ' I J → R J H'
def rdIT (c : Cg) (W : WX) (f : M (Itm (List D))) : TI := fun σ H R => ∃ Γ S, FrOk c Γ S σ H ∧ Post c W σ Γ (f S) fun I S' Γ' H' => ∀ J, ItOkT c Γ' I J → R J H'
open Classical in
/-- the turns of a loop -/
noncomputable def loopL {α : Type} (ok : Sg → Prop) (body : α → M Fl) : List α → M Fl
  | [] => fun S => if ok S then .ok .nx S else .bad
  | d :: ds => fun S => if ok S then (match body d S with
    | .ok .nx S' => loopL ok body ds S'
    | .ok .ct S' => loopL ok body ds S'
    | .ok .bk S' => .ok .nx S'
    | .ok (.rt x) S' => .ok (.rt x) S'
    | .exc x S' => .exc x S'
    | .bad => .bad) else .bad
noncomputable def sFor {α : Type} (it : M (Itm α)) (t : α → M Unit) (h : M Fl) : M Fl := do
  let I ← it
  loopL I.ok (fun d => t d >>= fun _ => h) I.l
section
variable {α : Type} {ok : Sg → Prop} {body : α → M Fl} {d : α} {ds : List α} {S S' : Sg}
theorem loopL_nil (h : ok S) : loopL ok body [] S = .ok .nx S := by unfold loopL; rw [if_pos h]
theorem loopL_cons (h : ok S) : loopL ok body (d :: ds) S = (match body d S with
    | .ok .nx S' => loopL ok body ds S'
    | .ok .ct S' => loopL ok body ds S'
    | .ok .bk S' => .ok .nx S'
    | .ok (.rt x) S' => .ok (.rt x) S'
    | .exc x S' => .exc x S'
    | .bad => .bad) := by
  conv => lhs; unfold loopL
  rw [if_pos h]
theorem loopL_ok {l : List α} (h : loopL ok body l S ≠ .bad) : ok S := by
  apply Classical.byContradiction
  intro hn
  cases l with
  | nil => exact h (by unfold loopL; rw [if_neg hn])
  | cons d ds => exact h (by unfold loopL; rw [if_neg hn])
theorem loopL_nx (h : ok S) (q : body d S = .ok .nx S') : loopL ok body (d :: ds) S = loopL ok body ds S' := by rw [loopL_cons h, q]
theorem loopL_ct (h : ok S) (q : body d S = .ok .ct S') : loopL ok body (d :: ds) S = loopL ok body ds S' := by rw [loopL_cons h, q]
theorem loopL_bk (h : ok S) (q : body d S = .ok .bk S') : loopL ok body (d :: ds) S = .ok .nx S' := by rw [loopL_cons h, q]
theorem loopL_rt {x : R} (h : ok S) (q : body d S = .ok (.rt x) S') : loopL ok body (d :: ds) S = .ok (.rt x) S' := by rw [loopL_cons h, q]
theorem loopL_exc {x : Xn} (h : ok S) (q : body d S = .exc x S') : loopL ok body (d :: ds) S = .exc x S' := by rw [loopL_cons h, q]
end
section
variable {X : Cx} {c : Cg} {W : WX} {tg iter : Expr} {body : List Stmt} {t : Tg} {h : M Fl} {pos : Pos}
theorem PostS.ne {Γ : Gh} {r : Res Fl} {E : Ends} (P : PostS c W Γ r E) : r ≠ .bad := by
  intro e
  rw [e] at P
  exact P
/-- a target ahead of a body -/
theorem bodyG {Γ : Gh} {S : Sg} {σ : L2.St} {H : Hp} {d : D} {v : V} {E : Ends} {r : M Fl} (F : FrOk c Γ S σ H) (hd : Rep c Γ.G d v) (ht : ∀ d S x S', t d S ≠ .exc x S') (P : PostS c W Γ ((t d >>= fun _ => r) S) E) :
    rdG c W t v σ H fun σ2 H2 => rdS c W r E σ2 H2 := by
  refine ⟨Γ, S, d, F, hd, ?_⟩
  rw [bind_ap] at P
  cases q : t d S with
  | bad => rw [q] at P; exact P
  | exc x S' => exact (ht _ _ _ _ q).elim
  | ok a S' => rw [q] at P; exact fun Γ' σ' H' le F' => ⟨Γ', S', F', P.le le⟩
theorem bodyGs {u : List D → M Unit} {Γ : Gh} {S : Sg} {σ : L2.St} {H : Hp} {ds : List D} {vs : List V} {E : Ends} {r : M Fl} (F : FrOk c Γ S σ H) (hd : RepL c Γ.G ds vs) (ht : ∀ d S x S', u d S ≠ .exc x S') (P : PostS c W Γ ((u ds >>= fun _ => r) S) E) :
    rdGs c W u vs σ H fun σ2 H2 => rdS c W r E σ2 H2 := by
  refine ⟨Γ, S, ds, F, hd, ?_⟩
  rw [bind_ap] at P
  cases q : u ds S with
  | bad => rw [q] at P; exact P
  | exc x S' => exact (ht _ _ _ _ q).elim
  | ok a S' => rw [q] at P; exact fun Γ' σ' H' le F' => ⟨Γ', S', F', P.le le⟩
theorem ss_for {it : M (Itm D)} (hp : PassesOwn (model X.prog X.w) X.A X.env X.xe) (hc : X.calm = true) (hi : PI X tg iter (rdI c W it)) (hg : PG X tg (rdG c W t)) (ht : ∀ d S x S', t d S ≠ .exc x S') (hb : PSs X body (rdS c W h))
    (hs : ∀ x, foldedSetIterable iter X.env x = pure x := by intro _; rfl) : PS X (.For tg iter body [] pos) (rdS c W (sFor it t h)) := ss_of (ps_for hp hc hi hg hb hs) fun E σ H q => by
  obtain ⟨Γ, S, F, P⟩ := q
  refine ⟨Γ, S, F, (PostS.bindE P).imp fun I S1 Γ1 H1 e1 F1 ⟨_, P1⟩ J hJ => ?_⟩
  refine ⟨fun i m σ H => m = I.l.length - i ∧ i ≤ I.l.length ∧ ∃ Γ S, Γ1.le Γ ∧ FrOk c Γ S σ H ∧ PostS c W Γ (loopL I.ok (fun d => t d >>= fun _ => h) (I.l.drop i) S) E, ⟨_, rfl, Nat.zero_le _, Γ1, S1, Gh.le.refl, F1, P1⟩, ?_⟩
  rintro i m σ H ⟨rfl, hi, Γ2, S2, e2, F2, P2⟩
  have hok := loopL_ok P2.ne
  obtain ⟨k1, k2⟩ := hJ Γ2 S2 σ H i e2.sub F2 hok
  by_cases hl : i < I.l.length
  · refine .inr ?_
    have hget := List.getElem?_eq_getElem hl
    obtain ⟨g1, g2⟩ := k1 _ hget
    rw [List.drop_eq_getElem_cons hl] at P2
    refine ⟨g1, fun σ' H' => ∃ Γ S, Γ1.le Γ ∧ FrOk c Γ S σ' H' ∧ PostS c W Γ (loopL I.ok (fun d => t d >>= fun _ => h) (I.l.drop (i + 1)) S) E, fun σ' H' ⟨Γ3, S3, e3, F3, P3⟩ => ⟨_, by omega, rfl, hl, Γ3, S3, e3, F3, P3⟩, fun x H' y => ?_⟩
    obtain ⟨Γ3, e3, F3, r3⟩ := g2 x H' y
    refine bodyG F3 r3 ht ?_
    have P3 := PostS.le P2 e3
    have e13 := e2.trans e3
    cases q : (t I.l[i] >>= fun _ => h) S2 with
    | bad => rw [loopL_cons hok, q] at P3; exact P3
    | exc x S' => rw [loopL_exc (body := fun d => t d >>= fun _ => h) hok q] at P3; exact P3
    | ok a S' =>
      cases a with
      | nx => rw [loopL_nx (body := fun d => t d >>= fun _ => h) hok q] at P3; exact fun Γ' σ' H' le F' => ⟨Γ', S', e13.trans le, F', P3.le le⟩
      | ct => rw [loopL_ct (body := fun d => t d >>= fun _ => h) hok q] at P3; exact fun Γ' σ' H' le F' => ⟨Γ', S', e13.trans le, F', P3.le le⟩
      | bk => rw [loopL_bk (body := fun d => t d >>= fun _ => h) hok q] at P3; exact P3
      | rt x => rw [loopL_rt (body := fun d => t d >>= fun _ => h) hok q] at P3; exact P3
  · have e : I.l.length = i := by omega
    refine .inl ⟨k2 e, ?_⟩
    rw [List.drop_eq_nil_of_le (by omega), loopL_nil hok] at P2
    exact P2 Γ2 σ H Gh.le.refl F2
/-- .. over new pairs, to a tuple of names -/
theorem ss_forT {it : M (Itm (List D))} {u : List D → M Unit} {es : List Expr} {kk : Nat} {tpos : Pos} {n : Nat} (hp : PassesOwn (model X.prog X.w) X.A X.env X.xe) (hc : X.calm = true) (hK : X.K = c.K) (hi : PI X (.Tuple es kk tpos) iter (rdIT c W it)) (hg : PGs X es (rdGs c W u)) (ht : ∀ d S x S', u d S ≠ .exc x S') (hb : PSs X body (rdS c W h))
    (hu : ∀ ds S, ds.length ≠ n → u ds S = .bad) (hn : (assignEach es X.env).length = n := by rfl) (hst : (assignEach es X.env).findIdx? (·.1) = none := by rfl)
    (hs : ∀ x, foldedSetIterable iter X.env x = pure x := by intro _; rfl) : PS X (.For (.Tuple es kk tpos) iter body [] pos) (rdS c W (sFor it u h)) := ss_of (ps_for hp hc hi (pg_tup hc hg hn hst) hb hs) fun E σ H q => by
  obtain ⟨Γ, S, F, P⟩ := q
  refine ⟨Γ, S, F, (PostS.bindE P).imp fun I S1 Γ1 H1 e1 F1 ⟨_, P1⟩ J hJ => ?_⟩
  refine ⟨fun i m σ H => m = I.l.length - i ∧ i ≤ I.l.length ∧ ∃ Γ S, Γ1.le Γ ∧ FrOk c Γ S σ H ∧ PostS c W Γ (loopL I.ok (fun d => u d >>= fun _ => h) (I.l.drop i) S) E, ⟨_, rfl, Nat.zero_le _, Γ1, S1, Gh.le.refl, F1, P1⟩, ?_⟩
  rintro i m σ H ⟨rfl, hi, Γ2, S2, e2, F2, P2⟩
  have hok := loopL_ok P2.ne
  obtain ⟨k1, k2⟩ := hJ Γ2 S2 σ H i e2.sub F2 hok
  by_cases hl : i < I.l.length
  · refine .inr ?_
    have hget := List.getElem?_eq_getElem hl
    obtain ⟨g1, g2⟩ := k1 _ hget
    rw [List.drop_eq_getElem_cons hl] at P2
    refine ⟨g1, fun σ' H' => ∃ Γ S, Γ1.le Γ ∧ FrOk c Γ S σ' H' ∧ PostS c W Γ (loopL I.ok (fun d => u d >>= fun _ => h) (I.l.drop (i + 1)) S) E, fun σ' H' ⟨Γ3, S3, e3, F3, P3⟩ => ⟨_, by omega, rfl, hl, Γ3, S3, e3, F3, P3⟩, fun x H' y => ?_⟩
    obtain ⟨Γ3, T, vs, e3, F3, rfl, hT, r3⟩ := g2 x H' y
    have P3 := PostS.le P2 e3
    have e13 := e2.trans e3
    have hlen : vs.length = n := by
      rw [r3.length]
      refine Classical.byContradiction fun hne => ?_
      have qb := hu I.l[i] S2 hne
      rw [loopL_cons hok, bind_bad qb] at P3
      exact P3
    refine ⟨T, vs, rfl, .inl (.inl hT), hlen, bodyGs F3 r3 ht ?_⟩
    cases q : (u I.l[i] >>= fun _ => h) S2 with
    | bad => rw [loopL_cons hok, q] at P3; exact P3
    | exc x S' => rw [loopL_exc (body := fun d => u d >>= fun _ => h) hok q] at P3; exact P3
    | ok a S' =>
      cases a with
      | nx => rw [loopL_nx (body := fun d => u d >>= fun _ => h) hok q] at P3; exact fun Γ' σ' H' le F' => ⟨Γ', S', e13.trans le, F', P3.le le⟩
      | ct => rw [loopL_ct (body := fun d => u d >>= fun _ => h) hok q] at P3; exact fun Γ' σ' H' le F' => ⟨Γ', S', e13.trans le, F', P3.le le⟩
      | bk => rw [loopL_bk (body := fun d => u d >>= fun _ => h) hok q] at P3; exact P3
      | rt x => rw [loopL_rt (body := fun d => u d >>= fun _ => h) hok q] at P3; exact P3
  · have e : I.l.length = i := by omega
    refine .inl ⟨k2 e, ?_⟩
    rw [List.drop_eq_nil_of_le (by omega), loopL_nil hok] at P2
    exact P2 Γ2 σ H Gh.le.refl F2
end
end Dd

set_option Elab.async false
set_option linter.all false
set_option maxRecDepth 100000
namespace Dd
open PySem PySem.Spec PyProof.Rows L2

/-! ### a def runs as its meaning -/
def finishR (base : Nat) (st : Store) : R → FRes
  | .p d => .ok (.val d) (st.take base)
  | .r n => if base ≤ n then (match st[n]? with
    | some (.mu o) => .ok (.new o) (st.take base)
    | some (.fz l) => .ok (.val (.lst l)) (st.take base)
    | _ => .bad) else .bad
def finish (base : Nat) : Res Fl → FRes
  | .ok .nx S => .ok (.val .non) (S.st.take base)
  | .ok (.rt x) S => finishR base S.st x
  | .exc x S => .exc x (S.st.take base)
  | _ => .bad
def startS (n : Nat) (xs : List R) (st : Store) : Sg := { sl := xs.map some ++ List.replicate (n - xs.length) none, st := st }
def runF (n : Nat) (h : M Fl) : Fn := fun xs st => finish st.length (h (startS n xs st))
section
variable {c : Cg} {Γ Γ' : Gh} {st st' : Store} {H H' : Hp}
theorem ConOk.rho {o : Con} {u : HO} {ρ : List Addr} (h : ConOk c Γ o u) : ConOk c { Γ with ρ := ρ } o u := by
  cases o with
  | lst l => exact h
  | dct k => exact h
  | obj k fs => exact h
theorem StOk.trunc (F : StOk c Γ' st' H') (e : Γ.le Γ') : StOk c { Γ' with ρ := Γ.ρ } (st'.take Γ.ρ.length) H' := by
  obtain ⟨t, ht⟩ := e.r
  have hlen : Γ.ρ.length ≤ st'.length := by rw [F.len, ht]; simp
  have ix : ∀ (n : Nat) (a : Addr), Γ.ρ[n]? = some a → Γ'.ρ[n]? = some a := fun n a h => e.at h
  have cl : ∀ (n : Nat) (x : Cell), (st'.take Γ.ρ.length)[n]? = some x → st'[n]? = some x := fun n x h => by
    rw [List.getElem?_take] at h
    split at h
    · exact h
    · cases h
  refine ⟨F.g, F.l, F.gl, by simp [hlen], fun n x a e1 e2 => ?_, fun n m a o u e1 e2 e3 e4 => F.inj n m a o u (cl _ _ e1) (cl _ _ e2) (ix _ _ e3) (ix _ _ e4)⟩
  have q := F.cell n x a (cl _ _ e1) (ix _ _ e2)
  cases x with
  | mu o =>
    obtain ⟨u, q1, q2, q3, q4⟩ := q
    exact ⟨u, q1, q2.rho, q3, q4⟩
  | fz l => exact q
  | dead => trivial
/-- one cell above is kept -/
theorem StOk.trunc1 {n : Nat} {a : Addr} {o : Con} (F : StOk c Γ' st' H') (e : Γ.le Γ') (hn : Γ.ρ.length ≤ n) (ho : st'[n]? = some (.mu o)) (ha : Γ'.ρ[n]? = some a) :
    StOk c { Γ' with ρ := Γ.ρ ++ [a] } (st'.take Γ.ρ.length ++ [.mu o]) H' := by
  have T := F.trunc e
  have hl : (st'.take Γ.ρ.length).length = Γ.ρ.length := T.len
  refine ⟨F.g, F.l, F.gl, by simp [hl], fun m x b e1 e2 => ?_, fun m k b o1 o2 e1 e2 e3 e4 => ?_⟩
  · by_cases hm : m < Γ.ρ.length
    · rw [List.getElem?_append_left (by omega)] at e1
      have e2' : (Γ.ρ ++ [a])[m]? = some b := e2
      rw [List.getElem?_append_left hm] at e2'
      have q := T.cell m x b e1 e2'
      cases x with
      | mu p => obtain ⟨u, q1, q2, q3, q4⟩ := q; exact ⟨u, q1, q2.rho, q3, q4⟩
      | fz l => exact q
      | dead => trivial
    · have hm' : m = Γ.ρ.length := by
        have := (List.getElem?_eq_some_iff.mp e1).1
        simp [hl] at this; omega
      subst hm'
      have e2' : (Γ.ρ ++ [a])[Γ.ρ.length]? = some b := e2
      have e1' : (st'.take Γ.ρ.length ++ [Cell.mu o])[(st'.take Γ.ρ.length).length]? = some x := by rw [hl]; exact e1
      simp at e1' e2'
      subst e1' e2'
      obtain ⟨u, q1, q2, q3, q4⟩ := F.cell n _ a ho ha
      exact ⟨u, q1, q2.rho, q3, q4⟩
  · have low : ∀ (k : Nat) (p : Con), (st'.take Γ.ρ.length ++ [Cell.mu o])[k]? = some (.mu p) → (Γ.ρ ++ [a])[k]? = some b → (k < Γ.ρ.length ∧ st'[k]? = some (.mu p) ∧ Γ'.ρ[k]? = some b) ∨ (k = Γ.ρ.length ∧ b = a) := fun k p h1 h2 => by
      by_cases hk : k < Γ.ρ.length
      · refine .inl ⟨hk, ?_, ?_⟩
        · rw [List.getElem?_append_left (by omega), List.getElem?_take] at h1
          rw [if_pos hk] at h1; exact h1
        · rw [List.getElem?_append_left hk] at h2
          exact e.at h2
      · have hk' : k = Γ.ρ.length := by
          have := (List.getElem?_eq_some_iff.mp h2).1
          simp at this; omega
        subst hk'
        simp at h2
        exact .inr ⟨rfl, h2.symm⟩
    rcases low m o1 e1 e3 with ⟨a1, a2, a3⟩ | ⟨a1, a2⟩
    · rcases low k o2 e2 e4 with ⟨b1, b2, b3⟩ | ⟨b1, b2⟩
      · exact F.inj m k b o1 o2 a2 b2 a3 b3
      · subst b2
        have := F.inj m n b o1 o a2 ho a3 ha
        omega
    · rcases low k o2 e2 e4 with ⟨b1, b2, b3⟩ | ⟨b1, b2⟩
      · subst a2
        have := F.inj k n b o2 o b2 ho b3 ha
        omega
      · rw [a1, b1]
theorem le_trunc (e : Γ.le Γ') : Γ.le { Γ' with ρ := Γ.ρ } := ⟨e.g, e.l, [], by simp⟩
end
section
variable {P : Program} {w : World} {K : PySem.W.Frag} {mg : Str → Option Value} {base : Heap} {c : Cg}
theorem start_ok {N ps : List Str} {xs : List R} {vs : List V} {Γ : Gh} {st : Store} {H : Hp} (h : RepRL c Γ xs vs) (F : StOk c Γ st H) : FrOk c Γ (startS N.length xs st) (L2.start N vs) H := by
  refine ⟨F, by simp [startS, L2.start, h.length], fun i x hx => ?_⟩
  have hl := h.length
  unfold startS at hx
  simp only at hx
  by_cases hi : i < xs.length
  · rw [List.getElem?_append_left (by simpa using hi)] at hx
    rw [List.getElem?_map] at hx
    cases q : xs[i]? with
    | none => rw [q] at hx; cases hx
    | some y =>
      rw [q] at hx
      cases hx
      obtain ⟨v, h1, h2⟩ := h.get q
      refine ⟨v, ?_, h2⟩
      unfold L2.start
      rw [List.getElem?_append_left (by simp; omega), List.getElem?_map, h1]
      rfl
  · rw [List.getElem?_append_right (by simpa using hi)] at hx
    obtain ⟨_, q⟩ := List.getElem?_eq_some_iff.mp hx
    rw [List.getElem_replicate] at q
    cases q
theorem finish_ok {Γ : Gh} {S : Sg} {st : Store} {r : Res Fl} {Q : VK} {E : XK} (hl : st.length = Γ.ρ.length) (h : FPost c Γ (finish st.length r) Q E) :
    PostS c (fun cls d _ H => E cls d H) Γ r { nx := fun _ H' => Q .non H', rt := Q } := by
  cases r with
  | bad => exact h
  | exc x S' =>
    intro Γ' σ' H' cls dd e F q
    have T := F.s.trunc e
    rw [← hl] at T
    exact h { Γ' with ρ := Γ.ρ } H' cls dd (le_trunc e) T q.elim
  | ok a S' =>
    cases a with
    | nx =>
      intro Γ' σ' H' e F
      have T := F.s.trunc e
      rw [← hl] at T
      exact h { Γ' with ρ := Γ.ρ } H' .non (le_trunc e) T ((Rep.non_iff (c := c) (G := Γ'.G)).mpr rfl)
    | bk => exact (show False from h).elim
    | ct => exact (show False from h).elim
    | rt x =>
      intro Γ' σ' H' v e F q
      have T := F.s.trunc e
      rw [← hl] at T
      have h : FPost c Γ (finishR st.length S'.st x) Q E := h
      cases x with
      | p d => exact h { Γ' with ρ := Γ.ρ } H' v (le_trunc e) T q
      | r n =>
        obtain ⟨a, q1, q2⟩ := q
        subst q2
        unfold finishR at h
        simp only at h
        by_cases hb : st.length ≤ n
        · rw [if_pos hb] at h
          cases q3 : S'.st[n]? with
          | none => rw [q3] at h; exact h.elim
          | some y =>
            rw [q3] at h
            cases y with
            | dead => exact h.elim
            | fz l =>
              obtain ⟨a', vs, k1, k2, k3⟩ := F.s.fro q3
              rw [q1] at k1; cases k1
              exact h { Γ' with ρ := Γ.ρ } H' _ (le_trunc e) T (Rep.lst_iff.mpr ⟨a, vs, rfl, k2, k3⟩)
            | mu o =>
              have T1 := F.s.trunc1 e (by omega) q3 q1
              rw [← hl] at T1
              exact h { Γ' with ρ := Γ.ρ } H' a (le_trunc e) T1
        · rw [if_neg hb] at h; exact h.elim
/-- THE RULE of a def -/
theorem fn_ok {x qual : Str} {st : Stmt} {f : Addr} {fd : FuncData} {N ps : List Str} {k : Nat} {h : M Fl} (F : Fun K x qual st f fd) (S : FnScope N ps (defScope st))
    (hbody : ∀ (cdv : Value) (A : Around) (outer : List Env) (s : Shared) (H : Hp) (E : XK), (A.deeper (envOfC qual (defScope st) s.heap.objs.size f cdv)).guards = some [] → Room k (A.deeper (envOfC qual (defScope st) s.heap.objs.size f cdv)) →
      Takes (cxOf (L2.CX P w) P w K mg base N qual (defScope st) f cdv A outer s H E) (fun cls d _ H => E cls d H) →
      PSs (cxOf (L2.CX P w) P w K mg base N qual (defScope st) f cdv A outer s H E) (defBody st) (rdS c (fun cls d _ H => E cls d H) h)) :
    FnG P w K mg base (k + 1) f fd ps (spF c ps.length (runF N.length h)) := by
  obtain ⟨oc, od, kV, doc, pm, an, cdv, ct, osl, rfl, lk, hcd⟩ := F.ex
  refine ⟨fun vs H Q E ⟨_, _, _, h, _⟩ => h, fun A outer s H args us vs Q E hG hr e0 hb r hsp => ?_⟩
  have keep : ∀ b o, base.get? b = some o → s.heap.get? b = some o := fun b o e => (e0.bs b o e).1
  have KX : K.In s.heap := e0.mod.kin.keeps keep
  obtain ⟨xs, Γ, st', hl, hx, F', hP⟩ := hsp
  have hall : ∀ y ∈ ps.zip us, (defScope st).names.lookup y.1 = some .local ∨ ((defScope st).names.lookup y.1 = some .cell ∧ ((cellsFrom (s.heap.objs.size + 1) (defScope st).names []).lookup y.1).isSome = true) := fun y hy =>
    (S.par y.1 (List.of_mem_zip (a := y.1) (b := y.2) hy).1).imp_right fun q => ⟨q, PySem.W.cellsFrom_some _ _ _ (.inl q)⟩
  have cr := PySem.W.codeRec_of KX hcd
  have lk' := KX _ _ lk
  refine codeAny_call_function hr.depth lk' rfl S.co S.gen rfl cr ?_
  refine hb _ _ _ _ ?_
  refine wpAny_newFunctionEnv_cells S.kind hall fun env he s1 z => ?_
  subst he
  refine ⟨(e0.mod.nolimit.keeps keep).keeps z.toInCall.keep, codeAny_func ?_⟩
  have B := hbody cdv A outer s H E hG (hr.deeper _) (takes_of rfl rfl rfl rfl)
  have I0 : Inv (cxOf (L2.CX P w) P w K mg base N qual (defScope st) f cdv A outer s H E) [] (L2.start N vs) H s1 := inv_start S hr.hd e0 hl r z
  have B2 := B.run [] s1 (L2.start N vs) H { nx := fun _ H' => Q .non H', rt := Q } I0 ⟨Γ, _, start_ok (ps := ps) hx F', finish_ok (S := startS N.length xs st') F'.len hP⟩
  refine wpAny_mono B2 (fun fl s' q => ?_) fun _ _ q => q
  have fin : ∀ {σ' : L2.St} {H' : Hp} {v : V} {u : Value}, L2.Inv (cxOf (L2.CX P w) P w K mg base N qual (defScope st) f cdv A outer s H E) [] σ' H' s' → RelV v u → Q v H' → CE outer P w H s Q u s' :=
    fun {σ' H' v u} J rv q => ⟨v, H', J.os, J.bare, J.base, J.hok, rv, q⟩
  cases fl with
  | ret u =>
    obtain ⟨v, σ', H', J, rv, q⟩ := q
    exact fin J rv q
  | next =>
    obtain ⟨σ', H', J, q⟩ := q
    exact fin (v := V.non) (u := Value.none) J rfl q
  | brk =>
    obtain ⟨_, _, _, q⟩ := q
    exact False.elim q
  | cont =>
    obtain ⟨_, _, _, q⟩ := q
    exact False.elim q
/-- another meaning of the same worth -/
theorem fn_eq {f : Addr} {fd : FuncData} {ps : List Str} {k n : Nat} {F F' : Fn} (h : FnG P w K mg base k f fd ps (spF c n F)) (e : F = F') : FnG P w K mg base k f fd ps (spF c n F') := e ▸ h
end

/-! ### what is walked: lists, tuples, enumerate, zip, ranges -/
theorem meets_enumerate_newT (l : Addr) (items : Array Value) (n : Nat) (dct : Option Addr) (sl : Array (Option Value)) :
    Meets (Builtin.«enumerate.__new__» ⟨[.type "enumerate", .ref l], []⟩) (fun _ R s => s.heap.get? l = some { cls := .type "tuple", dict := dct, data := .seq items n, slots := sl } ∧
      R (.ok (.ret (.ref (s.heap.push { cls := .type "tuple_iterator", data := .fields #[.ref l, .int 0 0] }).objs.size)))
        { s with heap := (s.heap.push { cls := .type "tuple_iterator", data := .fields #[.ref l, .int 0 0] }).push { cls := .type "enumerate", data := .fields #[.none, .bool false, .ref s.heap.objs.size, rawInt 0, .none, .none] } }) :=
  .of_wp fun prog w A R s h => by
    obtain ⟨hp, g, d, tk, os⟩ := s; obtain ⟨hl, h⟩ := h
    have hsub := sub_enumerate
    have hL : Heap.IsTuple (Shared.heap ⟨hp, g, d, tk, os⟩) l items := ⟨_, hl, rfl, n, rfl⟩
    wp_walk using AutoSeq1.wpAny_loadPart' hl
    refine wpAny_stack_any fun st => wpAny_pure ?_
    split
    · rename_i c _ _ _ _ _
      cases (c == Value.type "enumerate")
      · wp_walk using AutoSeq1.wpAny_loadPart' hl, wpAny_pyIter_tuple hL
        exact ⟨_, rfl, h⟩
      · wp_walk using AutoSeq1.wpAny_loadPart' hl, wpAny_pyIter_tuple hL
        exact ⟨_, rfl, h⟩
    · wp_walk using AutoSeq1.wpAny_loadPart' hl, wpAny_pyIter_tuple hL
      exact ⟨_, rfl, h⟩
theorem call_enumerate_tuple {prog : Program} {w : World} {A : Around} {E : Value → Shared → Prop} {s : Shared} {l : Addr} {items : Array Value} {Q : Value → Shared → Prop} (hL : s.heap.IsTuple l items)
    (h : ∀ h', IsEnum h' (s.heap.objs.size + 1) s.heap.objs.size 0 .none → h'.IsTupleIter s.heap.objs.size l 0 → h'.objs.size = s.heap.objs.size + 2 →
      (∀ b o, s.heap.get? b = some o → h'.get? b = some o) → Q (.ref (s.heap.objs.size + 1)) { s with heap := h' }) :
    wpAny (model prog w) A (call (.type "enumerate") [.ref l]) Q E s := by
  obtain ⟨⟨c, dct, dt, sl⟩, hl, hc, n, hd⟩ := hL
  replace hc : c = .type "tuple" := hc
  replace hd : dt = .seq items n := hd
  subst hc hd
  refine callType_new F.called_enumerate (by decide) (F.typeCall_enumerate_1 _) (F.newCall_enumerate_1 _) (fun obj => F.args_object_init_2 obj _) F.entry_enumerate_new
    (meets_enumerate_newT l items n dct sl) ⟨hl, ?_⟩
  have hz : (s.heap.push { cls := .type "tuple_iterator", data := .fields #[.ref l, .int 0 0] }).objs.size = s.heap.objs.size + 1 := Heap.size_push ..
  show _ ∧ _
  rw [hz]
  have he : IsEnum ((s.heap.push { cls := .type "tuple_iterator", data := .fields #[.ref l, .int 0 0] }).push
      { cls := .type "enumerate", data := .fields #[.none, .bool false, .ref s.heap.objs.size, rawInt 0, .none, .none] }) (s.heap.objs.size + 1) s.heap.objs.size 0 .none := by
    have := Heap.get?_push_size (s.heap.push { cls := .type "tuple_iterator", data := .fields #[.ref l, .int 0 0] })
      (o := { cls := .type "enumerate", data := .fields #[.none, .bool false, .ref s.heap.objs.size, rawInt 0, .none, .none] }) rfl
    rw [hz] at this; exact this
  refine ⟨⟨_, he, rfl⟩, h _ he ⟨_, Heap.get?_push_of_some _ (Heap.get?_push_size _ rfl), rfl, rfl⟩ (by rw [Heap.size_push, hz]) fun b o x => Heap.get?_push_of_some _ (Heap.get?_push_of_some _ x)⟩
/-- the tuple at a, each item in a new pair -/
def IteT (K : PySem.W.Frag) (a : Addr) : L2.It :=
  ⟨fun i H => ∃ (xs : List V) (x : V), SqT K H a xs ∧ xs[i]? = some x, fun i H v H' => ∃ T x, v = .ref T ∧ H T = none ∧ H' = upd H T (.tup [.int (i : Nat), x]) ∧ ∀ xs, SqT K H a xs → xs[i]? = some x, fun i H => ∃ xs : List V, SqT K H a xs ∧ xs.length = i⟩
theorem in1_handled {A : Around} (h : A.handled = none) : A.in1.handled = none := h
theorem turn_enumT {P : Program} {w : World} {K : PySem.W.Frag} {elts : List Expr} {kk : Nat} {tpos : Pos} (a e it : Addr) (hai : a ≠ it) (hae : a ≠ e) :
    Turn P w K (.Tuple elts kk tpos) (IteT K a) [e, it] e (fun i h => (∃ old, IsEnum h e it ((i : Nat) : Int) old) ∧ h.IsTupleIter it a i ∧ e ≠ it) where
  mem := by simp
  obj := fun i h st b hb => by
    obtain ⟨⟨old, he⟩, ⟨o, ho, hc, hd⟩, _⟩ := st
    have e' : b = e ∨ b = it := by simpa using hb
    rcases e' with z | z
    · rw [z]; exact ⟨_, he, fun v q => nomatch q⟩
    · rw [z]; exact ⟨o, ho, fun v q => by rw [hd] at q; cases q⟩
  keep := fun i h h' st k => let ⟨⟨old, he⟩, hi, hne⟩ := st; ⟨⟨old, k e (by simp) _ he⟩, hi.at fun o q => k it (by simp) o q, hne⟩
  item := by
    intro X hP hw hK hc i pins s σ H E I hf st hg
    subst hP hw hK
    obtain ⟨⟨old, he⟩, hit, hne⟩ := st
    obtain ⟨xs, x, hq, hx⟩ := hg
    obtain ⟨its, rv, p, hz⟩ := I.tuple hq
    obtain ⟨u, hu, ru⟩ := rv.get hx
    have hel : e < s.heap.objs.size := Heap.lt_size he
    have hil : it < s.heap.objs.size := by obtain ⟨_, q, _⟩ := hit; exact Heap.lt_size q
    have hlt : i < its.toArray.size := by simpa using (List.getElem?_eq_some_iff.mp hu).1
    refine wpAny_pyNext_enum_itemD (Draws.tuple (prog := X.prog) (w := X.w) (in1_handled (I.ok.hd hc)) it a hai its.toArray) he ⟨hit, p⟩ hlt hne (by simp; exact ⟨hne, Ne.symm hae⟩) fun y h' tk hP ho hit' hT hsz hk => ?_
    have hy : u = y := by
      have hP' : its.toArray[i]? = some y := hP
      have hu' : its.toArray[i]? = some u := by simpa using hu
      rw [hu'] at hP'; exact Option.some.inj hP'
    subst hy
    refine ⟨_, rfl, wpAny_letOwnedTupleGo_enum (s := { s with heap := h', toks := tk + 1 }) ho fun h'' he' sb => ?_⟩
    have hT2 : h''.get? s.heap.objs.size = some { cls := .type "tuple", data := .seq #[.int i tk, u] } := (sb.2 _ (Nat.ne_of_gt hel)).trans hT
    have new : ObjOk X.prog X.w (upd H s.heap.objs.size (.tup [.int (i : Nat), x])) h'' s.heap.objs.size (.tup [.int (i : Nat), x]) :=
      ⟨by show 2 ≤ sizeLine; decide, [.int i tk, u], .cons ⟨_, rfl⟩ (.cons ru .nil), ⟨_, hT2, rfl, _, rfl⟩⟩
    have I1 : Inv X pins σ (upd H s.heap.objs.size (.tup [.int (i : Nat), x])) { s with heap := h'', toks := tk + 1 } :=
      I.turnedNew (ch := [e, it]) (fun b ob hb q => (sb.2 b (fun z => hb (by simp [z]))).trans (hk b ob (fun z => hb (by simp [z])) (fun z => hb (by simp [z])) q)) hf (Nat.le_refl _) new
    refine ⟨.ref s.heap.objs.size, _, I1, rfl, ⟨_, x, rfl, I.hok.fresh (Nat.le_refl _), rfl, fun ys hy => by rw [I.tuple_inj hy hq]; exact hx⟩, ⟨⟨u, ?_⟩, hit'.1.at fun o q => (sb.2 it (Ne.symm hne)).trans q, hne⟩, fun b hb => ?_⟩
    · have e1 : ((i + 1 : Nat) : Int) = (i : Int) + 1 := by omega
      rw [e1]; exact he'
    · have hb' : b < s.heap.objs.size := by
        have e' : b = e ∨ b = it := by simpa using hb
        rcases e' with z | z
        · rw [z]; exact hel
        · rw [z]; exact hil
      rw [upd_ne (Nat.ne_of_lt hb')]
      exact (hf b hb).1
  done := by
    intro X hP hw hK hc i pins s σ H E I hf st hg
    subst hP hw hK
    obtain ⟨⟨old, he⟩, hit, hne⟩ := st
    obtain ⟨xs, hq, hx⟩ := hg
    obtain ⟨its, rv, p, hz⟩ := I.tuple hq
    obtain ⟨f0, f1, f2, f3, f4, f5⟩ := hf it (by simp)
    have hl : its.toArray.size = i := by simp; rw [← rv.length]; exact hx
    subst hl
    exact wpAny_pyNext_enum_endD (Draws.tuple (prog := X.prog) (w := X.w) (in1_handled (I.ok.hd hc)) it a hai its.toArray) he ⟨hit, p⟩ fun h' eb => ⟨rfl, I.turned (t' := s.toks) (fun b o hb q => eb b o hb q) f0 f1 f3 f4 f5⟩
  self := fun A i s Q E st h => let ⟨⟨_, he⟩, _⟩ := st; wpAny_pyIter_enum he h
end Dd

set_option Elab.async false
set_option linter.all false
set_option maxRecDepth 100000
namespace Dd
open PySem PySem.Spec PyProof.Rows L2

/-- arguments that are ints -/
def asI : R → Option Int
  | .p (.int j) => some j
  | _ => none
theorem asI_some {x : R} {j : Int} (h : asI x = some j) : x = .p (.int j) := by
  cases x with
  | r n => cases h
  | p d =>
    cases d with
    | int i => cases h; rfl
    | _ => cases h
def asI1 : List R → Option Int
  | [x] => asI x
  | _ => none
theorem asI1_some {xs : List R} {j : Int} (h : asI1 xs = some j) : xs = [.p (.int j)] := by
  cases xs with
  | nil => cases h
  | cons x xs =>
    cases xs with
    | nil => rw [asI_some h]
    | cons y ys => cases h
def asI2 : List R → Option (Int × Int)
  | [x, y] => match asI x with
    | some i => match asI y with
      | some j => some (i, j)
      | none => none
    | none => none
  | _ => none
theorem asI2_some {xs : List R} {i j : Int} (h : asI2 xs = some (i, j)) : xs = [.p (.int i), .p (.int j)] := by
  cases xs with
  | nil => cases h
  | cons x xs =>
    cases xs with
    | nil => cases h
    | cons y ys =>
      cases ys with
      | cons z zs => cases h
      | nil =>
        unfold asI2 at h
        simp only at h
        cases hx : asI x with
        | none => rw [hx] at h; cases h
        | some i' =>
          rw [hx] at h
          simp only at h
          cases hy : asI y with
          | none => rw [hy] at h; cases h
          | some j' => rw [hy] at h; cases h; rw [asI_some hx, asI_some hy]
/-- a list's or tuple's items -/
def itL (f : M R) : M (Itm D) := do
  let x ← f
  fun S => match getL x S with
    | some l => .ok ⟨fun S' => getL x S' = some l, l⟩ S
    | none => .bad
/-- the items with their numbers -/
def numbered : Nat → List D → List (List D)
  | _, [] => []
  | k, d :: ds => [.int k, d] :: numbered (k + 1) ds
theorem numbered_get : ∀ {l : List D} {k i : Nat} {ds : List D}, (numbered k l)[i]? = some ds → ∃ d, l[i]? = some d ∧ ds = [.int ((k + i : Nat) : Int), d]
  | [], k, i, ds, h => by simp [numbered] at h
  | d :: l, k, i, ds, h => by
    cases i with
    | zero => simp [numbered] at h; exact ⟨d, rfl, h.symm⟩
    | succ i =>
      have h' : (numbered (k + 1) l)[i]? = some ds := by simpa [numbered] using h
      obtain ⟨d', h1, h2⟩ := numbered_get h'
      exact ⟨d', by simpa using h1, by rw [h2]; congr 3; omega⟩
theorem numbered_length : ∀ {l : List D} {k : Nat}, (numbered k l).length = l.length
  | [], _ => rfl
  | _ :: l, k => by simp [numbered, numbered_length (l := l)]
def itE (f : M R) : M (Itm (List D)) := do
  let x ← f
  fun S => match getL x S with
    | some l => .ok ⟨fun S' => getL x S' = some l, numbered 0 l⟩ S
    | none => .bad
def intsFrom (lo : Int) : Nat → List D
  | 0 => []
  | n + 1 => .int lo :: intsFrom (lo + 1) n
theorem intsFrom_length : ∀ {lo : Int} {n : Nat}, (intsFrom lo n).length = n
  | _, 0 => rfl
  | lo, n + 1 => by simp [intsFrom, intsFrom_length]
theorem intsFrom_get : ∀ {lo : Int} {n i : Nat} {d : D}, (intsFrom lo n)[i]? = some d → d = .int (lo + (i : Nat)) ∧ i < n
  | lo, 0, i, d, h => by simp [intsFrom] at h
  | lo, n + 1, i, d, h => by
    cases i with
    | zero => simp [intsFrom] at h; exact ⟨by rw [← h]; simp, by omega⟩
    | succ i =>
      obtain ⟨h1, h2⟩ := intsFrom_get (lo := lo + 1) (n := n) (i := i) (by simpa [intsFrom] using h)
      exact ⟨by rw [h1]; congr 1; omega, by omega⟩
def downFrom (i c : Int) : Nat → List D
  | 0 => []
  | n + 1 => .int i :: downFrom (i + c) c n
section
variable {X : Cx} {c : Cg} {W : WX} {tg e e2 : Expr} {f f2 : M R} {g : M (List R)} {pos p : Pos} {elts : List Expr} {kk : Nat} {tpos : Pos} {es : List Expr}
theorem si_of {t : TI} {it : M (Itm D)} (h : PI X tg e t) (hi : ∀ σ H R, rdI c W it σ H R → t σ H R) : PI X tg e (rdI c W it) := ⟨fun pins s σ H R I q => h.run pins s σ H R I (hi σ H R q)⟩
theorem siT_of {t : TI} {it : M (Itm (List D))} (h : PI X tg e t) (hi : ∀ σ H R, rdIT c W it σ H R → t σ H R) : PI X tg e (rdIT c W it) := ⟨fun pins s σ H R I q => h.run pins s σ H R I (hi σ H R q)⟩
/-- lists and tuples alike -/
def iSeq (K : PySem.W.Frag) (tl : TE) : TI := fun σ H R => tl σ H fun x H1 => ∃ a, x = .ref a ∧ (((∃ xs, SqL K H1 a xs) ∧ R (Itl K a) H1) ∨ ((∃ xs, SqT K H1 a xs) ∧ R (Itt K a) H1))
theorem pi_seq {tl : TE} (hl : PE X e tl) : PI X tg e (iSeq X.K tl) := by
  refine ⟨fun pins s σ H R I h => ?_⟩
  refine thn (hl.run pins s σ H _ I h) fun v s1 ⟨x, H1, I1, r1, a, e1, q⟩ => ?_
  subst e1
  cases r1
  have fin : ∀ (b : Addr), b ∈ [s1.heap.objs.size] → FpOk X pins H1 b := fun b hb => by
    have e : b = s1.heap.objs.size := by simpa using hb
    subst e
    exact I1.fpOk (Nat.le_refl _) (I1.hok.fresh (Nat.le_refl _))
  rcases q with ⟨⟨xs, hq⟩, q⟩ | ⟨⟨xs, hq⟩, q⟩
  · obtain ⟨its, rv, p, hz⟩ := I1.list hq
    refine wpAny_pyIter_list p.isList ?_
    exact ⟨s1.heap.objs.size, [s1.heap.objs.size], _, _, H1, rfl, I1.kept (t' := s1.toks) fun b o e => Heap.get?_push_of_some _ e, turn_list a _, ⟨_, Heap.get?_push_size _ rfl, rfl, rfl⟩, fin, q⟩
  · obtain ⟨its, rv, p, hz⟩ := I1.tuple hq
    refine wpAny_pyIter_tuple (show s1.heap.IsTuple a its.toArray from p) ?_
    exact ⟨s1.heap.objs.size, [s1.heap.objs.size], _, _, H1, rfl, I1.kept (t' := s1.toks) fun b o e => Heap.get?_push_of_some _ e, turn_tuple a _, ⟨_, Heap.get?_push_size _ rfl, rfl, rfl⟩, fin, q⟩
theorem itL_list {Γ0 : Gh} {x : R} {a : Addr} {l : List D} (hv : RepR c Γ0 x (.ref a)) (hx : ∀ S, getLst x S = getL x S) : ItOk c Γ0 ⟨fun S' => getL x S' = some l, l⟩ (Itl c.K a) := by
  intro Γ S σ H i e F hok
  have hok : getL x S = some l := hok
  obtain ⟨a', vs, e1, h1, h2⟩ := getLst_ok F (hv.sub e) ((hx S).trans hok)
  cases e1
  refine ⟨fun d hd => ?_, fun hl => ⟨vs, h1, by rw [h2.length]; exact Nat.le_of_eq hl⟩⟩
  obtain ⟨v, q1, q2⟩ := h2.get hd
  refine ⟨⟨vs, v, h1, q1⟩, fun y H' hy => ?_⟩
  obtain ⟨rfl, hy⟩ := hy
  have := hy vs h1
  rw [q1] at this; cases this
  exact ⟨Γ, Gh.le.refl, F, q2⟩
theorem itL_tup {Γ0 : Gh} {a : Addr} {l : List D} (hv : RepR c Γ0 (.p (.tup l)) (.ref a)) : ItOk c Γ0 ⟨fun S' => getL (.p (.tup l)) S' = some l, l⟩ (Itt c.K a) := by
  intro Γ S σ H i e F hok
  obtain ⟨a', vs, e1, h1, h2⟩ := Rep.tup_iff.mp (RepR.pure.mp (hv.sub e))
  cases e1
  have h1 := (TupS.mono F.s.g h1).sq
  refine ⟨fun d hd => ?_, fun hl => ⟨vs, h1, by rw [h2.length]; exact Nat.le_of_eq hl⟩⟩
  obtain ⟨v, q1, q2⟩ := h2.get hd
  refine ⟨⟨vs, v, h1, q1⟩, fun y H' hy => ?_⟩
  obtain ⟨rfl, hy⟩ := hy
  have := hy vs h1
  rw [q1] at this; cases this
  exact ⟨Γ, Gh.le.refl, F, q2⟩
theorem getL_kind {x : R} {S : Sg} {l : List D} (h : getL x S = some l) : (∀ S, getLst x S = getL x S) ∨ x = .p (.tup l) := by
  cases x with
  | r n => exact .inl fun _ => rfl
  | p d =>
    cases d with
    | tup l' => cases h; exact .inr rfl
    | lst l' => exact .inl fun _ => rfl
    | scp l' => exact .inl fun _ => rfl
    | _ => cases h
theorem si_seq (hK : X.K = c.K) (h : PE X e (rdE c W f)) : PI X tg e (rdI c W (itL f)) := si_of (pi_seq h) fun σ H R q => by
  obtain ⟨Γ, S, F, P⟩ := q
  refine ⟨Γ, S, F, (Post.bind P).imp fun x S1 Γ1 H1 e1 F1 ⟨_, P1⟩ v hv => ?_⟩
  cases q : getL x S1 with
  | none => rw [q] at P1; exact P1.elim
  | some l =>
    rw [q] at P1
    have P2 := fun J hJ => Post.ok (c := c) (W := W) P1 Gh.le.refl F1 J hJ
    obtain ⟨a, vs, rfl, h1, h2⟩ := getL_ok F1 hv q
    refine ⟨a, rfl, ?_⟩
    rw [hK]
    rcases getL_kind q with hx | rfl
    · obtain ⟨a', vs', e1, h1, h2⟩ := getLst_ok F1 hv ((hx S1).trans q)
      cases e1
      exact .inl ⟨⟨vs', h1⟩, P2 _ (itL_list hv hx)⟩
    · obtain ⟨a', vs', e1, h1, h2⟩ := Rep.tup_iff.mp (RepR.pure.mp hv)
      cases e1
      exact .inr ⟨⟨vs', (TupS.mono F1.s.g h1).sq⟩, P2 _ (itL_tup hv)⟩

/-! ### enumerate -/
def iEnumA (K : PySem.W.Frag) (ta : TA) : TI := fun σ H R => ta σ H fun vs H1 => ∃ a, vs = [.ref a] ∧ (((∃ xs, SqL K H1 a xs) ∧ R (Ite K a) H1) ∨ ((∃ xs, SqT K H1 a xs) ∧ R (IteT K a) H1))
theorem pi_enumA {ta : TA} (hg : Gl X "enumerate") (hm : X.mg "enumerate" = none) (ha : PA X [e] ta) (hs : starEach [e] X.env = (false, eval e X.env) :: starEach [] X.env := by rfl) :
    PI X (.Tuple elts kk tpos) (.Call (.Name "enumerate" p) [e] [] pos) (iEnumA X.K ta) := by
  refine ⟨fun pins s σ H R I h => ?_⟩
  refine Call_ (ld_blt I hg hm boot_enumerate (PyProof.Rows.callWith_type1 (thn (ha.run pos pins s σ H _ I h) fun us s1 ⟨vs, H1, I1, r1, q1⟩ => ?_) hs rfl))
  obtain ⟨a, ex, q⟩ := q1
  subst ex
  cases r1 with
  | cons r rr =>
    cases rr
    cases r
    have fin : ∀ b, b ∈ [s1.heap.objs.size + 1, s1.heap.objs.size] → FpOk X pins H1 b := fun b hb => by
      have e' : b = s1.heap.objs.size + 1 ∨ b = s1.heap.objs.size := by simpa using hb
      have hle : s1.heap.objs.size ≤ b := by
        rcases e' with z | z
        · rw [z]; exact Nat.le_add_right _ _
        · rw [z]; exact Nat.le_refl _
      exact I1.fpOk hle (I1.hok.fresh hle)
    rcases q with ⟨⟨xs, hq⟩, q⟩ | ⟨⟨xs, hq⟩, q⟩
    · obtain ⟨its, rv, p', hz⟩ := I1.list hq
      refine call_enumerate_list p'.isList fun h' he hit hsz hk => wpAny_pyIter_enum he ?_
      have I2 : L2.Inv X pins σ H1 { s1 with heap := h' } := I1.kept (t' := s1.toks) hk
      exact ⟨s1.heap.objs.size + 1, [s1.heap.objs.size + 1, s1.heap.objs.size], _, _, H1, rfl, I2, turn_enum a (s1.heap.objs.size + 1) s1.heap.objs.size, ⟨⟨.none, he⟩, hit, Nat.succ_ne_self _⟩, fin, q⟩
    · obtain ⟨its, rv, p', hz⟩ := I1.tuple hq
      refine call_enumerate_tuple (show s1.heap.IsTuple a its.toArray from p') fun h' he hit hsz hk => wpAny_pyIter_enum he ?_
      have I2 : L2.Inv X pins σ H1 { s1 with heap := h' } := I1.kept (t' := s1.toks) hk
      have hlt : a < s1.heap.objs.size := by obtain ⟨o, e, _⟩ := p'; exact Heap.lt_size e
      exact ⟨s1.heap.objs.size + 1, [s1.heap.objs.size + 1, s1.heap.objs.size], _, _, H1, rfl, I2, turn_enumT a (s1.heap.objs.size + 1) s1.heap.objs.size (Nat.ne_of_lt hlt) (Nat.ne_of_lt (Nat.lt_succ_of_lt hlt)), ⟨⟨.none, he⟩, hit, Nat.succ_ne_self _⟩, fin, q⟩
theorem newW_ok {Γ : Gh} {S : Sg} {σ : L2.St} {H : Hp} {vs : List V} {p : Addr} (F : FrOk c Γ S σ H) (hp : H p = none) :
    ∃ Γ', Γ.le Γ' ∧ FrOk c Γ' S σ (upd H p (.tup vs)) := by
  have hG : Γ.G p = none := Ext.none F.s.g hp
  have ex : Ext Γ.G (upd Γ.G p (.tup vs)) := Ext.upd hG
  have le : Γ.le { Γ with G := upd Γ.G p (.tup vs) } := ⟨ex, rfl, [], by simp⟩
  exact ⟨_, le, F.of le (F.s.newG hp)⟩
theorem itE_list {Γ0 : Gh} {x : R} {a : Addr} {l : List D} (hv : RepR c Γ0 x (.ref a)) (hx : ∀ S, getLst x S = getL x S) : ItOkT c Γ0 ⟨fun S' => getL x S' = some l, numbered 0 l⟩ (Ite c.K a) := by
  intro Γ S σ H i e F hok
  have hok : getL x S = some l := hok
  obtain ⟨a', vs, e1, h1, h2⟩ := getLst_ok F (hv.sub e) ((hx S).trans hok)
  cases e1
  refine ⟨fun ds hd => ?_, fun hl => ⟨vs, h1, by rw [h2.length]; rw [numbered_length] at hl; exact Nat.le_of_eq hl⟩⟩
  obtain ⟨d, hd2, rfl⟩ := numbered_get hd
  obtain ⟨v, q1, q2⟩ := h2.get hd2
  refine ⟨⟨vs, v, h1, q1⟩, fun y H' hy => ?_⟩
  obtain ⟨T, x', rfl, hT, rfl, hy⟩ := hy
  have := hy vs h1
  rw [q1] at this; cases this
  obtain ⟨Γ', le, F'⟩ := newW_ok (vs := [.int (i : Nat), v]) F hT
  exact ⟨Γ', T, _, le, F', rfl, upd_same, RepL.cons (Rep.int_iff.mpr (by simp)) (RepL.one (q2.mono le.g))⟩
theorem itE_tup {Γ0 : Gh} {a : Addr} {l : List D} (hv : RepR c Γ0 (.p (.tup l)) (.ref a)) : ItOkT c Γ0 ⟨fun S' => getL (.p (.tup l)) S' = some l, numbered 0 l⟩ (IteT c.K a) := by
  intro Γ S σ H i e F hok
  obtain ⟨a', vs, e1, h1, h2⟩ := Rep.tup_iff.mp (RepR.pure.mp (hv.sub e))
  cases e1
  have h1 := (TupS.mono F.s.g h1).sq
  refine ⟨fun ds hd => ?_, fun hl => ⟨vs, h1, by rw [h2.length]; rw [numbered_length] at hl; exact hl⟩⟩
  obtain ⟨d, hd2, rfl⟩ := numbered_get hd
  obtain ⟨v, q1, q2⟩ := h2.get hd2
  refine ⟨⟨vs, v, h1, q1⟩, fun y H' hy => ?_⟩
  obtain ⟨T, x', rfl, hT, rfl, hy⟩ := hy
  have := hy vs h1
  rw [q1] at this; cases this
  obtain ⟨Γ', le, F'⟩ := newW_ok (vs := [.int (i : Nat), v]) F hT
  exact ⟨Γ', T, _, le, F', rfl, upd_same, RepL.cons (Rep.int_iff.mpr (by simp)) (RepL.one (q2.mono le.g))⟩
theorem si_enum (hK : X.K = c.K) (hg : Gl X "enumerate") (hm : X.mg "enumerate" = none) (h : PE X e (rdE c W f)) (hs : starEach [e] X.env = (false, eval e X.env) :: starEach [] X.env := by rfl) : PI X (.Tuple elts kk tpos) (.Call (.Name "enumerate" p) [e] [] pos) (rdIT c W (itE f)) :=
  siT_of (pi_enumA hg hm (sa_cons h sa_nil hs) hs) fun σ H R q => by
    obtain ⟨Γ, S, F, P⟩ := q
    refine ⟨Γ, S, F, ?_⟩
    rw [show aC f aN S = (match f S with | .ok x S1 => .ok [x] S1 | .exc x S1 => .exc x S1 | .bad => .bad) from by
      show (f >>= fun x => aN >>= fun xs => pure (x :: xs)) S = _
      rw [bind_ap]; cases f S <;> rfl]
    have P := Post.bind P
    cases qf : f S with
    | bad => rw [qf] at P; exact P
    | exc x S' => rw [qf] at P; exact P
    | ok x S1 =>
      rw [qf] at P
      intro Γ1 H1 e1 F1 vs hvs
      obtain ⟨_, P1⟩ := P Γ1 H1 e1 F1
      obtain ⟨v, r, rfl, hv, hr⟩ := hvs
      have hr : r = [] := hr
      subst hr
      cases q : getL x S1 with
      | none => rw [q] at P1; exact P1.elim
      | some l =>
        rw [q] at P1
        have P2 := fun J hJ => Post.ok (c := c) (W := W) P1 Gh.le.refl F1 J hJ
        obtain ⟨a, vs, rfl, h1, h2⟩ := getL_ok F1 hv q
        refine ⟨a, rfl, ?_⟩
        rw [hK]
        rcases getL_kind q with hx | rfl
        · obtain ⟨a', vs', e1, h1, h2⟩ := getLst_ok F1 hv ((hx S1).trans q)
          cases e1
          exact .inl ⟨⟨vs', h1⟩, P2 _ (itE_list hv hx)⟩
        · obtain ⟨a', vs', e1, h1, h2⟩ := Rep.tup_iff.mp (RepR.pure.mp hv)
          cases e1
          exact .inr ⟨⟨vs', (TupS.mono F1.s.g h1).sq⟩, P2 _ (itE_tup hv)⟩

/-! ### ranges -/
theorem itR_ok {Γ0 : Gh} {lo : Int} {n : Nat} : ItOk c Γ0 ⟨fun _ => True, intsFrom lo n⟩ (Itr lo n) := by
  intro Γ S σ H i e F _
  refine ⟨fun d hd => ?_, fun hl => ?_⟩
  · obtain ⟨rfl, hi⟩ := intsFrom_get hd
    refine ⟨hi, fun y H' hy => ?_⟩
    obtain ⟨rfl, rfl⟩ := hy
    exact ⟨Γ, Gh.le.refl, F, Rep.int_iff.mpr rfl⟩
  · rw [intsFrom_length] at hl
    exact Nat.le_of_eq hl
theorem ints1 {Γ : Gh} {xs : List R} {vs : List V} {j : Int} (h : RepRL c Γ xs vs) (e : asI1 xs = some j) : vs = [.int j] := by
  rw [asI1_some e] at h
  obtain ⟨v, r, rfl, h1, h2⟩ := h
  rw [RepR.int h1, show r = [] from h2]
theorem ints2 {Γ : Gh} {xs : List R} {vs : List V} {i j : Int} (h : RepRL c Γ xs vs) (e : asI2 xs = some (i, j)) : vs = [.int i, .int j] := by
  rw [asI2_some e] at h
  obtain ⟨v, r, rfl, h1, u, r', rfl, h2, h3⟩ := h
  rw [RepR.int h1, RepR.int h2, show r' = [] from h3]
def itR1 (g : M (List R)) : M (Itm D) := do
  let xs ← g
  fun S => match asI1 xs with
    | some j => if -(2 ^ 62) ≤ j ∧ j < 2 ^ 62 then .ok ⟨fun _ => True, intsFrom 0 j.toNat⟩ S else .bad
    | none => .bad
def itR2 (g : M (List R)) : M (Itm D) := do
  let xs ← g
  fun S => match asI2 xs with
    | some q => if -(2 ^ 62) ≤ q.1 ∧ q.1 < 2 ^ 62 ∧ -(2 ^ 62) ≤ q.2 ∧ q.2 < 2 ^ 62 then .ok ⟨fun _ => True, intsFrom q.1 (q.2 - q.1).toNat⟩ S else .bad
    | none => .bad
theorem si_range1 {a : Expr} (hg : Gl X "range") (hm : X.mg "range" = none) (ha : PA X [a] (rdA c W g)) (hs : starEach [a] X.env = [(false, eval a X.env)] := by rfl) : PI X tg (.Call (.Name "range" p) [a] [] pos) (rdI c W (itR1 g)) :=
  si_of (pi_range1 hg hm ha hs) fun σ H R q => by
    obtain ⟨Γ, S, F, P⟩ := q
    refine ⟨Γ, S, F, (Post.bind P).imp fun xs S1 Γ1 H1 e1 F1 ⟨_, P1⟩ vs hvs => ?_⟩
    cases q : asI1 xs with
    | none => rw [q] at P1; exact P1.elim
    | some j =>
      rw [q] at P1
      have P1 : Post c W σ Γ1 (if -(2 ^ 62) ≤ j ∧ j < 2 ^ 62 then Res.ok (⟨fun _ => True, intsFrom 0 j.toNat⟩ : Itm D) S1 else .bad) _ := P1
      by_cases h : -(2 ^ 62) ≤ j ∧ j < 2 ^ 62
      · rw [if_pos h] at P1
        exact ⟨j, ints1 hvs q, h.1, h.2, Post.ok (c := c) (W := W) P1 Gh.le.refl F1 _ itR_ok⟩
      · rw [if_neg h] at P1; exact P1.elim
theorem si_range2 {a b : Expr} (hg : Gl X "range") (hm : X.mg "range" = none) (ha : PA X [a, b] (rdA c W g)) (hs : starEach [a, b] X.env = [(false, eval a X.env), (false, eval b X.env)] := by rfl) (hs2 : starEach [b] X.env = [(false, eval b X.env)] := by rfl) :
    PI X tg (.Call (.Name "range" p) [a, b] [] pos) (rdI c W (itR2 g)) :=
  si_of (pi_range2 hg hm ha hs hs2) fun σ H R q => by
    obtain ⟨Γ, S, F, P⟩ := q
    refine ⟨Γ, S, F, (Post.bind P).imp fun xs S1 Γ1 H1 e1 F1 ⟨_, P1⟩ vs hvs => ?_⟩
    cases q : asI2 xs with
    | none => rw [q] at P1; exact P1.elim
    | some ij =>
      obtain ⟨i, j⟩ := ij
      rw [q] at P1
      have P1 : Post c W σ Γ1 (if -(2 ^ 62) ≤ i ∧ i < 2 ^ 62 ∧ -(2 ^ 62) ≤ j ∧ j < 2 ^ 62 then Res.ok (⟨fun _ => True, intsFrom i (j - i).toNat⟩ : Itm D) S1 else .bad) _ := P1
      by_cases h : -(2 ^ 62) ≤ i ∧ i < 2 ^ 62 ∧ -(2 ^ 62) ≤ j ∧ j < 2 ^ 62
      · rw [if_pos h] at P1
        exact ⟨i, j, ints2 hvs q, h, Post.ok (c := c) (W := W) P1 Gh.le.refl F1 _ itR_ok⟩
      · rw [if_neg h] at P1; exact P1.elim
end

end Dd

set_option Elab.async false
set_option linter.all false
set_option maxRecDepth 100000
namespace Dd
open PySem PySem.Spec PyProof.Rows L2

/-! ### comprehensions -/
def setS (S : Sg) : List Nat → List D → Sg
  | k :: ks, d :: ds => setS { S with sl := S.sl.set k (some (.p d)) } ks ds
  | _, _ => S
def setV (σ : L2.St) : List Nat → List V → L2.St
  | k :: ks, v :: vs => setV (σ.set k (some v)) ks vs
  | _, _ => σ
/-- the slots of a block's own names, forgotten -/
def wipeL (sl : List (Option R)) : List Nat → List (Option R)
  | [] => sl
  | v :: vs => (wipeL sl vs).set v none
def wipeS (S : Sg) (vs : List Nat) : Sg := { S with sl := wipeL S.sl vs }
/-- one turn: the target, the test, the element; the own names forgotten -/
def lcB {α : Type} (own ks : List Nat) (unp : α → Option (List D)) (tt : M Bool) (f : M R) : α → M (Option D) := fun x S => match unp x with
  | some ds => if ds.length = ks.length then (do
      let b ← tt
      if b = true then do
        let x ← f
        let y ← pure1 x
        fun S => .ok (some y) (wipeS S own)
      else fun S => .ok none (wipeS S own)) (setS S ks ds) else .bad
  | none => .bad
open Classical in
noncomputable def lcL {α : Type} (ok : Sg → Prop) (body : α → M (Option D)) : List α → List D → M (List D)
  | [], acc => fun S => if ok S then .ok acc S else .bad
  | d :: ds, acc => fun S => if ok S then (match body d S with
    | .ok none S' => lcL ok body ds acc S'
    | .ok (some y) S' => if acc.length < sizeLine then lcL ok body ds (acc ++ [y]) S' else .bad
    | _ => .bad) else .bad
def lcFin (S1 : Sg) : Res (List D) → Res R
  | .ok acc S' => allocL acc { S1 with st := S'.st }
  | _ => .bad
/-- [f for ks in it if tt]; own: the block's own names' slots -/
noncomputable def lcE {α : Type} (own ks : List Nat) (unp : α → Option (List D)) (it : M (Itm α)) (tt : M Bool) (f : M R) : M R := do
  let I ← it
  fun S => lcFin S (lcL I.ok (lcB own ks unp tt f) I.l [] (wipeS S own))
def tYesM : M Bool := pure true
def unp1 : D → Option (List D) := fun d => some [d]
def unpT : D → Option (List D) := fun d => match d with
  | .tup l => some l
  | _ => none
def unpW : List D → Option (List D) := some
section
variable {α : Type} {ok : Sg → Prop} {body : α → M (Option D)} {d : α} {ds : List α} {acc : List D} {S S' : Sg} {y : D}
theorem lcL_nil (h : ok S) : lcL ok body [] acc S = .ok acc S := by unfold lcL; rw [if_pos h]
theorem lcL_ok {l : List α} {r : List D} (h : lcL ok body l acc S = .ok r S') : ok S := by
  apply Classical.byContradiction
  intro hn
  cases l with
  | nil => unfold lcL at h; rw [if_neg hn] at h; cases h
  | cons d ds => unfold lcL at h; rw [if_neg hn] at h; cases h
theorem lcL_some (h : ok S) (q : body d S = .ok (some y) S') (hl : acc.length < sizeLine) : lcL ok body (d :: ds) acc S = lcL ok body ds (acc ++ [y]) S' := by
  conv => lhs; unfold lcL
  rw [if_pos h, q]
  simp only
  rw [if_pos hl]
theorem lcL_none (h : ok S) (q : body d S = .ok none S') : lcL ok body (d :: ds) acc S = lcL ok body ds acc S' := by
  conv => lhs; unfold lcL
  rw [if_pos h, q]
theorem lcL_inv {r : List D} {SF : Sg} (h : lcL ok body (d :: ds) acc S = .ok r SF) : (∃ S', body d S = .ok none S' ∧ lcL ok body ds acc S' = .ok r SF) ∨ ∃ y S', body d S = .ok (some y) S' ∧ acc.length < sizeLine ∧ lcL ok body ds (acc ++ [y]) S' = .ok r SF := by
  have hok := lcL_ok h
  unfold lcL at h
  rw [if_pos hok] at h
  cases q : body d S with
  | bad => rw [q] at h; cases h
  | exc x S' => rw [q] at h; cases h
  | ok a S' =>
    rw [q] at h
    cases a with
    | none => exact .inl ⟨S', rfl, h⟩
    | some y =>
      simp only at h
      by_cases hl : acc.length < sizeLine
      · rw [if_pos hl] at h; exact .inr ⟨y, S', rfl, hl, h⟩
      · rw [if_neg hl] at h; cases h
end
section
variable {c : Cg} {W : WX} {Γ : Gh} {S : Sg} {σ : L2.St} {H : Hp}
theorem FrOk.wipe (F : FrOk c Γ S σ H) : ∀ (vs : List Nat), FrOk c Γ (wipeS S vs) (L2.wipe σ vs) H
  | [] => F
  | v :: vs => by
    have G := FrOk.wipe F vs
    refine ⟨G.s, by show ((wipeL S.sl vs).set v none).length = ((L2.wipe σ vs).set v none).length; rw [List.length_set, List.length_set]; exact G.len, fun i x h => ?_⟩
    have h : ((wipeL S.sl vs).set v none)[i]? = some (some x) := h
    show ∃ w, ((L2.wipe σ vs).set v none)[i]? = some (some w) ∧ _
    by_cases e : v = i
    · subst e
      have hlt := (List.getElem?_eq_some_iff.mp h).1
      simp at hlt
      rw [List.getElem?_set_self hlt] at h
      cases h
    · rw [List.getElem?_set_ne e] at h ⊢
      exact G.sl i x h
theorem FrOk.putL : ∀ {ks : List Nat} {ds : List D} {vs : List V} {S : Sg} {σ : L2.St}, FrOk c Γ S σ H → RepL c Γ.G ds vs → FrOk c Γ (setS S ks ds) (setV σ ks vs) H
  | [], _, _, _, _, F, _ => by unfold setS setV; exact F
  | k :: ks, [], vs, _, _, F, h => by rw [RepL.nil_iff.mp h]; unfold setS setV; exact F
  | k :: ks, d :: ds, vs, S, σ, F, h => by
    obtain ⟨v, r, rfl, h1, h2⟩ := RepL.cons_iff.mp h
    unfold setS setV
    exact FrOk.putL (F.put k (x := .p d) h1) h2
theorem set_wipe_comm {σ : L2.St} {i : Nat} {x : Option V} : ∀ {ws : List Nat}, i ∈ ws → wipe (σ.set i x) ws = wipe σ ws
  | w :: ws, h => by
    unfold wipe
    by_cases e : w = i
    · subst e
      by_cases hm : w ∈ ws
      · rw [set_wipe_comm hm]
      · have : wipe (σ.set w x) ws = (wipe σ ws).set w x := by
          clear h
          induction ws with
          | nil => rfl
          | cons y ys ih =>
            simp only [List.mem_cons, not_or] at hm
            unfold wipe
            rw [ih hm.2, List.set_comm _ _ hm.1]
        rw [this, List.set_set]
    · rw [set_wipe_comm ((List.mem_cons.mp h).resolve_left fun q => e q.symm)]
theorem setV_wipe : ∀ {ks : List Nat} {vs : List V} {σ : L2.St} {ws : List Nat}, (∀ k ∈ ks, k ∈ ws) → wipe (setV σ ks vs) ws = wipe σ ws
  | [], _, _, _, _ => by unfold setV; rfl
  | k :: ks, [], _, _, _ => by unfold setV; rfl
  | k :: ks, v :: vs, σ, ws, h => by
    unfold setV
    rw [setV_wipe (fun k' hk => h k' (List.mem_cons_of_mem _ hk)), set_wipe_comm (h k List.mem_cons_self)]
theorem wipe_wipe {σ : L2.St} {ws : List Nat} : wipe (wipe σ ws) ws = wipe σ ws := by
  apply List.ext_getElem?
  intro i
  have key : ∀ (ws : List Nat) (τ : L2.St), (wipe τ ws)[i]? = if i ∈ ws then (τ[i]?).map (fun _ => none) else τ[i]? := by
    intro ws
    induction ws with
    | nil => intro τ; simp [wipe]
    | cons w ws ih =>
      intro τ
      unfold wipe
      by_cases e : w = i
      · subst e
        simp only [List.mem_cons_self, if_true]
        by_cases hl : w < (wipe τ ws).length
        · rw [List.getElem?_set_self hl]
          rw [wipe_length] at hl
          rw [List.getElem?_eq_getElem hl]; rfl
        · rw [List.getElem?_eq_none (by simpa using hl)]
          rw [wipe_length] at hl
          rw [List.getElem?_eq_none (by omega)]; rfl
      · rw [List.getElem?_set_ne e, ih]
        have : (i ∈ w :: ws) ↔ i ∈ ws := by simp [Ne.symm e]
        simp only [this]
  rw [key, key]
  split
  · cases σ[i]? <;> rfl
  · rfl
/-- a tracked object that nothing else speaks of becomes a cell -/
theorem StOk.adopt {st : Store} {p : Addr} {o : Con} {u : HO} (F : StOk c Γ st H) (hp : H p = some u) (hG : Γ.G p = none) (hL : Γ.L p = none) (hn : ∀ (n : Nat) (q : Con), st[n]? = some (.mu q) → Γ.ρ[n]? ≠ some p) (ho : ConOk c Γ o u) :
    StOk c { Γ with ρ := Γ.ρ ++ [p] } (st ++ [.mu o]) H := by
  have le : Γ.le { Γ with ρ := Γ.ρ ++ [p] } := le_app
  have lo : ∀ (n : Nat) (x : Cell) (a : Addr), (st ++ [Cell.mu o])[n]? = some x → (Γ.ρ ++ [p])[n]? = some a → (n < st.length ∧ st[n]? = some x ∧ Γ.ρ[n]? = some a) ∨ (n = st.length ∧ x = .mu o ∧ a = p) := fun n x a e1 e2 => by
    by_cases hn : n < st.length
    · have hn2 : n < Γ.ρ.length := by rw [← F.len]; exact hn
      rw [List.getElem?_append_left hn] at e1
      rw [List.getElem?_append_left hn2] at e2
      exact .inl ⟨hn, e1, e2⟩
    · have hn' : n = st.length := by
        have := (List.getElem?_eq_some_iff.mp e1).1
        simp at this; omega
      subst hn'
      rw [F.len] at e2
      simp at e1 e2
      exact .inr ⟨rfl, e1.symm, e2.symm⟩
  refine ⟨F.g, F.l, F.gl, by simp [F.len], fun n x a e1 e2 => ?_, fun n m a q q' e1 e2 e3 e4 => ?_⟩
  · rcases lo n x a e1 e2 with ⟨_, h1, h2⟩ | ⟨_, rfl, rfl⟩
    · have q := F.cell n x a h1 h2
      cases x with
      | mu w => obtain ⟨w', k1, k2, k3, k4⟩ := q; exact ⟨w', k1, k2.mono le, k3, k4⟩
      | fz l => exact q
      | dead => trivial
    · exact ⟨u, hp, ho.mono le, hG, hL⟩
  · rcases lo n _ a e1 e3 with ⟨_, h1, h2⟩ | ⟨h0, h1, h2⟩
    · rcases lo m _ a e2 e4 with ⟨_, k1, k2⟩ | ⟨k0, k1, k2⟩
      · exact F.inj n m a q q' h1 k1 h2 k2
      · subst k2; exact (hn n q h1 h2).elim
    · rcases lo m _ a e2 e4 with ⟨_, k1, k2⟩ | ⟨k0, k1, k2⟩
      · subst h2; exact (hn m q' k1 k2).elim
      · rw [h0, k0]
/-- another L: what it speaks of apart from the cells and G -/
theorem StOk.relL {st : Store} {L : Hp} (F : StOk c Γ st H) (hL : Ext L H) (hg : ∀ a o, L a = some o → Γ.G a = none) (hc : ∀ (n : Nat) (q : Con) (a : Addr), st[n]? = some (.mu q) → Γ.ρ[n]? = some a → L a = none) : StOk c { Γ with L := L } st H where
  g := F.g
  l := hL
  gl := hg
  len := F.len
  cell := fun n x a e1 e2 => by
    have q := F.cell n x a e1 e2
    cases x with
    | mu w =>
      obtain ⟨w', k1, k2, k3, k4⟩ := q
      refine ⟨w', k1, ?_, k3, hc n w a e1 e2⟩
      cases w with
      | lst l => exact k2
      | dct k => exact k2
      | obj k fs => exact k2
    | fz l => exact q
    | dead => trivial
  inj := F.inj
theorem FrOk.relL {L : Hp} (F : FrOk c Γ S σ H) (hL : Ext L H) (hg : ∀ a o, L a = some o → Γ.G a = none) (hc : ∀ (n : Nat) (q : Con) (a : Addr), S.st[n]? = some (.mu q) → Γ.ρ[n]? = some a → L a = none) : FrOk c { Γ with L := L } S σ H :=
  ⟨F.s.relL hL hg hc, F.len, fun i x h => let ⟨v, h1, h2⟩ := F.sl i x h; ⟨v, h1, by cases x <;> exact h2⟩⟩
/-- the list at D, kept by L, is written -/
theorem FrOk.setL {D : Addr} {u u' : HO} (F : FrOk c Γ S σ H) (hD : Γ.L D = some u) : FrOk c { Γ with L := upd Γ.L D u' } S σ (upd H D u') := by
  have hG : Γ.G D = none := F.s.gl D _ hD
  have hc : ∀ (n : Nat) (q : Con) (a : Addr), S.st[n]? = some (.mu q) → Γ.ρ[n]? = some a → a ≠ D := fun n q a e1 e2 z => by
    obtain ⟨w, _, _, _, k⟩ := F.s.cell n _ a e1 e2
    rw [z, hD] at k; cases k
  refine ⟨⟨fun a o e => ?_, fun a o e => ?_, fun a o e => ?_, F.s.len, fun n x a e1 e2 => ?_, F.s.inj⟩, F.len, fun i x h => let ⟨v, h1, h2⟩ := F.sl i x h; ⟨v, h1, by cases x <;> exact h2⟩⟩
  · have : a ≠ D := fun z => by
      have e' : Γ.G a = some o := e
      rw [z, hG] at e'; cases e'
    rw [upd_ne this]; exact F.s.g a o e
  · by_cases h : a = D
    · subst h
      have e' : upd Γ.L a u' a = some o := e
      rw [upd_same] at e' ⊢; exact e'
    · have e' : upd Γ.L D u' a = some o := e
      rw [upd_ne h] at e' ⊢; exact F.s.l a o e'
  · by_cases h : a = D
    · rw [h]; exact hG
    · have e' : upd Γ.L D u' a = some o := e
      rw [upd_ne h] at e'; exact F.s.gl a o e'
  · have q := F.s.cell n x a e1 e2
    cases x with
    | mu w =>
      obtain ⟨w', k1, k2, k3, k4⟩ := q
      have hne := hc n w a e1 e2
      refine ⟨w', by rw [upd_ne hne]; exact k1, ?_, k3, by show upd Γ.L D u' a = none; rw [upd_ne hne]; exact k4⟩
      cases w with
      | lst l => exact k2
      | dct k => exact k2
      | obj k fs => exact k2
    | fz l => exact q
    | dead => trivial
/-- a new object, kept by L -/
theorem FrOk.newL {D : Addr} {u : HO} (F : FrOk c Γ S σ H) (hD : H D = none) : FrOk c { Γ with L := upd Γ.L D u } S σ (upd H D u) := by
  have hG : Γ.G D = none := Ext.none F.s.g hD
  have hL : Γ.L D = none := Ext.none F.s.l hD
  refine ⟨⟨fun a o e => ?_, fun a o e => ?_, fun a o e => ?_, F.s.len, fun n x a e1 e2 => ?_, F.s.inj⟩, F.len, fun i x h => let ⟨v, h1, h2⟩ := F.sl i x h; ⟨v, h1, by cases x <;> exact h2⟩⟩
  · have e' : Γ.G a = some o := e
    rw [upd_ne (ne_of_none (F.s.g a o e') hD)]; exact F.s.g a o e'
  · by_cases h : a = D
    · subst h
      have e' : upd Γ.L a u a = some o := e
      rw [upd_same] at e' ⊢; exact e'
    · have e' : upd Γ.L D u a = some o := e
      rw [upd_ne h] at e' ⊢; exact F.s.l a o e'
  · by_cases h : a = D
    · rw [h]; exact hG
    · have e' : upd Γ.L D u a = some o := e
      rw [upd_ne h] at e'; exact F.s.gl a o e'
  · have q := F.s.cell n x a e1 e2
    cases x with
    | mu w =>
      obtain ⟨w', k1, k2, k3, k4⟩ := q
      have hne : a ≠ D := ne_of_none k1 hD
      refine ⟨w', by rw [upd_ne hne]; exact k1, ?_, k3, by show upd Γ.L D u a = none; rw [upd_ne hne]; exact k4⟩
      cases w with
      | lst l => exact k2
      | dct k => exact k2
      | obj k fs => exact k2
    | fz l => exact q
    | dead => trivial
end

/-! ### the comprehension itself -/
abbrev W0 : WX := fun _ _ _ _ => False
def ItG {α : Type} (c : Cg) (Γ0 : Gh) (IY : Gh → α → V → Hp → Prop) (I : Itm α) (J : L2.It) : Prop := ∀ (Γ : Gh) (S : Sg) (σ : L2.St) (H : Hp) (i : Nat), Γ0.sub Γ → FrOk c Γ S σ H → I.ok S →
  (∀ d, I.l[i]? = some d → J.go i H ∧ ∀ x H', J.yld i H x H' → ∃ Γ', Γ.le Γ' ∧ FrOk c Γ' S σ H' ∧ IY Γ' d x H') ∧ (I.l.length = i → J.stop i H)
def rdIG {α : Type} (c : Cg) (W : WX) (IY : Gh → α → V → Hp → Prop) (f : M (Itm α)) : TI := fun σ H R => ∃ Γ S, FrOk c Γ S σ H ∧ Post c W σ Γ (f S) fun I S' Γ' H' => ∀ J, ItG c Γ' IY I J → R J H'
section
variable {c : Cg} {W : WX} {α : Type} {IY : Gh → α → V → Hp → Prop} {own ks : List Nat} {unp : α → Option (List D)} {it : M (Itm α)} {tt : M Bool} {f : M R} {wi : TI} {g : TG}
theorem lc_read (hit : ∀ σ H R, rdIG c W IY it σ H R → wi σ H R)
    (hg : ∀ Γ S σ H item x Q ds, FrOk c Γ S σ H → IY Γ item x H → unp item = some ds → ds.length = ks.length → (∀ vs, RepL c Γ.G ds vs → Q (setV σ ks vs) H) → g x σ H Q)
    (hks : ∀ k ∈ ks, k ∈ own) {σ : L2.St} {H : Hp} {Q : VK} (q : rdE c W (lcE own ks unp it tt f) σ H Q) : tLc wi g (rdT c W0 tt) (rdE c W0 f) own σ H Q := by
  obtain ⟨Γ, S, F, P⟩ := q
  refine hit σ H _ ⟨Γ, S, F, (Post.bind P).imp fun I S1 Γ1 H1 e1 F1 ⟨_, P1⟩ J hJ => ?_⟩
  intro D hD
  cases hq : lcL I.ok (lcB own ks unp tt f) I.l [] (wipeS S1 own) with
  | bad => rw [hq] at P1; exact P1.elim
  | exc x S' => rw [hq] at P1; exact P1.elim
  | ok accF SF =>
  rw [hq] at P1
  have P1 : Post c W σ Γ1 (if accF.length ≤ sizeLine then Res.ok (R.r SF.st.length) { S1 with st := SF.st ++ [.mu (.lst accF)] } else .bad) (fun x S' Γ' H' => ∀ v, RepR c Γ' x v → Q v H') := P1
  have hz : accF.length ≤ sizeLine := by
    refine Classical.byContradiction fun hn => ?_
    rw [if_neg hn] at P1; exact P1
  rw [if_pos hz] at P1
  have hLD : Γ1.L D = none := Ext.none F1.s.l hD
  refine ⟨fun i m H => m = I.l.length - i ∧ i ≤ I.l.length ∧ ∃ Γ S accD accV, Γ1.sub Γ ∧ Γ.L = upd Γ1.L D (.lst accV) ∧ FrOk c Γ S (wipe σ own) H ∧ RepL c Γ.G accD accV ∧ lcL I.ok (lcB own ks unp tt f) (I.l.drop i) accD S = .ok accF SF,
    ⟨_, rfl, Nat.zero_le _, { Γ1 with L := upd Γ1.L D (.lst []) }, wipeS S1 own, [], [], ⟨Ext.refl, [], by simp⟩, rfl, (F1.wipe own).newL hD, RepL.nil, by simpa using hq⟩, ?_⟩
  rintro i m H ⟨rfl, hi, Γ2, S2, accD, accV, s2, hL, F2, hA, hlc⟩
  have hok := lcL_ok hlc
  obtain ⟨k1, k2⟩ := hJ Γ2 S2 (wipe σ own) H i s2 F2 hok
  by_cases hl : i < I.l.length
  · refine .inr ?_
    obtain ⟨g1, g2⟩ := k1 _ (List.getElem?_eq_getElem hl)
    rw [List.drop_eq_getElem_cons hl] at hlc
    refine ⟨g1, fun H' => ∃ Γ S accD accV, Γ1.sub Γ ∧ Γ.L = upd Γ1.L D (.lst accV) ∧ FrOk c Γ S (wipe σ own) H' ∧ RepL c Γ.G accD accV ∧ lcL I.ok (lcB own ks unp tt f) (I.l.drop (i + 1)) accD S = .ok accF SF, fun H' h => ⟨_, by omega, rfl, hl, h⟩, fun x H' y => ?_⟩
    obtain ⟨Γ3, e3, F3, iy⟩ := g2 x H' y
    have main : ∃ ds, unp I.l[i] = some ds ∧ ds.length = ks.length := by
      rcases lcL_inv hlc with ⟨S', hb, _⟩ | ⟨y, S', hb, _⟩ <;> (unfold lcB at hb; cases hu : unp I.l[i] with
        | none => rw [hu] at hb; cases hb
        | some ds =>
          rw [hu] at hb
          simp only at hb
          by_cases hds : ds.length = ks.length
          · exact ⟨ds, rfl, hds⟩
          · rw [if_neg hds] at hb; cases hb)
    obtain ⟨ds, hu, hds⟩ := main
    refine hg Γ3 S2 _ H' I.l[i] x _ ds F3 iy hu hds fun vs hvs => ?_
    have hw : wipe (setV (wipe σ own) ks vs) own = wipe σ own := by rw [setV_wipe hks, wipe_wipe]
    refine ⟨hw, Γ3, setS S2 ks ds, F3.putL hvs, ?_⟩
    have hB : ∀ r, lcB own ks unp tt f I.l[i] S2 = r → (tt >>= fun b => if b = true then (do
        let x ← f
        let y ← pure1 x
        fun S => .ok (some y) (wipeS S own)) else fun S => .ok none (wipeS S own)) (setS S2 ks ds) = r := fun r hr => by
      unfold lcB at hr
      rw [hu] at hr
      simp only at hr
      rw [if_pos hds] at hr
      exact hr
    have hne : ∀ r, lcB own ks unp tt f I.l[i] S2 = r → (∃ a S', r = .ok a S') → ∃ b S4, tt (setS S2 ks ds) = .ok b S4 := fun r hr ⟨a, S', e⟩ => by
      have := hB r hr
      rw [bind_ap] at this
      cases ht : tt (setS S2 ks ds) with
      | ok b S4 => exact ⟨b, S4, rfl⟩
      | exc x S4 => rw [ht] at this; rw [e] at this; cases this
      | bad => rw [ht] at this; rw [e] at this; cases this
    have e23 : Γ1.sub Γ3 := s2.trans e3.sub
    rcases lcL_inv hlc with ⟨S', hb, hrest⟩ | ⟨yD, S', hb, hlt, hrest⟩
    · obtain ⟨b, S4, ht⟩ := hne _ hb ⟨_, _, rfl⟩
      have hb2 := hB _ hb
      rw [bind_ok ht] at hb2
      rw [ht]
      intro Γ4 H4 e4 F4
      cases b with
      | true =>
        exfalso
        simp only [if_true] at hb2
        rw [bind_ap] at hb2
        cases hf : f S4 with
        | bad => rw [hf] at hb2; cases hb2
        | exc x S5 => rw [hf] at hb2; cases hb2
        | ok x5 S5 =>
          rw [hf] at hb2
          simp only at hb2
          rw [bind_ap] at hb2
          cases hp : pure1 x5 S5 with
          | bad => rw [hp] at hb2; cases hb2
          | exc x S5 => rw [hp] at hb2; cases hb2
          | ok y6 S6 => rw [hp] at hb2; cases hb2
      | false =>
        simp only [Bool.false_eq_true, if_false] at hb2
        cases hb2
        have F5 := F4.wipe own
        rw [hw] at F5
        exact ⟨Γ4, _, accD, accV, e23.trans e4.sub, by rw [e4.l, e3.l, hL], F5, RepL.mono (e3.trans e4).g hA, hrest⟩
    · obtain ⟨b, S4, ht⟩ := hne _ hb ⟨_, _, rfl⟩
      have hb2 := hB _ hb
      rw [bind_ok ht] at hb2
      rw [ht]
      intro Γ4 H4 e4 F4
      cases b with
      | false =>
        simp only [Bool.false_eq_true, if_false] at hb2
        cases hb2
      | true =>
        simp only [if_true] at hb2
        rw [bind_ap] at hb2
        refine ⟨Γ4, S4, F4, ?_⟩
        cases hf : f S4 with
        | bad => rw [hf] at hb2; cases hb2
        | exc x S5 => rw [hf] at hb2; cases hb2
        | ok x5 S5 =>
          rw [hf] at hb2
          simp only at hb2
          rw [bind_ap] at hb2
          cases hp : pure1 x5 S5 with
          | bad => rw [hp] at hb2; cases hb2
          | exc x S5 => rw [hp] at hb2; cases hb2
          | ok y6 S6 =>
            rw [hp] at hb2
            cases hb2
            intro Γ5 H5 e5 F5 v hv
            obtain ⟨d, Γ6, S6', e6, F6, hd, hd2, hd3⟩ := pure1_ok (W := W0) (K := fun d S' _ _ => d = yD ∧ S' = S6) F5 hv (by rw [hp]; exact fun _ _ _ _ => ⟨rfl, rfl⟩)
            subst hd2 hd3
            have e36 := e4.trans (e5.trans e6)
            have hL6 : Γ6.L = upd Γ1.L D (.lst accV) := by rw [e36.l, e3.l, hL]
            have hD6 : Γ6.L D = some (.lst accV) := by rw [hL6, upd_same]
            have hA6 : RepL c Γ6.G accD accV := RepL.mono (e3.trans e36).g hA
            refine ⟨accV, F6.s.l D _ hD6, by rw [hA6.length]; exact hlt, ?_⟩
            have F7 := (F6.setL (u' := .lst (accV ++ [v])) hD6).wipe own
            rw [hw] at F7
            exact ⟨{ Γ6 with L := upd Γ6.L D (.lst (accV ++ [v])) }, _, accD ++ [d], accV ++ [v], (e23.trans e36.sub).trans ⟨Ext.refl, [], by simp⟩, by show upd Γ6.L D _ = _; rw [hL6, upd_upd], F7, hA6.append (RepL.one hd), hrest⟩
  · have e : I.l.length = i := by omega
    refine .inl ⟨k2 e, ?_⟩
    rw [List.drop_eq_nil_of_le (by omega), lcL_nil hok] at hlc
    cases hlc
    have hLD2 : Γ2.L D = some (.lst accV) := by rw [hL, upd_same]
    have hLne : ∀ a, a ≠ D → Γ2.L a = Γ1.L a := fun a h => by rw [hL, upd_ne h]
    have R1 : StOk c { Γ2 with L := Γ1.L } SF.st H := F2.s.relL (fun a o h => by
        by_cases ha : a = D
        · rw [ha, hLD] at h; cases h
        · exact F2.s.l a o (by rw [hLne a ha]; exact h)) (fun a o h => by
        by_cases ha : a = D
        · rw [ha, hLD] at h; cases h
        · exact F2.s.gl a o (by rw [hLne a ha]; exact h)) (fun n p a h1 h2 => by
        by_cases ha : a = D
        · rw [ha]; exact hLD
        · obtain ⟨w, _, _, _, k⟩ := F2.s.cell n _ a h1 h2
          rw [← hLne a ha]; exact k)
    have R2 := R1.adopt (p := D) (o := .lst accF) (u := .lst accV) (F2.s.l D _ hLD2) (F2.s.gl D _ hLD2) hLD (fun n p h1 h2 => by
        obtain ⟨w, _, _, _, k⟩ := F2.s.cell n _ D h1 h2
        rw [hLD2] at k; cases k) ⟨accV, rfl, hA⟩
    have le : Γ1.le { G := Γ2.G, L := Γ1.L, ρ := Γ2.ρ ++ [D] } := ⟨s2.g, rfl, by
      obtain ⟨t, ht⟩ := s2.r
      exact ⟨t ++ [D], by show Γ2.ρ ++ [D] = _; rw [ht, List.append_assoc]⟩⟩
    refine Post.ok (c := c) (W := W) P1 le (F1.of le R2) (.ref D) ⟨D, ?_, rfl⟩
    show (Γ2.ρ ++ [D])[SF.st.length]? = some D
    rw [F2.s.len]; simp
end
end Dd

set_option Elab.async false
set_option linter.all false
set_option maxRecDepth 100000
namespace Dd
open PySem PySem.Spec PyProof.Rows L2

def gNs : List Nat → TGs
  | [] => gNil
  | k :: ks => gCons (gName k) (gNs ks)
theorem gNs_read : ∀ {ks : List Nat} {vs : List V} {σ : L2.St} {H : Hp} {Q : L2.St → Hp → Prop}, vs.length = ks.length → Q (setV σ ks vs) H → gNs ks vs σ H Q
  | [], [], σ, H, Q, _, h => ⟨rfl, by unfold setV at h; exact h⟩
  | [], v :: vs, σ, H, Q, e, h => by simp at e
  | k :: ks, [], σ, H, Q, e, h => by simp at e
  | k :: ks, v :: vs, σ, H, Q, e, h => ⟨v, vs, rfl, gNs_read (by simpa using e) (by unfold setV at h; exact h)⟩
section
variable {X : Cx} {c : Cg} {W : WX} {elt iter tg : Expr} {ifs : List Expr} {scope : Scope} {own : List (Str × Nat)} {pos spos : Pos} {it : M (Itm D)} {itw : M (Itm (List D))} {tt : M Bool} {f : M R} {i : Nat} {ks : List Nat} {es : List Expr} {kk : Nat} {tpos : Pos} {n : Nat}
theorem sts_nil : PTs X [] (rdT c W tYesM) := ⟨fun pins s σ H Q I q => pts_nil.run pins s σ H Q I (by
  obtain ⟨Γ, S, F, P⟩ := q
  exact Post.ok (c := c) (W := W) P Gh.le.refl F)⟩
theorem sts_one {e : Expr} (h : PT X e (rdT c W tt)) : PTs X [e] (rdT c W tt) := pts_one h
theorem lc1_read (hi : i ∈ own.map (·.2)) {σ : L2.St} {H : Hp} {Q : VK} (q : rdE c W (lcE (own.map (·.2)) [i] unp1 it tt f) σ H Q) : tLc (rdI c W it) (gName i) (rdT c W0 tt) (rdE c W0 f) (own.map (·.2)) σ H Q :=
  lc_read (IY := fun Γ d x _ => Rep c Γ.G d x) (wi := rdI c W it) (fun σ H R q => q) (fun Γ S σ H item x Q ds F iy hu hl k => by
    cases hu
    exact k [x] (RepL.one iy)) (fun k hk => by
      have : k = i := by simpa using hk
      rw [this]; exact hi) q
theorem lcT_read {K : PySem.W.Frag} (hK : K = c.K) (hn : n = ks.length) (hi : ∀ k ∈ ks, k ∈ own.map (·.2)) {σ : L2.St} {H : Hp} {Q : VK} (q : rdE c W (lcE (own.map (·.2)) ks unpT it tt f) σ H Q) : tLc (rdI c W it) (gTup K n (gNs ks)) (rdT c W0 tt) (rdE c W0 f) (own.map (·.2)) σ H Q :=
  lc_read (IY := fun Γ d x _ => Rep c Γ.G d x) (wi := rdI c W it) (fun σ H R q => q) (fun Γ S σ H item x Q ds F iy hu hl k => by
    cases item with
    | tup l =>
      cases hu
      obtain ⟨a, vs, e1, e2, e3⟩ := Rep.tup_iff.mp iy
      exact ⟨a, vs, e1, by rw [hK]; exact (TupS.mono F.s.g e2).sq, by rw [e3.length, hl, hn], gNs_read (by rw [e3.length, hl]) (k vs e3)⟩
    | _ => cases hu) hi q
theorem lcW_read {K : PySem.W.Frag} (hn : n = ks.length) (hi : ∀ k ∈ ks, k ∈ own.map (·.2)) {σ : L2.St} {H : Hp} {Q : VK} (q : rdE c W (lcE (own.map (·.2)) ks unpW itw tt f) σ H Q) : tLc (rdIT c W itw) (gTup K n (gNs ks)) (rdT c W0 tt) (rdE c W0 f) (own.map (·.2)) σ H Q :=
  lc_read (IY := fun Γ ds x H => ∃ T vs, x = .ref T ∧ H T = some (.tup vs) ∧ RepL c Γ.G ds vs) (wi := rdIT c W itw) (fun σ H R ⟨Γ, S, F, P⟩ => ⟨Γ, S, F, P.imp fun I S1 Γ1 H1 e1 F1 h J hJ => h J fun Γ S σ H i e F ok => ⟨fun ds hd => ⟨((hJ Γ S σ H i e F ok).1 ds hd).1, fun x H' y => by
      obtain ⟨Γ', T, vs, a1, a2, a3, a4, a5⟩ := ((hJ Γ S σ H i e F ok).1 ds hd).2 x H' y
      exact ⟨Γ', a1, a2, T, vs, a3, a4, a5⟩⟩, (hJ Γ S σ H i e F ok).2⟩⟩) (fun Γ S σ H item x Q ds F iy hu hl k => by
    cases hu
    obtain ⟨T, vs, e1, e2, e3⟩ := iy
    exact ⟨T, vs, e1, .inl (.inl e2), by rw [e3.length, hl, hn], gNs_read (by rw [e3.length, hl]) (k vs e3)⟩) hi q
/-- what a block asks of its parts -/
abbrev InBlk (X : Cx) (scope : Scope) (P : Cx → Prop) : Prop := ∀ (s : Shared) (H : Hp) (C : Addr) (cl : List (Str × Addr)) (fp : List Addr), P (X.blk s H scope (compEnvC scope cl C X.env) fp)
theorem se_lc1 (hc : X.calm = true) (hN : X.N.Nodup) (hi : PI X tg iter (rdI c W it)) (ok : BlkOk X.N X.env.scope scope own) (hm : i ∈ own.map (·.2))
    (hg : InBlk X scope fun Y => PG Y tg (gName i)) (ht : InBlk X scope fun Y => PTs Y ifs (rdT c W0 tt)) (he : InBlk X scope fun Y => PE Y elt (rdE c W0 f)) (hs : ∀ x, foldedSetIterable iter X.env x = pure x := by intro _; rfl) :
    PE X (.ListComp elt [⟨tg, iter, ifs, 0⟩] scope pos) (rdE c W (lcE (own.map (·.2)) [i] unp1 it tt f)) := se_of (pe_lc hc hN hi ok hg ht he hs) fun σ H Q q => lc1_read hm q
theorem se_lcT (hc : X.calm = true) (hN : X.N.Nodup) (hK : X.K = c.K) (hi : PI X tg iter (rdI c W it)) (ok : BlkOk X.N X.env.scope scope own) (hn : n = ks.length) (hm : ∀ k ∈ ks, k ∈ own.map (·.2))
    (hg : InBlk X scope fun Y => PG Y tg (gTup X.K n (gNs ks))) (ht : InBlk X scope fun Y => PTs Y ifs (rdT c W0 tt)) (he : InBlk X scope fun Y => PE Y elt (rdE c W0 f)) (hs : ∀ x, foldedSetIterable iter X.env x = pure x := by intro _; rfl) :
    PE X (.ListComp elt [⟨tg, iter, ifs, 0⟩] scope pos) (rdE c W (lcE (own.map (·.2)) ks unpT it tt f)) := se_of (pe_lc hc hN hi ok hg ht he hs) fun σ H Q q => lcT_read hK hn hm q
theorem se_lcW (hc : X.calm = true) (hN : X.N.Nodup) (hi : PI X tg iter (rdIT c W itw)) (ok : BlkOk X.N X.env.scope scope own) (hn : n = ks.length) (hm : ∀ k ∈ ks, k ∈ own.map (·.2))
    (hg : InBlk X scope fun Y => PG Y tg (gTup X.K n (gNs ks))) (ht : InBlk X scope fun Y => PTs Y ifs (rdT c W0 tt)) (he : InBlk X scope fun Y => PE Y elt (rdE c W0 f)) (hs : ∀ x, foldedSetIterable iter X.env x = pure x := by intro _; rfl) :
    PE X (.ListComp elt [⟨tg, iter, ifs, 0⟩] scope pos) (rdE c W (lcE (own.map (·.2)) ks unpW itw tt f)) := se_of (pe_lc hc hN hi ok hg ht he hs) fun σ H Q q => lcW_read hn hm q
/-- name = [..] on one line -/
theorem setLc_read {lc : M R} {t : TE} {j : Nat} (h : ∀ σ H Q, rdE c W lc σ H Q → t σ H Q) {E : Ends} {σ : L2.St} {H : Hp} (q : rdS c W (sSet j lc) E σ H) : tAsg t (gName j) E σ H := by
  obtain ⟨Γ, S, F, P⟩ := q
  refine h σ H _ ⟨Γ, S, F, (PostS.bindE P).imp fun x S1 Γ1 H1 e1 F1 ⟨_, P1⟩ v hv => ?_⟩
  exact P1 Γ1 _ H1 Gh.le.refl (F1.put j hv)
variable {y : Str} {py : Pos} {j : Nat}
theorem ss_lc1 (hc : X.calm = true) (hN : X.N.Nodup) (hy : X.N[j]? = some y) (hyl : X.env.scope.names.lookup y = some .local) (hsw : swapsWith (.ListComp elt [⟨tg, iter, ifs, 0⟩] scope pos) (some (.Name y py)) spos.line X.env = pure true)
    (hi : PI X tg iter (rdI c W it)) (ok : BlkOk X.N X.env.scope scope own) (hm : i ∈ own.map (·.2))
    (hg : InBlk X scope fun Y => PG Y tg (gName i)) (ht : InBlk X scope fun Y => PTs Y ifs (rdT c W0 tt)) (he : InBlk X scope fun Y => PE Y elt (rdE c W0 f)) (hs : ∀ x, foldedSetIterable iter X.env x = pure x := by intro _; rfl) :
    PS X (.Assign [.Name y py] (.ListComp elt [⟨tg, iter, ifs, 0⟩] scope pos) spos) (rdS c W (sSet j (lcE (own.map (·.2)) [i] unp1 it tt f))) :=
  ss_of (ps_setLc hc hN hy hyl hsw hi ok hg ht he hs) fun E σ H q => setLc_read (fun σ H Q q => lc1_read hm q) q
theorem ss_lcT (hc : X.calm = true) (hN : X.N.Nodup) (hK : X.K = c.K) (hy : X.N[j]? = some y) (hyl : X.env.scope.names.lookup y = some .local) (hsw : swapsWith (.ListComp elt [⟨tg, iter, ifs, 0⟩] scope pos) (some (.Name y py)) spos.line X.env = pure true)
    (hi : PI X tg iter (rdI c W it)) (ok : BlkOk X.N X.env.scope scope own) (hn : n = ks.length) (hm : ∀ k ∈ ks, k ∈ own.map (·.2))
    (hg : InBlk X scope fun Y => PG Y tg (gTup X.K n (gNs ks))) (ht : InBlk X scope fun Y => PTs Y ifs (rdT c W0 tt)) (he : InBlk X scope fun Y => PE Y elt (rdE c W0 f)) (hs : ∀ x, foldedSetIterable iter X.env x = pure x := by intro _; rfl) :
    PS X (.Assign [.Name y py] (.ListComp elt [⟨tg, iter, ifs, 0⟩] scope pos) spos) (rdS c W (sSet j (lcE (own.map (·.2)) ks unpT it tt f))) :=
  ss_of (ps_setLc hc hN hy hyl hsw hi ok hg ht he hs) fun E σ H q => setLc_read (fun σ H Q q => lcT_read hK hn hm q) q
theorem ss_lcW (hc : X.calm = true) (hN : X.N.Nodup) (hy : X.N[j]? = some y) (hyl : X.env.scope.names.lookup y = some .local) (hsw : swapsWith (.ListComp elt [⟨tg, iter, ifs, 0⟩] scope pos) (some (.Name y py)) spos.line X.env = pure true)
    (hi : PI X tg iter (rdIT c W itw)) (ok : BlkOk X.N X.env.scope scope own) (hn : n = ks.length) (hm : ∀ k ∈ ks, k ∈ own.map (·.2))
    (hg : InBlk X scope fun Y => PG Y tg (gTup X.K n (gNs ks))) (ht : InBlk X scope fun Y => PTs Y ifs (rdT c W0 tt)) (he : InBlk X scope fun Y => PE Y elt (rdE c W0 f)) (hs : ∀ x, foldedSetIterable iter X.env x = pure x := by intro _; rfl) :
    PS X (.Assign [.Name y py] (.ListComp elt [⟨tg, iter, ifs, 0⟩] scope pos) spos) (rdS c W (sSet j (lcE (own.map (·.2)) ks unpW itw tt f))) :=
  ss_of (ps_setLc hc hN hy hyl hsw hi ok hg ht he hs) fun E σ H q => setLc_read (fun σ H Q q => lcW_read hn hm q) q
/-- name = [..] made pure at once: the name is stored, then taken as pure -/
def sPur (i : Nat) : M Fl := do
  let x ← vr i
  let d ← pure1 x
  put i (.p d)
  pure .nx
theorem FrOk.same {Γ : Gh} {S : Sg} {σ : L2.St} {H : Hp} {x : R} {v : V} {i : Nat} (F : FrOk c Γ S σ H) (hs : σ[i]? = some (some v)) (h : RepR c Γ x v) : FrOk c Γ { S with sl := S.sl.set i (some x) } σ H := by
  have h1 := F.put i h
  have : σ.set i (some v) = σ := by
    apply List.ext_getElem?
    intro k
    by_cases e : i = k
    · subst e
      rw [List.getElem?_set_self (List.getElem?_eq_some_iff.mp hs).1, hs]
    · rw [List.getElem?_set_ne e]
  rw [this] at h1
  exact h1
/-- behind a statement nothing happens but that a name's value is taken as pure -/
theorem ss_thenPur {st : Stmt} {h : M Fl} {i : Nat} (hs : PS X st (rdS c W h)) : PS X st (rdS c W (sSq h (sPur i))) := ⟨fun pins s σ H E I q => by
  obtain ⟨Γ, S, F, P⟩ := q
  refine hs.run pins s σ H E I ⟨Γ, S, F, ?_⟩
  have P2 := P.seq
  cases q : h S with
  | bad => rw [q] at P2; exact P2
  | exc x S' => rw [q] at P2; exact P2
  | ok a S' =>
    rw [q] at P2
    cases a with
    | nx =>
      intro Γ' σ' H' e F'
      obtain ⟨Γ2, S2, F2, P3⟩ := P2 Γ' σ' H' e F'
      have P3' := PostS.bindE (σ := σ') P3
      unfold vr at P3'
      split at P3'
      · rename_i x hx
        obtain ⟨v, h1, h2⟩ := F2.sl i x hx
        obtain ⟨_, P4⟩ := Post.ok (c := c) (W := W) P3' Gh.le.refl F2
        obtain ⟨d, Γ3, S3, e3, F3, hd, _, P5⟩ := pure1_ok F2 h2 (PostS.bindE P4)
        exact P5 Γ3 σ' H' Gh.le.refl (F3.same h1 (x := .p d) hd)
      · exact P3'.elim
    | rt x => exact P2
    | bk => exact P2
    | ct => exact P2⟩
end

/-! ### names in parallel -/
def sPar (i j : Nat) (g : M (List R)) : M Fl := do
  let xs ← g
  fun S => match xs with
    | x :: r => match r with
      | y :: r' => if r'.isEmpty = true then .ok .nx { S with sl := (S.sl.set i (some x)).set j (some y) } else .bad
      | [] => .bad
    | [] => .bad
def sPar3 (i j l : Nat) (g : M (List R)) : M Fl := do
  let xs ← g
  fun S => match xs with
    | x :: r => match r with
      | y :: r' => match r' with
        | z :: r'' => if r''.isEmpty = true then .ok .nx { S with sl := ((S.sl.set i (some x)).set j (some y)).set l (some z) } else .bad
        | [] => .bad
      | [] => .bad
    | [] => .bad
section
variable {X : Cx} {c : Cg} {W : WX} {x y z : Str} {a b d : Expr} {g : M (List R)} {px py pz pt pos : Pos} {kt k2 pt2} {i j l : Nat}
theorem ss_par (hc : X.calm = true) (hN : X.N.Nodup) (hi : X.N[i]? = some x) (hj : X.N[j]? = some y) (hij : i ≠ j)
    (hx : X.env.scope.names.lookup x = some .local) (hy : X.env.scope.names.lookup y = some .local) (ha : PA X [a, b] (rdA c W g))
    (hw : swappedStores [.Tuple [.Name x px, .Name y py] kt pt] (.Tuple [a, b] k2 pt2) X.env = pure (some [x, y]))
    (hs : swapsWithSole [.Tuple [.Name x px, .Name y py] kt pt] (.Tuple [a, b] k2 pt2) pos.line X.env = pure false := by rfl) :
    PS X (.Assign [.Tuple [.Name x px, .Name y py] kt pt] (.Tuple [a, b] k2 pt2) pos) (rdS c W (sPar i j g)) := ss_of (ps_par hc hN hi hj hij hx hy ha hw hs) fun E σ H q => by
  obtain ⟨Γ, S, F, P⟩ := q
  refine ⟨Γ, S, F, (PostS.bindE P).imp fun xs S1 Γ1 H1 e1 F1 ⟨_, P1⟩ vs hvs => ?_⟩
  cases xs with
  | nil => exact P1.elim
  | cons p r =>
    cases r with
    | nil => exact P1.elim
    | cons p' r' =>
      cases r' with
      | cons q r'' => exact (show False from P1).elim
      | nil =>
        obtain ⟨v, r, rfl, h1, w, r2, rfl, h2, h3⟩ := hvs
        have : r2 = [] := h3
        subst this
        exact ⟨v, w, rfl, P1 Γ1 _ H1 Gh.le.refl ((F1.put i h1).put j h2)⟩
theorem ss_par3 (hc : X.calm = true) (hN : X.N.Nodup) (hi : X.N[i]? = some x) (hj : X.N[j]? = some y) (hl : X.N[l]? = some z) (hij : i ≠ j) (hil : i ≠ l) (hjl : j ≠ l)
    (hx : X.env.scope.names.lookup x = some .local) (hy : X.env.scope.names.lookup y = some .local) (hz : X.env.scope.names.lookup z = some .local) (ha : PA X [a, b, d] (rdA c W g))
    (hw : swappedStores [.Tuple [.Name x px, .Name y py, .Name z pz] kt pt] (.Tuple [a, b, d] k2 pt2) X.env = pure (some [x, y, z]))
    (hs : swapsWithSole [.Tuple [.Name x px, .Name y py, .Name z pz] kt pt] (.Tuple [a, b, d] k2 pt2) pos.line X.env = pure false := by rfl) :
    PS X (.Assign [.Tuple [.Name x px, .Name y py, .Name z pz] kt pt] (.Tuple [a, b, d] k2 pt2) pos) (rdS c W (sPar3 i j l g)) := ss_of (ps_par3 hc hN hi hj hl hij hil hjl hx hy hz ha hw hs) fun E σ H q => by
  obtain ⟨Γ, S, F, P⟩ := q
  refine ⟨Γ, S, F, (PostS.bindE P).imp fun xs S1 Γ1 H1 e1 F1 ⟨_, P1⟩ vs hvs => ?_⟩
  cases xs with
  | nil => exact P1.elim
  | cons p r =>
    cases r with
    | nil => exact P1.elim
    | cons p' r' =>
      cases r' with
      | nil => exact P1.elim
      | cons p'' r'' =>
        cases r'' with
        | cons q r3 => exact (show False from P1).elim
        | nil =>
          obtain ⟨v, r, rfl, h1, w, r2, rfl, h2, u, r3, rfl, h3, h4⟩ := hvs
          have : r3 = [] := h4
          subst this
          exact ⟨v, w, u, rfl, P1 Γ1 _ H1 Gh.le.refl (((F1.put i h1).put j h2).put l h3)⟩
end
end Dd

set_option Elab.async false
set_option linter.all false
set_option maxRecDepth 100000
namespace Dd
open PySem PySem.Spec PyProof.Rows L2

theorem RepR.mkI {c : Cg} {Γ : Gh} {i : Int} : RepR c Γ (.p (.int i)) (.int i) := (Rep.int_iff (c := c) (G := Γ.G)).mpr rfl
theorem RepR.mkB {c : Cg} {Γ : Gh} {i : Bool} : RepR c Γ (.p (.bl i)) (.bl i) := (Rep.bl_iff (c := c) (G := Γ.G)).mpr rfl
theorem RepR.mkS {c : Cg} {Γ : Gh} {i : Str} : RepR c Γ (.p (.str i)) (.str i) := (Rep.str_iff (c := c) (G := Γ.G)).mpr rfl
theorem RepR.mkN {c : Cg} {Γ : Gh} : RepR c Γ (.p .non) .non := (Rep.non_iff (c := c) (G := Γ.G)).mpr rfl
theorem RepL.atI {c : Cg} {G : Hp} {ds : List D} {vs : List V} {i : Int} {d : D} (h : RepL c G ds vs) (e : L2.atI ds i = some d) : ∃ v, L2.atI vs i = some v ∧ Rep c G d v := by
  unfold L2.atI at e ⊢
  rw [h.length]
  cases q : ixN ds.length i with
  | none => rw [q] at e; cases e
  | some j =>
    rw [q] at e
    exact h.get (i := j) e
/-! ### o[i] -/
def opIx : R → R → M R := fun x y S => match asI y with
  | some i => match getL x S with
    | some l => match L2.atI l i with
      | some d => .ok (.p d) S
      | none => .bad
    | none => match x with
      | .p (.str z) => if z.length ≤ sizeLine then (match L2.atI z.cps.toList i with
        | some ch => .ok (.p (.str ⟨#[ch]⟩)) S
        | none => .bad) else .bad
      | _ => .bad
  | none => .bad
section
variable {X : Cx} {c : Cg} {W : WX} {a b e : Expr} {f fa fb : M R} {g : M (List R)} {pos : Pos}
theorem asI_rep {Γ : Gh} {x : R} {v : V} {i : Int} (h : RepR c Γ x v) (e : asI x = some i) : v = .int i := by
  rw [asI_some e] at h
  exact RepR.int h
theorem od_ix (hK : X.K = c.K) : OpD c W opIx (rIx X.K) := by
  intro Γ S σ H x y v w Q F hx hy P
  unfold opIx at P
  cases hi : asI y with
  | none => rw [hi] at P; exact P.elim
  | some i =>
    rw [hi] at P
    have hw := asI_rep hy hi
    subst hw
    cases hl : getL x S with
    | some l =>
      rw [hl] at P
      cases hd : L2.atI l i with
      | none => simp only [hd] at P; exact P.elim
      | some d =>
        simp only [hd] at P
        rcases getL_kind hl with hk | rfl
        · obtain ⟨p, vs, rfl, h1, h2⟩ := getLst_ok F hx ((hk S).trans hl)
          obtain ⟨u, q1, q2⟩ := h2.atI hd
          exact .inl ⟨p, vs, i, u, rfl, rfl, by rw [hK]; exact h1, q1, Post.ok (c := c) (W := W) P Gh.le.refl F u q2⟩
        · obtain ⟨p, vs, rfl, h1, h2⟩ := Rep.tup_iff.mp (RepR.pure.mp hx)
          cases hl
          obtain ⟨u, q1, q2⟩ := h2.atI hd
          exact .inr (.inl ⟨p, vs, i, u, rfl, rfl, by rw [hK]; exact (TupS.mono F.s.g h1).sq, q1, Post.ok (c := c) (W := W) P Gh.le.refl F u q2⟩)
    | none =>
      rw [hl] at P
      cases x with
      | r n => exact P.elim
      | p d =>
        cases d with
        | str z =>
          have hv := RepR.str hx
          subst hv
          have P : Post c W σ Γ (if z.length ≤ sizeLine then (match L2.atI z.cps.toList i with | some ch => Res.ok (R.p (.str ⟨#[ch]⟩)) S | none => .bad) else .bad) (fun z S' Γ' H' => ∀ u, RepR c Γ' z u → Q u H') := P
          by_cases hz : z.length ≤ sizeLine
          · rw [if_pos hz] at P
            cases hc : L2.atI z.cps.toList i with
            | none => rw [hc] at P; exact P.elim
            | some ch =>
              rw [hc] at P
              exact .inr (.inr ⟨z, i, ch, rfl, rfl, hz, hc, Post.ok (c := c) (W := W) P Gh.le.refl F _ RepR.mkS⟩)
          · rw [if_neg hz] at P; exact P.elim
        | _ => exact P.elim
theorem se_ix (hK : X.K = c.K) (ha : PE X a (rdE c W fa)) (hb : PE X b (rdE c W fb)) (hs : PlainIx b := by exact fun _ _ => rfl) : PE X (.Subscript a b pos) (rdE c W (bin opIx fa fb)) :=
  se_of (pe_ix ix_seq ha hb hs) fun σ H Q q => bin_read (od_ix hK) q

/-! ### o[lo:hi] -/
def opt0 : M (Option Int) := pure none
def opt1 (f : M R) : M (Option Int) := do
  let x ← f
  fun S => match asI x with
    | some i => .ok (some i) S
    | none => .bad
def rdO (c : Cg) (W : WX) (f : M (Option Int)) : TO := fun σ H Q => ∃ Γ S, FrOk c Γ S σ H ∧ Post c W σ Γ (f S) fun o S' Γ' H' => Q o H'
theorem so_none : PO X none (rdO c W opt0) := ⟨fun pins s σ H Q I q => po_none.run pins s σ H Q I (by
  obtain ⟨Γ, S, F, P⟩ := q
  exact Post.ok (c := c) (W := W) P Gh.le.refl F)⟩
theorem so_some (h : PE X e (rdE c W f)) : PO X (some e) (rdO c W (opt1 f)) := ⟨fun pins s σ H Q I q => (po_some h).run pins s σ H Q I (by
  obtain ⟨Γ, S, F, P⟩ := q
  refine ⟨Γ, S, F, (Post.bind P).imp fun x S1 Γ1 H1 e1 F1 ⟨_, P1⟩ v hv => ?_⟩
  cases hi : asI x with
  | none => rw [hi] at P1; exact P1.elim
  | some i =>
    rw [hi] at P1
    exact ⟨i, asI_rep hv hi, Post.ok (c := c) (W := W) P1 Gh.le.refl F1⟩)⟩
def cutD {α : Type} (xs : List α) (lo hi : Option Int) : List α := (xs.drop (HT.sIx xs.length 0 lo)).take (HT.sIx xs.length xs.length hi - HT.sIx xs.length 0 lo)
theorem RepL.cut {G : Hp} {ds : List D} {vs : List V} (h : RepL c G ds vs) (lo hi : Option Int) : RepL c G (cutD ds lo hi) (cutV vs lo hi) := by
  unfold cutD cutV
  rw [h.length]
  exact (h.drop _).take _
theorem cutD_length {α : Type} (xs : List α) (lo hi : Option Int) : (cutD xs lo hi).length ≤ xs.length := by
  unfold cutD
  rw [List.length_take, List.length_drop]
  omega
/-- a list's slice: a new list; a tuple's that is not the whole: a new tuple -/
def opSl (x : R) (lo hi : Option Int) : M R := fun S => match x with
  | .p (.tup l) => if HT.sIx l.length 0 lo = 0 ∧ HT.sIx l.length l.length hi = l.length then .ok (.p (.tup l)) S else .ok (.p (.tup (cutD l lo hi))) S
  | x => match getLst x S with
    | some l => if l.length ≤ sizeLine then .ok (.r S.st.length) { S with st := S.st ++ [.mu (.lst (cutD l lo hi))] } else .bad
    | none => .bad
def slE (f : M R) (l h : M (Option Int)) : M R := do
  let x ← f
  let lo ← l
  let hi ← h
  opSl x lo hi

def rSlF (K : PySem.W.Frag) : V → Option Int → Option Int → Hp → VK → Prop := fun x lo hi H Q => ∃ a xs, x = .ref a ∧ SqT K H a xs ∧
  (HT.sIx xs.length 0 lo = 0 ∧ HT.sIx xs.length xs.length hi = xs.length → Q (.ref a) H) ∧
  (¬ (HT.sIx xs.length 0 lo = 0 ∧ HT.sIx xs.length xs.length hi = xs.length) → ∀ p o, H p = none → o.dict = none → Q (.ref p) (upd H p (.frz o (.tup (cutV xs lo hi)))))
theorem sl_tupF : SlR X (rSlF X.K) := by
  intro pins s σ H x v vl vu lo hi sl Q I rx hs pl pu h
  obtain ⟨a, xs, rfl, hx, q1, q2⟩ := h
  cases rx
  obtain ⟨its, r, ht, hz⟩ := I.tuple hx
  have hlen : its.toArray.size = xs.length := by rw [List.size_toArray]; exact r.length.symm
  refine ⟨"tuple", _, PyProof.Rows.slot_tuple_getitem.lookup, ht.typeIs, ?_⟩
  by_cases hw : HT.sIx xs.length 0 lo = 0 ∧ HT.sIx xs.length xs.length hi = xs.length
  · exact getItem_tuple_whole ht hs pl pu (by rw [hlen]; exact hw) ⟨.ref a, H, I, rfl, q1 hw⟩
  · refine HT.getItem_tuple_cut ht hs pl pu (by rw [hlen]; exact hw) ?_ (by rw [hlen]; exact hz)
    rw [hlen]
    refine ⟨.ref s.heap.objs.size, _, I.laid (t' := s.toks) (o := .frz { cls := .type "tuple", data := .seq ((its.drop (HT.sIx xs.length 0 lo)).take (HT.sIx xs.length xs.length hi - HT.sIx xs.length 0 lo)).toArray } (.tup (cutV xs lo hi))) (fun b ob q => Heap.get?_push_of_some _ q) (Nat.le_refl _) ?_, rfl, q2 hw _ _ (I.hok.fresh (Nat.le_refl _)) rfl⟩
    exact ⟨Heap.get?_push_size _ rfl, Nat.le_trans (cutV_length xs lo hi) hz, _, (r.drop (HT.sIx xs.length 0 lo)).take (HT.sIx xs.length xs.length hi - HT.sIx xs.length 0 lo), IsTup.new _ _⟩
variable {l h : M (Option Int)} {lo hi : Option Expr} {p2 : Pos}
theorem sl_done (hK : X.K = c.K) {Γ : Gh} {S : Sg} {σ : L2.St} {H : Hp} {x : R} {v : V} {o o' : Option Int} {Q : VK} (F : FrOk c Γ S σ H) (hv : RepR c Γ x v) (P : Post c W σ Γ (opSl x o o' S) fun z S' Γ' H' => ∀ u, RepR c Γ' z u → Q u H') : rSlL X.K v o o' H Q ∨ rSlF X.K v o o' H Q := by
  have lst : ∀ y : R, (∀ S, getLst y S = getL y S) → RepR c Γ y v → Post c W σ Γ (match getLst y S with
    | some l => if l.length ≤ sizeLine then Res.ok (R.r S.st.length) { S with st := S.st ++ [.mu (.lst (cutD l o o'))] } else .bad
    | none => .bad) (fun z S' Γ' H' => ∀ u, RepR c Γ' z u → Q u H') → rSlL X.K v o o' H Q := fun y hy hv P => by
    cases q : getLst y S with
    | none => rw [q] at P; exact P.elim
    | some l =>
      rw [q] at P
      have P : Post c W σ Γ (if l.length ≤ sizeLine then Res.ok (R.r S.st.length) { S with st := S.st ++ [.mu (.lst (cutD l o o'))] } else .bad) (fun z S' Γ' H' => ∀ u, RepR c Γ' z u → Q u H') := P
      by_cases hz : l.length ≤ sizeLine
      · rw [if_pos hz] at P
        obtain ⟨a, vs, rfl, h1, h2⟩ := getLst_ok F hv q
        refine ⟨a, vs, rfl, hK ▸ h1, fun p hp => ?_⟩
        obtain ⟨Γ3, e3, F3, r3⟩ := newL_ok F (h2.cut o o') hp
        exact Post.ok (c := c) (W := W) P e3 F3 _ r3
      · rw [if_neg hz] at P; exact P.elim
  cases x with
  | r n => exact .inl (lst (.r n) (fun _ => rfl) hv P)
  | p d =>
    cases d with
    | tup l =>
      refine .inr ?_
      obtain ⟨a, vs, rfl, h1, h2⟩ := Rep.tup_iff.mp (RepR.pure.mp hv)
      refine ⟨a, vs, rfl, hK ▸ (TupS.mono F.s.g h1).sq, ?_⟩
      rw [h2.length]
      have P : Post c W σ Γ (if HT.sIx l.length 0 o = 0 ∧ HT.sIx l.length l.length o' = l.length then Res.ok (R.p (.tup l)) S else .ok (.p (.tup (cutD l o o'))) S) (fun z S' Γ' H' => ∀ u, RepR c Γ' z u → Q u H') := P
      refine ⟨fun hw => ?_, fun hw p ob hp ho => ?_⟩
      · rw [if_pos hw] at P
        exact Post.ok (c := c) (W := W) P Gh.le.refl F _ hv
      · rw [if_neg hw] at P
        obtain ⟨Γ3, e3, F3, r3⟩ := newT_ok F (h2.cut o o') hp ho
        exact Post.ok (c := c) (W := W) P e3 F3 _ r3
    | lst l => exact .inl (lst (.p (.lst l)) (fun _ => rfl) hv P)
    | scp l => exact .inl (lst (.p (.scp l)) (fun _ => rfl) hv P)
    | _ => exact P.elim
theorem se_sl (hK : X.K = c.K) (he : PE X e (rdE c W f)) (hl : PO X lo (rdO c W l)) (hh : PO X hi (rdO c W h)) : PE X (.Subscript e (.Slice lo hi none p2) pos) (rdE c W (slE f l h)) :=
  se_of (pe_slice (SlR.or sl_list sl_tupF) he hl hh) fun σ H Q q => by
    obtain ⟨Γ, S, F, P⟩ := q
    refine ⟨Γ, S, F, (Post.bind P).imp fun x S1 Γ1 H1 e1 F1 ⟨_, P1⟩ v hv => ?_⟩
    refine ⟨Γ1, S1, F1, (Post.bind P1).imp fun o S2 Γ2 H2 e2 F2 ⟨_, P2⟩ => ?_⟩
    refine ⟨Γ2, S2, F2, (Post.bind P2).imp fun o' S3 Γ3 H3 e3 F3 ⟨_, P3⟩ => ?_⟩
    exact sl_done hK F3 (hv.mono (e2.trans e3)) P3

/-! ### o[i] = e -/
/-- a list's cell is written at a place -/
def setAt (x y : R) (d : D) : M Unit := fun S => match x with
  | .r n => match asI y with
    | some i => match S.st[n]? with
      | some (.mu (.lst l)) => match ixN l.length i with
        | some j => .ok () { S with st := S.st.set n (.mu (.lst (l.set j d))) }
        | none => .bad
      | _ => .bad
    | none => .bad
  | _ => .bad
def sSub (f fo fi : M R) : M Fl := do
  let x ← f
  let d ← pure1 x
  let o ← fo
  let i ← fi
  setAt o i d
  pure .nx
theorem lstC {Γ : Gh} {S : Sg} {σ : L2.St} {H : Hp} {n : Nat} {v : V} {l : List D} (F : FrOk c Γ S σ H) (hv : RepR c Γ (.r n) v) (e : S.st[n]? = some (.mu (.lst l))) : ∃ a vs, v = .ref a ∧ Γ.ρ[n]? = some a ∧ H a = some (.lst vs) ∧ RepL c Γ.G l vs ∧
    ∀ l' vs', RepL c Γ.G l' vs' → FrOk c Γ { S with st := S.st.set n (.mu (.lst l')) } σ (upd H a (.lst vs')) := by
  obtain ⟨a, vs, h1, h2, h3, h4, h5⟩ := F.s.lst e
  obtain ⟨a', k1, rfl⟩ := hv
  rw [h1] at k1; cases k1
  exact ⟨a, vs, rfl, h1, h2, h3, fun l' vs' hr => F.of Gh.le.refl (F.s.setC e h1 ⟨vs', rfl, hr⟩)⟩
theorem ss_sub {o i : Expr} {fo fi : M R} (he : PE X e (rdE c W f)) (ho : PE X o (rdE c W fo)) (hi : PE X i (rdE c W fi)) {spos : Pos} (hs : swapsWithSole [.Subscript o i pos] e spos.line X.env = pure false := by rfl) (hw : swappedStores [.Subscript o i pos] e X.env = pure none := by rfl)
    (h1 : (assignEach [.Subscript o i pos] X.env).map (·.2) = [assign (.Subscript o i pos) X.env] := by rfl)
    (ha : ∀ v, assign (.Subscript o i pos) X.env v = (do
      let ov ← holding [v] (eval o X.env)
      let iv ← holding [v, ov] (eval i X.env)
      standAt pos
      holding [v, ov, iv] (setItem ov iv v)
      release [v, ov, iv] []) := by intro _; rfl) : PS X (.Assign [.Subscript o i pos] e spos) (rdS c W (sSub f fo fi)) := ss_of (ps_asg he (pg_sub ho hi set_list ha) hs hw h1) fun E σ H q => by
  obtain ⟨Γ, S, F, P⟩ := q
  refine ⟨Γ, S, F, (PostS.bindE P).imp fun x S1 Γ1 H1 e1 F1 ⟨_, P1⟩ v hv => ?_⟩
  obtain ⟨d, Γ2, S2, e2, F2, hd, _, P2⟩ := pure1_ok F1 hv (PostS.bindE P1)
  refine ⟨Γ2, S2, F2, (PostS.bindE P2).imp fun ox S3 Γ3 H3 e3 F3 ⟨_, P3⟩ ov hov => ?_⟩
  refine ⟨Γ3, S3, F3, (PostS.bindE P3).imp fun ix S4 Γ4 H4 e4 F4 ⟨_, P4⟩ iv hiv => ?_⟩
  have P5 := PostS.bindE (σ := σ) P4
  cases ox with
  | p d => exact P5.elim
  | r n =>
    unfold setAt at P5
    simp only at P5
    cases hi : asI ix with
    | none => rw [hi] at P5; exact P5.elim
    | some k =>
      rw [hi] at P5
      simp only at P5
      cases hn : S4.st[n]? with
      | none => rw [hn] at P5; exact P5.elim
      | some y =>
        rw [hn] at P5
        cases y with
        | dead => exact P5.elim
        | fz l => exact P5.elim
        | mu u =>
          cases u with
          | dct k => exact P5.elim
          | obj k fs => exact P5.elim
          | lst l =>
            simp only at P5
            cases hj : ixN l.length k with
            | none => rw [hj] at P5; exact P5.elim
            | some j =>
              rw [hj] at P5
              obtain ⟨a, vs, rfl, r1, r2, r3, upd'⟩ := lstC F4 (hov.mono e4) hn
              refine ⟨a, vs, k, j, rfl, asI_rep hiv hi, r2, by rw [r3.length]; exact hj, ?_⟩
              have F5 := upd' (l.set j d) (vs.set j v) (r3.set j (Rep.mono (e3.trans e4).g hd))
              obtain ⟨_, P6⟩ := Post.ok (c := c) (W := W) P5 Gh.le.refl F5
              exact P6 Γ4 σ _ Gh.le.refl F5
end
end Dd

set_option Elab.async false
set_option linter.all false
set_option maxRecDepth 100000
namespace Dd
open PySem PySem.Spec PyProof.Rows L2

/-! ### lists that are tracked; +, * -/
/-- a list that is no one's but ours or frozen -/
def getM (x : R) (S : Sg) : Option (List D) := match x with
  | .p (.lst l) => some l
  | .p _ => none
  | .r n => match S.st[n]? with
    | some (.mu (.lst l)) => some l
    | some (.fz l) => some l
    | _ => none
section
variable {X : Cx} {c : Cg} {W : WX} {a b e : Expr} {f fa fb : M R} {g : M (List R)} {pos : Pos} {Γ : Gh} {S : Sg} {σ : L2.St} {H : Hp}
theorem getM_ok {x : R} {v : V} {l : List D} (F : FrOk c Γ S σ H) (hx : RepR c Γ x v) (h : getM x S = some l) : ∃ a vs, v = .ref a ∧ H a = some (.lst vs) ∧ RepL c Γ.G l vs := by
  cases x with
  | p d =>
    cases d with
    | lst l' =>
      cases h
      obtain ⟨a, vs, h1, h2, h3⟩ := Rep.lst_iff.mp (RepR.pure.mp hx)
      exact ⟨a, vs, h1, F.s.g _ _ h2, h3⟩
    | _ => cases h
  | r n =>
    obtain ⟨a, h1, h2⟩ := hx
    unfold getM at h
    simp only at h
    split at h
    · rename_i l' e
      cases h
      obtain ⟨a', vs, h3, h4, h5, _⟩ := F.s.lst e
      rw [h1] at h3; cases h3
      exact ⟨a, vs, h2, h4, h5⟩
    · rename_i l' e
      cases h
      obtain ⟨a', vs, h3, h4, h5⟩ := F.s.fro e
      rw [h1] at h3; cases h3
      exact ⟨a, vs, h2, F.s.g _ _ h4, h5⟩
    · cases h
/-- + : ints, texts, lists -/
def opAdd : R → R → M R := fun x y S => match asI x with
  | some i => match asI y with
    | some j => .ok (.p (.int (i + j))) S
    | none => .bad
  | none => match getM x S with
    | some l => match getM y S with
      | some l' => if l.length + l'.length ≤ sizeLine then .ok (.r S.st.length) { S with st := S.st ++ [.mu (.lst (l ++ l'))] } else .bad
      | none => .bad
    | none => match x with
      | .p (.str z) => match y with
        | .p (.str z') => if z.length + z'.length ≤ sizeLine then .ok (.p (.str (z ++ z'))) S else .bad
        | _ => .bad
      | _ => .bad
def rAddA : R2 := fun x y H Q => (rI0 (fun i j => .int (i + j)) x y H Q ∨ rCat x y H Q) ∨ ∃ i j, x = .str i ∧ y = .str j ∧ i.length + j.length ≤ sizeLine ∧ Q (.str (i ++ j)) H
theorem op_addA : OpR X (binaryOp .Add) rAddA := OpR.or (OpR.or op_add op_cat) op_add_str
theorem od_add : OpD c W opAdd rAddA := by
  intro Γ S σ H x y v w Q F hx hy P
  unfold opAdd at P
  cases hi : asI x with
  | some i =>
    rw [hi] at P
    simp only at P
    cases hj : asI y with
    | none => rw [hj] at P; exact P.elim
    | some j =>
      rw [hj] at P
      exact .inl (.inl ⟨i, j, asI_rep hx hi, asI_rep hy hj, Post.ok (c := c) (W := W) P Gh.le.refl F _ RepR.mkI⟩)
  | none =>
    rw [hi] at P
    simp only at P
    cases hl : getM x S with
    | some l =>
      rw [hl] at P
      simp only at P
      cases hl' : getM y S with
      | none => rw [hl'] at P; exact P.elim
      | some l' =>
        rw [hl'] at P
        simp only at P
        by_cases hz : l.length + l'.length ≤ sizeLine
        · rw [if_pos hz] at P
          obtain ⟨a, vs, rfl, h1, h2⟩ := getM_ok F hx hl
          obtain ⟨b, ws, rfl, k1, k2⟩ := getM_ok F hy hl'
          refine .inl (.inr ⟨a, b, vs, ws, rfl, rfl, h1, k1, by rw [h2.length, k2.length]; exact hz, fun p hp => ?_⟩)
          obtain ⟨Γ3, e3, F3, r3⟩ := newL_ok F (h2.append k2) hp
          exact Post.ok (c := c) (W := W) P e3 F3 _ r3
        · rw [if_neg hz] at P; exact P.elim
    | none =>
      rw [hl] at P
      cases x with
      | r n => exact P.elim
      | p d =>
        cases d with
        | str z =>
          cases y with
          | r n => exact P.elim
          | p d' =>
            cases d' with
            | str z' =>
              have P : Post c W σ Γ (if z.length + z'.length ≤ sizeLine then Res.ok (R.p (.str (z ++ z'))) S else .bad) (fun z S' Γ' H' => ∀ u, RepR c Γ' z u → Q u H') := P
              by_cases hz : z.length + z'.length ≤ sizeLine
              · rw [if_pos hz] at P
                exact .inr ⟨z, z', RepR.str hx, RepR.str hy, hz, Post.ok (c := c) (W := W) P Gh.le.refl F _ RepR.mkS⟩
              · rw [if_neg hz] at P; exact P.elim
            | _ => exact P.elim
        | _ => exact P.elim
/-- * : ints, a list times an int -/
def opMul : R → R → M R := fun x y S => match asI y with
  | some j => match asI x with
    | some i => if CMulW i j then .ok (.p (.int (i * j))) S else .bad
    | none => match getM x S with
      | some l => if -(2 ^ 63) ≤ j ∧ j < 2 ^ 63 ∧ l.length * j.toNat ≤ sizeLine then .ok (.r S.st.length) { S with st := S.st ++ [.mu (.lst (List.replicate j.toNat l).flatten)] } else .bad
      | none => .bad
  | none => .bad
theorem RepL.rep {G : Hp} {ds : List D} {vs : List V} (h : RepL c G ds vs) : ∀ n : Nat, RepL c G (List.replicate n ds).flatten (List.replicate n vs).flatten
  | 0 => RepL.nil
  | n + 1 => by
    rw [List.replicate_succ, List.replicate_succ, List.flatten_cons, List.flatten_cons]
    exact h.append (RepL.rep h n)
theorem op_mulA : OpR X (binaryOp .Mult) (fun x y H Q => rI CMulW (fun i j => .int (i * j)) x y H Q ∨ rRep x y H Q) := OpR.or op_mulW op_rep
theorem od_mul : OpD c W opMul (fun x y H Q => rI CMulW (fun i j => .int (i * j)) x y H Q ∨ rRep x y H Q) := by
  intro Γ S σ H x y v w Q F hx hy P
  unfold opMul at P
  cases hj : asI y with
  | none => rw [hj] at P; exact P.elim
  | some j =>
    rw [hj] at P
    simp only at P
    have hw := asI_rep hy hj
    cases hi : asI x with
    | some i =>
      rw [hi] at P
      simp only at P
      by_cases hz : CMulW i j
      · rw [if_pos hz] at P
        exact .inl ⟨i, j, asI_rep hx hi, hw, hz, Post.ok (c := c) (W := W) P Gh.le.refl F _ RepR.mkI⟩
      · rw [if_neg hz] at P; exact P.elim
    | none =>
      rw [hi] at P
      simp only at P
      cases hl : getM x S with
      | none => rw [hl] at P; exact P.elim
      | some l =>
        rw [hl] at P
        simp only at P
        by_cases hz : -(2 ^ 63) ≤ j ∧ j < 2 ^ 63 ∧ l.length * j.toNat ≤ sizeLine
        · rw [if_pos hz] at P
          obtain ⟨a, vs, rfl, h1, h2⟩ := getM_ok F hx hl
          refine .inr ⟨a, j, vs, rfl, hw, h1, hz.1, hz.2.1, by rw [h2.length]; exact hz.2.2, fun p hp => ?_⟩
          obtain ⟨Γ3, e3, F3, r3⟩ := newL_ok F (h2.rep j.toNat) hp
          exact Post.ok (c := c) (W := W) P e3 F3 _ r3
        · rw [if_neg hz] at P; exact P.elim

/-! ### methods of lists and tuples -/
def isLst (x : R) (S : Sg) : Bool := (getLst x S).isSome
theorem ty_lst (hK : X.K = c.K) : TyD c isLst (tyV X.K "list") := by
  intro Γ S σ H x v F hx h
  unfold isLst at h
  obtain ⟨l, hl⟩ := Option.isSome_iff_exists.mp h
  obtain ⟨a, vs, rfl, h1, h2⟩ := getLst_ok F hx hl
  exact .inl ⟨rfl, vs, hK ▸ h1⟩
def isTup (x : R) (S : Sg) : Bool := match x with
  | .p (.tup _) => true
  | _ => false
theorem ty_tup (hK : X.K = c.K) : TyD c isTup (fun v H => ∃ a vs, v = .ref a ∧ TupS X.K H a vs) := by
  intro Γ S σ H x v F hx h
  cases x with
  | r n => cases h
  | p d =>
    cases d with
    | tup l =>
      obtain ⟨a, vs, e, h1, _⟩ := Rep.tup_iff.mp (RepR.pure.mp hx)
      exact ⟨a, vs, e, hK ▸ TupS.mono F.s.g h1⟩
    | _ => cases h
/-- x.append(y) -/
def opApp : R → List R → M R := fun x xs => match xs with
  | [y] => do
    let d ← pure1 y
    fun S => match x with
      | .r n => match S.st[n]? with
        | some (.mu (.lst l)) => if l.length < sizeLine then .ok (.p .non) { S with st := S.st.set n (.mu (.lst (l ++ [d]))) } else .bad
        | _ => .bad
      | _ => .bad
  | _ => bad
theorem one_arg {Γ : Gh} {y : R} {vs : List V} (h : RepRL c Γ [y] vs) : ∃ v, vs = [v] ∧ RepR c Γ y v := by
  obtain ⟨v, r, rfl, h1, h2⟩ := h
  exact ⟨v, by rw [show r = [] from h2], h1⟩
theorem md_app : MtD c W opApp rAppend := by
  intro Γ S σ H x v xs vs Q F hx hxs P
  cases xs with
  | nil => exact P.elim
  | cons y ys =>
    cases ys with
    | cons z zs => exact P.elim
    | nil =>
      obtain ⟨u, rfl, hu⟩ := one_arg hxs
      obtain ⟨d, Γ2, S2, e2, F2, hd, _, P2⟩ := pure1_ok F hu (Post.bind P)
      cases x with
      | p d => exact P2.elim
      | r n =>
        simp only at P2
        cases hn : S2.st[n]? with
        | none => rw [hn] at P2; exact P2.elim
        | some q =>
          rw [hn] at P2
          cases q with
          | dead => exact P2.elim
          | fz l => exact P2.elim
          | mu o =>
            cases o with
            | dct k => exact P2.elim
            | obj k fs => exact P2.elim
            | lst l =>
              simp only at P2
              by_cases hz : l.length < sizeLine
              · rw [if_pos hz] at P2
                obtain ⟨a, ws, rfl, r1, r2, r3, up⟩ := lstC F2 (hx.mono e2) hn
                exact ⟨a, ws, u, rfl, rfl, r2, by rw [r3.length]; exact hz, Post.ok (c := c) (W := W) P2 Gh.le.refl (up _ _ (r3.append (RepL.one hd))) _ RepR.mkN⟩
              · rw [if_neg hz] at P2; exact P2.elim
/-- x.pop(i) -/
def opPopAt : R → List R → M R := fun x xs S => match asI1 xs with
  | some i => match x with
    | .r n => match S.st[n]? with
      | some (.mu (.lst l)) => if -(2 ^ 63) ≤ i ∧ i < 2 ^ 63 then (match seqIndex? i l.length with
        | some k => match l[k]? with
          | some d => .ok (.p d) { S with st := S.st.set n (.mu (.lst (l.eraseIdx k))) }
          | none => .bad
        | none => .bad) else .bad
      | _ => .bad
    | _ => .bad
  | none => .bad
theorem md_popAt : MtD c W opPopAt rPopAt := by
  intro Γ S σ H x v xs vs Q F hx hxs P
  unfold opPopAt at P
  cases hi : asI1 xs with
  | none => rw [hi] at P; exact P.elim
  | some i =>
    rw [hi] at P
    have hv := ints1 hxs hi
    subst hv
    cases x with
    | p d => exact P.elim
    | r n =>
      simp only at P
      cases hn : S.st[n]? with
      | none => rw [hn] at P; exact P.elim
      | some q =>
        rw [hn] at P
        cases q with
        | dead => exact P.elim
        | fz l => exact P.elim
        | mu o =>
          cases o with
          | dct k => exact P.elim
          | obj k fs => exact P.elim
          | lst l =>
            simp only at P
            by_cases hz : -(2 ^ 63) ≤ i ∧ i < 2 ^ 63
            · rw [if_pos hz] at P
              cases hk : seqIndex? i l.length with
              | none => rw [hk] at P; exact P.elim
              | some k =>
                rw [hk] at P
                simp only at P
                cases hd : l[k]? with
                | none => rw [hd] at P; exact P.elim
                | some d =>
                  rw [hd] at P
                  obtain ⟨a, ws, rfl, r1, r2, r3, up⟩ := lstC F hx hn
                  obtain ⟨u, q1, q2⟩ := r3.get hd
                  exact ⟨a, ws, i, k, u, rfl, rfl, r2, hz.1, hz.2, by rw [r3.length]; exact hk, q1, Post.ok (c := c) (W := W) P Gh.le.refl (up _ _ (r3.eraseIdx k)) u q2⟩
            · rw [if_neg hz] at P; exact P.elim
/-- x.pop() -/
def opPop : R → List R → M R := fun x xs S => match xs with
  | [] => match x with
    | .r n => match S.st[n]? with
      | some (.mu (.lst l)) => match l[l.length - 1]? with
        | some d => .ok (.p d) { S with st := S.st.set n (.mu (.lst l.dropLast)) }
        | none => .bad
      | _ => .bad
    | _ => .bad
  | _ => .bad
theorem RepL.dropLast {G : Hp} {ds : List D} {vs : List V} (h : RepL c G ds vs) : RepL c G ds.dropLast vs.dropLast := by
  rw [List.dropLast_eq_take, List.dropLast_eq_take, h.length]
  exact h.take _
theorem md_pop : MtD c W opPop rPop := by
  intro Γ S σ H x v xs vs Q F hx hxs P
  cases xs with
  | cons y ys => exact P.elim
  | nil =>
    have hv : vs = [] := hxs
    subst hv
    cases x with
    | p d => exact P.elim
    | r n =>
      unfold opPop at P
      simp only at P
      cases hn : S.st[n]? with
      | none => rw [hn] at P; exact P.elim
      | some q =>
        rw [hn] at P
        cases q with
        | dead => exact P.elim
        | fz l => exact P.elim
        | mu o =>
          cases o with
          | dct k => exact P.elim
          | obj k fs => exact P.elim
          | lst l =>
            simp only at P
            cases hd : l[l.length - 1]? with
            | none => rw [hd] at P; exact P.elim
            | some d =>
              rw [hd] at P
              obtain ⟨a, ws, rfl, r1, r2, r3, up⟩ := lstC F hx hn
              obtain ⟨u, q1, q2⟩ := r3.get hd
              exact ⟨a, ws, u, rfl, rfl, r2, by rw [r3.length]; exact q1, Post.ok (c := c) (W := W) P Gh.le.refl (up _ _ r3.dropLast) u q2⟩
/-- the place of an int in ints -/
def intsOf : List D → Option (List Int)
  | [] => some []
  | .int i :: r => match intsOf r with
    | some l => some (i :: l)
    | none => none
  | _ => none
theorem intsOf_some : ∀ {l : List D} {ns : List Int}, intsOf l = some ns → l = ns.map D.int
  | [], ns, h => by cases h; rfl
  | d :: r, ns, h => by
    cases d with
    | int i =>
      unfold intsOf at h
      cases q : intsOf r with
      | none => rw [q] at h; cases h
      | some l => rw [q] at h; cases h; rw [intsOf_some q]; rfl
    | _ => cases h
theorem intsOf_map : ∀ ns : List Int, intsOf (ns.map D.int) = some ns
  | [] => rfl
  | i :: ns => by show intsOf (.int i :: ns.map D.int) = _; unfold intsOf; rw [intsOf_map ns]
/-- the first place of an int -/
def idxOf (ns : List Int) (i : Int) : Option Nat := ns.findIdx? (· == i)
theorem idxOf_spec {ns : List Int} {i : Int} {j : Nat} (h : idxOf ns i = some j) : ns[j]? = some i ∧ ∀ m, m < j → ns[m]? ≠ some i := by
  unfold idxOf at h
  rw [List.findIdx?_eq_some_iff_getElem] at h
  obtain ⟨hj, h1, h2⟩ := h
  refine ⟨by rw [List.getElem?_eq_getElem hj]; exact congrArg some (beq_iff_eq.mp h1), fun m hm e => ?_⟩
  have hml : m < ns.length := by omega
  rw [List.getElem?_eq_getElem hml] at e
  have := h2 m hm
  rw [Option.some.inj e] at this
  exact this (beq_self_eq_true i)
/-- t.index(i) over ints -/
def opIdx : R → List R → M R := fun x xs S => match asI1 xs with
  | some i => match getL x S with
    | some l => match intsOf l with
      | some ns => match idxOf ns i with
        | some j => .ok (.p (.int (j : Nat))) S
        | none => .bad
      | none => .bad
    | none => .bad
  | none => .bad
def rIdxT (K : PySem.W.Frag) : V → List V → Hp → VK → Prop := fun x xs H Q => ∃ p, ∃ ys : List Int, ∃ z j, x = .ref p ∧ xs = [.int z] ∧ SqT K H p (ys.map V.int) ∧ ys[j]? = some z ∧ (∀ m, m < j → ys[m]? ≠ some z) ∧ Q (.int (j : Nat)) H
theorem mt_tup_idx : MtR X "tuple.index" (rIdxT X.K) := by
  intro pins s σ H x xs v us Q I rx rxs h
  obtain ⟨p, ys, z, j, rfl, rfl, hs, hj, hno, q⟩ := h
  cases rx
  cases rxs with
  | cons ru rt =>
    rename_i uy ut
    cases rt
    obtain ⟨t, rfl⟩ := ru
    obtain ⟨its, rv, ⟨⟨cls, dd, data, sl⟩, ho, hc, n, hd⟩, hlen⟩ := I.tuple hs
    simp only at hc hd
    subst hc hd
    have fys : (ys.map V.int).all flatV = true := by rw [List.all_map]; exact List.all_eq_true.mpr fun _ _ => rfl
    obtain ⟨u, hu, ru⟩ := rv.get (i := j) (x := .int z) (by rw [List.getElem?_map, hj]; rfl)
    obtain ⟨hjl, hje⟩ := List.getElem?_eq_some_iff.mp hu
    have hj' : j < its.toArray.size := by simpa using hjl
    refine call_meets PySem.F.slot_tuple_index ⟨_, ho, rfl⟩ PySem.F.entry_tuple_index (PySem.F.args_tuple_index_2 _ _) (TI.tuple_indexAt p its.toArray n dd sl (.int z t) (eqU (.int z)) j hj' ?_ ?_)
      ⟨ho, fun u' hu' => mem_eqAt (x := .int z) ⟨t, rfl⟩ rfl rv fys u' (by simpa using hu'), ?_⟩
    · have e1 : its.toArray[j] = u := by simpa using hje
      rw [e1, eqU_of ru rfl]
      simp [eqV]
    · intro m hm hmj
      have hml : m < its.length := by simpa using hm
      have hvl := rv.length
      have hmy : m < ys.length := by simp at hvl; omega
      obtain ⟨u2, hu2, ru2⟩ := rv.get (i := m) (x := .int ys[m]) (by rw [List.getElem?_map, List.getElem?_eq_getElem hmy]; rfl)
      obtain ⟨_, hme⟩ := List.getElem?_eq_some_iff.mp hu2
      have e1 : its.toArray[m] = u2 := by simpa using hme
      rw [e1, eqU_of ru2 rfl]
      have := hno m hmj
      rw [List.getElem?_eq_getElem hmy] at this
      simp only [eqV]
      exact beq_eq_false_iff_ne.mpr fun e => this (congrArg some e)
    · exact ⟨.int (j : Nat), H, I.tok _, ⟨_, rfl⟩, q⟩
theorem md_idxT (hK : X.K = c.K) : MtD c W (fun x xs S => if isTup x S = true then opIdx x xs S else .bad) (rIdxT X.K) := by
  intro Γ S σ H x v xs vs Q F hx hxs P
  simp only at P
  by_cases ht : isTup x S = true
  · rw [if_pos ht] at P
    cases x with
    | r n => cases ht
    | p d =>
      cases d with
      | tup l =>
        unfold opIdx at P
        cases hi : asI1 xs with
        | none => rw [hi] at P; exact P.elim
        | some i =>
          rw [hi] at P
          have hv := ints1 hxs hi
          subst hv
          have P : Post c W σ Γ (match intsOf l with
            | some ns => match idxOf ns i with
              | some j => Res.ok (R.p (.int (j : Nat))) S
              | none => .bad
            | none => .bad) (fun z S' Γ' H' => ∀ u, RepR c Γ' z u → Q u H') := P
          cases hn : intsOf l with
          | none => rw [hn] at P; exact P.elim
          | some ns =>
            rw [hn] at P
            simp only at P
            cases hj : idxOf ns i with
            | none => rw [hj] at P; exact P.elim
            | some j =>
              rw [hj] at P
              obtain ⟨a, ws, rfl, h1, h2⟩ := Rep.tup_iff.mp (RepR.pure.mp hx)
              rw [intsOf_some hn] at h2
              rw [h2.ints] at h1
              obtain ⟨k1, k2⟩ := idxOf_spec hj
              exact ⟨a, ns, i, j, rfl, rfl, hK ▸ (TupS.mono F.s.g h1).sq, k1, k2, Post.ok (c := c) (W := W) P Gh.le.refl F _ RepR.mkI⟩
      | _ => cases ht
  · rw [if_neg ht] at P; exact P.elim
end
end Dd

set_option Elab.async false
set_option linter.all false
set_option maxRecDepth 100000
namespace Dd
open PySem PySem.Spec PyProof.Rows L2

/-! ### methods with what is raised at the caller's slots -/
section
variable {X : Cx} {k : Nat} {f C : Addr} {fd : FuncData} {ps : List Str} {sp : Sp} {E : L2.St → XK} {x m : Str} {p pos apos : Pos} {e o : Expr} {es : List Expr} {ta : TE} {t : TA}
def tMethS (C : Addr) (m : Str) (sp : Sp) (E : L2.St → XK) (ta : TE) (t : TA) : TE := fun σ H Q => ta σ H fun x H1 => ∃ a dx fs, x = .ref a ∧ H1 a = some (.ins C dx fs) ∧ fs.lookup m = none ∧ t σ H1 fun vs H2 => sp (x :: vs) H2 Q (E σ)
theorem pe_methS {pl : Sem Bool} (he : PE X o ta) (c : Cls X.K C) (hm : Meth X.K C m f) (F : FnG X.prog X.w X.K X.mg X.base k f fd ps sp) (hG : X.A.guards = some []) (hr : Room k X.A) (hb : Binds X.K fd ps []) (hx : ∀ σ, PassesAt (L2.CX X.prog X.w) X σ (E σ)) (ha : PA X (e :: es) t)
    (hst : starEach (e :: es) X.env = (false, eval e X.env) :: starEach es X.env := by rfl) (hpl : (backTo pos (starEach es X.env)).any (·.1) = false := by rfl)
    (ht : eval (.Call (.Attribute o m apos) (e :: es) [] pos) X.env = (do
      let ov ← eval o X.env
      standAt apos.atName
      let (f, first) ← holding [ov] (getMethod ov m pl)
      callWith pos f first (backTo pos (starEach (e :: es) X.env)) (backToKw pos (keywordEach [] X.env))) := by rfl) :
    PE X (.Call (.Attribute o m apos) (e :: es) [] pos) (tMethS C m sp E ta t) := by
  refine ⟨fun pins s σ H Q I h => ?_⟩
  refine PySem.W.methodCall_KW (pl := pl) (thn (he.run pins s σ H _ I h) fun u s1 ⟨x, H1, I1, rx, a, dx, fs, ex, ea, l, q⟩ => ?_) ht
  subst ex
  obtain rfl : u = Value.ref a := rx
  refine getmeth_ok I1 ea c hm l ?_
  refine PySem.W.callWith_K (first := [.ref a]) (h₀ := X.base) I.ok.mod.kin hm.kp (thn (ha.run pos pins s1 σ H1 _ I1 q) fun us s2 ⟨vs, H2, I2, r, q2⟩ => ⟨I2.kIn, ?_⟩) hst hpl
  exact run_fnG (us := .ref a :: us) (vs := .ref a :: vs) F hG hr hb (hx σ) I2 (.cons rfl r) q2
theorem pe_methS0 {pl : Sem Bool} (he : PE X o ta) (c : Cls X.K C) (hm : Meth X.K C m f) (F : FnG X.prog X.w X.K X.mg X.base k f fd ps sp) (hG : X.A.guards = some []) (hr : Room k X.A) (hb : Binds X.K fd ps []) (hx : ∀ σ, PassesAt (L2.CX X.prog X.w) X σ (E σ))
    (ht : eval (.Call (.Attribute o m apos) [] [] pos) X.env = (do
      let ov ← eval o X.env
      standAt apos.atName
      let (f, first) ← holding [ov] (getMethod ov m pl)
      callWith pos f first (backTo pos (starEach [] X.env)) (backToKw pos (keywordEach [] X.env))) := by rfl) :
    PE X (.Call (.Attribute o m apos) [] [] pos) (tMethS C m sp E ta tNil) := by
  refine ⟨fun pins s σ H Q I h => ?_⟩
  refine PySem.W.methodCall_KW (pl := pl) (thn (he.run pins s σ H _ I h) fun u s1 ⟨x, H1, I1, rx, a, dx, fs, ex, ea, l, q⟩ => ?_) ht
  subst ex
  obtain rfl : u = Value.ref a := rx
  refine getmeth_ok I1 ea c hm l ?_
  exact PySem.W.callWith_K0 (first := [.ref a]) I1.kIn hm.kp (run_fnG (us := [.ref a]) (vs := [.ref a]) F hG hr hb (hx σ) I1 (.cons rfl .nil) q)
def tMakeS (C : Addr) (sp : Sp) (E : L2.St → XK) (t : TA) : TE := fun σ H Q => t σ H fun vs H1 => ∀ x dx, H1 x = none → H1 dx = none → dx ≠ x →
  sp (.ref x :: vs) (upd (upd H1 dx (.own x)) x (.ins C dx [])) (fun v H2 => v = .non ∧ Q (.ref x) H2) (E σ)
theorem run_makeS {pins : List (Addr × Obj)} {σ : L2.St} {H : Hp} {s : Shared} {Q : VK} {us : List Value} {vs : List V} {E : XK} (M : Mk X.K C f) (F : FnG X.prog X.w X.K X.mg X.base k f fd ps sp) (hG : X.A.guards = some []) (hr : Room (k + 1) X.A) (hb : Binds X.K fd ps [])
    (hx : PassesAt (L2.CX X.prog X.w) X σ E) (I : L2.Inv X pins σ H s) (r : Vals vs us)
    (h : ∀ x dx, H x = none → H dx = none → dx ≠ x → sp (.ref x :: vs) (upd (upd H dx (.own x)) x (.ins C dx [])) (fun v H2 => v = .non ∧ Q (.ref x) H2) E) :
    wpAny (model X.prog X.w) X.A (call (.ref C) us) (EP X pins σ Q) X.xe s := by
  have hq := h (s.heap.objs.size + 1) s.heap.objs.size (I.hok.fresh (Nat.le_succ _)) (I.hok.fresh (Nat.le_refl _)) (Nat.ne_of_lt (Nat.lt_succ_self _))
  have I2 := L2.Inv.made (C := C) I
  have r2 : Vals (V.ref (s.heap.objs.size + 1) :: vs) (Value.ref (s.heap.objs.size + 1) :: us) := .cons rfl r
  have hl : (Value.ref (s.heap.objs.size + 1) :: us).length = ps.length := by
    have e := r2.length
    rw [F.len _ _ _ _ hq] at e
    exact e.symm
  have hbb := hb _ (Value.ref (s.heap.objs.size + 1) :: us) I2.kIn (by rw [List.append_nil]; exact hl)
  rw [List.append_nil] at hbb
  refine wpAny_call (make_map (f := f) I.kIn M.makes M.init (beq_iff_eq.mp M.fn) (codeAny_mono (F.run _ X.stack _ _ ⟨Value.ref (s.heap.objs.size + 1) :: us, []⟩ (Value.ref (s.heap.objs.size + 1) :: us) _ _ E hG (hr.make C us [])
    (I2.env0.make C us []) hbb r2 hq) fun r s' hq' => ?_))
  cases r with
  | error e => exact hx pins _ _ e s' I2 hq'
  | ok fl =>
    cases fl with
    | ret u =>
      obtain ⟨v, H', I3, rv, ev, q3⟩ := I2.after hq'
      subst ev
      exact ⟨rv, ⟨V.ref (s.heap.objs.size + 1), H', I3, rfl, q3⟩⟩
    | next => exact False.elim hq'
    | brk => exact False.elim hq'
    | cont => exact False.elim hq'
theorem pe_makeS (M : Mk X.K C f) (F : FnG X.prog X.w X.K X.mg X.base k f fd ps sp) (hG : X.A.guards = some []) (hr : Room (k + 1) X.A) (hg : Gl X x) (hm : X.mg x = some (.ref C)) (hb : Binds X.K fd ps []) (hx : ∀ σ, PassesAt (L2.CX X.prog X.w) X σ (E σ))
    (ha : PA X (e :: es) t) (hdb : (x == ("__debug__" : Str)) = false := by decide) (he : starEach (e :: es) X.env = (false, eval e X.env) :: starEach es X.env := by rfl) (hpl : (backTo pos (starEach es X.env)).any (·.1) = false := by rfl) :
    PE X (.Call (.Name x p) (e :: es) [] pos) (tMakeS C sp E t) := by
  refine ⟨fun pins s σ H Q I h => ?_⟩
  refine wpAny_Call_Name_kw (ld_glob I hg hm ?_ hdb)
  refine PySem.W.callWith_K (h₀ := X.base) I.ok.mod.kin M.kp (thn (ha.run pos pins s σ H _ I h) fun us s1 ⟨vs, H1, I1, r, q⟩ => ⟨I1.kIn, ?_⟩) he hpl
  exact run_makeS M F hG hr hb (hx σ) I1 r q
theorem getprop_okG {C pA gA a dx : Addr} {fs : List (Str × V)} {f' : Str} {fd : FuncData} {ps : List Str} {sp : Sp} {E : XK} {pins : List (Addr × Obj)} {σ : L2.St} {H : Hp} {s : Shared} {Q : VK} {b : Bool} {E' : Value → Shared → Prop} (I : L2.Inv X pins σ H s) (ea : H a = some (.ins C dx fs)) (cl : Cls X.K C) (hp : PropOf X.K C f' pA gA)
    (F : FnG X.prog X.w X.K X.mg X.base k gA fd ps sp) (hG : X.A.guards = some []) (hr : Room (k + 1) X.A) (hb : Binds X.K fd ps []) (hx : Passes (L2.CX X.prog X.w) X.nox E) (h : sp [.ref a] H Q E) :
    wpAny (model X.prog X.w) X.A (getAttr (.ref a) f' b) (EP X pins σ Q) E' s := by
  obtain ⟨mA, O, _, _, _, _⟩ := ins_get I.hok ea
  obtain ⟨od, J, _⟩ := O.look
  obtain ⟨rest, hrec⟩ := hp.rec_
  have I1 := I.tok (s.toks + 1)
  have hl : ([Value.ref a] ++ []).length = ps.length := by
    rw [← F.len _ _ _ _ h]
    rfl
  have hc : (PySem.W.clsIn X.K C).isSome = true := by
    obtain ⟨cd, hc, _⟩ := PySem.W.any_some cl.hd
    rw [hc]
    rfl
  refine PySem.W.get_bind I.kIn J (PySem.W.plainGet_of (cl.get f')).1 (PySem.W.findObj_data hc hp.at_ hp.get hp.tak) (PySem.W.plainGet_of (cl.get f')).2 (wpAny_call (PySem.W.prop_get (s := { s with toks := s.toks + 1 }) I.kIn hrec ?_))
  refine codeAny_mono (F.run X.A.in1 X.stack { s with toks := s.toks + 1 } H ⟨[.ref a], []⟩ (.ref a :: []) (.ref a :: []) Q E hG hr.in1 I1.env0.in1 (hb _ [.ref a] I1.kIn hl) (.cons rfl .nil) h) fun r s' hq => ?_
  cases r with
  | error er => exact False.elim (hx pins σ H { s with toks := s.toks + 1 } er s' (I1.wish _) hq)
  | ok fl =>
    cases fl with
    | ret u =>
      obtain ⟨v, H', I3, rv, q3⟩ := I1.after hq
      show wpAny _ _ (handedOut u) _ _ _
      rw [PySem.W.handedOut_of (handed_of rv)]
      exact wpAny_pure ⟨v, H', I3, rv, q3⟩
    | next => exact False.elim hq
    | brk => exact False.elim hq
    | cont => exact False.elim hq
theorem pe_propG {C pA gA : Addr} {f' : Str} {E : XK} (he : PE X e ta) (cl : Cls X.K C) (hp : PropOf X.K C f' pA gA) (F : FnG X.prog X.w X.K X.mg X.base k gA fd ps sp) (hG : X.A.guards = some []) (hr : Room (k + 1) X.A) (hb : Binds X.K fd ps []) (hx : Passes (L2.CX X.prog X.w) X.nox E)
    (hab : attributeBase e f' X.env (eval e X.env) = eval e X.env) : PE X (.Attribute e f' pos) (tProp C sp [] E ta) := by
  refine ⟨fun pins s σ H Q I h => ?_⟩
  refine attr_of hab (thn (he.run pins s σ H _ I h) fun u s1 ⟨x, H1, I1, rx, a, dx, fs, ex, ea, q⟩ => ?_)
  subst ex
  obtain rfl : u = Value.ref a := rx
  exact getprop_okG I1 ea cl hp F hG hr hb hx q
end

/-! ### instances -/
/-- the class and the attributes of an instance -/
def insOf (x : R) (S : Sg) : Option (Nat × List (Str × D)) := match x with
  | .p (.scr l) => some (0, [("own_levels", .tup l)])
  | .p _ => none
  | .r n => match S.st[n]? with
    | some (.mu (.obj k fs)) => some (k, fs)
    | _ => none
section
variable {X : Cx} {c : Cg} {W : WX} {e o : Expr} {es : List Expr} {f fv : M R} {g : M (List R)} {pos p apos : Pos} {F : Fn} {n k K' : Nat} {fA : Addr} {fd : FuncData} {ps : List Str} {x m : Str}
theorem RepF.lookup {G : Hp} : ∀ {fs : List (Str × D)} {vs : List (Str × V)} (m : Str), RepF c G fs vs → (fs.lookup m = none → vs.lookup m = none) ∧ ∀ d, fs.lookup m = some d → ∃ v, vs.lookup m = some v ∧ Rep c G d v
  | [], vs, m, h => by
    have : vs = [] := h
    subst this
    exact ⟨fun _ => rfl, fun d h => by cases h⟩
  | (y, d') :: fs, vs, m, h => by
    obtain ⟨v, r, rfl, h1, h2⟩ := h
    by_cases e : m = y
    · subst e
      rw [List.lookup_cons_self, List.lookup_cons_self]
      exact ⟨fun h => by simp at h, fun d h => ⟨v, rfl, by cases h; exact h1⟩⟩
    · have eb : (m == y) = false := beq_eq_false_iff_ne.mpr e
      rw [List.lookup_cons, List.lookup_cons, eb]
      exact RepF.lookup m h2
theorem insOf_ok {Γ : Gh} {S : Sg} {σ : L2.St} {H : Hp} {v : V} {k : Nat} {fs : List (Str × D)} (Fo : FrOk c Γ S σ H) (hv : RepR c Γ x' v) (h : insOf x' S = some (k, fs)) :
    ∃ a dx vs, v = .ref a ∧ H a = some (.ins (c.cls k) dx vs) ∧ RepF c Γ.G fs vs := by
  cases x' with
  | p d =>
    cases d with
    | scr l =>
      cases h
      obtain ⟨a, dx, b, vs, h1, h2, h3, h4⟩ := Rep.scr_iff.mp (RepR.pure.mp hv)
      exact ⟨a, dx, _, h1, Fo.s.g _ _ h2, .ref b, [], rfl, Rep.tup_iff.mpr ⟨b, vs, rfl, h3, h4⟩, rfl⟩
    | _ => cases h
  | r n =>
    unfold insOf at h
    simp only at h
    split at h
    · rename_i k' fs' e
      cases h
      obtain ⟨a, h1, h2⟩ := hv
      obtain ⟨u, q1, ⟨dx, vs, rfl, q2⟩, _⟩ := Fo.s.cell n _ a e h1
      exact ⟨a, dx, vs, h2, q1, q2⟩
    · cases h
/-- o.m(..), o of the class k -/
def methU (k : Nat) (m : Str) (F : Fn) (n : Nat) (f : M R) (g : M (List R)) : M R := do
  let x ← f
  fun S => match insOf x S with
    | some (k', fs) => if k' = k ∧ fs.lookup m = none then callM F n (do
        let xs ← g
        pure (x :: xs)) S else .bad
    | none => .bad
theorem methU_read {σ : L2.St} {H : Hp} {Q : VK} (q : rdE c W (methU k m F n f g) σ H Q) : tMethS (c.cls k) m (spF c n F) (WE W) (rdE c W f) (rdA c W g) σ H Q := by
  obtain ⟨Γ, S, Fo, P⟩ := q
  refine ⟨Γ, S, Fo, (Post.bind P).imp fun x S1 Γ1 H1 e1 F1 ⟨_, P1⟩ v hv => ?_⟩
  cases hi : insOf x S1 with
  | none => rw [hi] at P1; exact P1.elim
  | some kf =>
    obtain ⟨k', fs⟩ := kf
    rw [hi] at P1
    simp only at P1
    by_cases hk : k' = k ∧ fs.lookup m = none
    · rw [if_pos hk] at P1
      obtain ⟨rfl, hl⟩ := hk
      obtain ⟨a, dx, vs, rfl, h1, h2⟩ := insOf_ok F1 hv hi
      refine ⟨a, dx, vs, rfl, h1, (h2.lookup m).1 hl, Γ1, S1, F1, ?_⟩
      refine (Post.bind (Post.bind P1)).imp fun xs S2 Γ2 H2 e2 F2 ⟨_, P2⟩ ws hws => ?_
      obtain ⟨_, P3⟩ := Post.ok (c := c) (W := W) P2 Gh.le.refl F2
      by_cases hn : (x :: xs).length = n
      · rw [if_pos hn] at P3
        have hall : RepRL c Γ2 (x :: xs) (.ref a :: ws) := ⟨.ref a, ws, rfl, hv.mono e2, hws⟩
        exact ⟨x :: xs, Γ2, S2.st, by rw [hall.length, hn], hall, F2.s, applyF_ok F2 P3⟩
      · rw [if_neg hn] at P3; exact P3.elim
    · rw [if_neg hk] at P1; exact P1.elim
theorem se_meth {pl : Sem Bool} (ho : PE X o (rdE c W f)) (cl : Cls X.K (c.cls k)) (hm : Meth X.K (c.cls k) m fA) (Fk : FnG X.prog X.w X.K X.mg X.base K' fA fd ps (spF c n F)) (hG : X.A.guards = some []) (hr : Room K' X.A) (hb : Binds X.K fd ps []) (tk : Takes X W) (ha : PA X (e :: es) (rdA c W g))
    (hst : starEach (e :: es) X.env = (false, eval e X.env) :: starEach es X.env := by rfl) (hpl : (backTo pos (starEach es X.env)).any (·.1) = false := by rfl)
    (ht : eval (.Call (.Attribute o m apos) (e :: es) [] pos) X.env = (do
      let ov ← eval o X.env
      standAt apos.atName
      let (f, first) ← holding [ov] (getMethod ov m pl)
      callWith pos f first (backTo pos (starEach (e :: es) X.env)) (backToKw pos (keywordEach [] X.env))) := by rfl) :
    PE X (.Call (.Attribute o m apos) (e :: es) [] pos) (rdE c W (methU k m F n f g)) :=
  se_of (pe_methS ho cl hm Fk hG hr hb (fun σ => passAt tk σ) ha hst hpl ht) fun σ H Q q => methU_read q
theorem se_meth0 {pl : Sem Bool} (ho : PE X o (rdE c W f)) (cl : Cls X.K (c.cls k)) (hm : Meth X.K (c.cls k) m fA) (Fk : FnG X.prog X.w X.K X.mg X.base K' fA fd ps (spF c n F)) (hG : X.A.guards = some []) (hr : Room K' X.A) (hb : Binds X.K fd ps []) (tk : Takes X W)
    (ht : eval (.Call (.Attribute o m apos) [] [] pos) X.env = (do
      let ov ← eval o X.env
      standAt apos.atName
      let (f, first) ← holding [ov] (getMethod ov m pl)
      callWith pos f first (backTo pos (starEach [] X.env)) (backToKw pos (keywordEach [] X.env))) := by rfl) :
    PE X (.Call (.Attribute o m apos) [] [] pos) (rdE c W (methU k m F n f aN)) :=
  se_of (pe_methS0 ho cl hm Fk hG hr hb (fun σ => passAt tk σ) ht) fun σ H Q q => by
    obtain ⟨Γ, S, Fo, P⟩ := methU_read q
    refine ⟨Γ, S, Fo, P.imp fun x S1 Γ1 H1 e1 F1 h v hv => ?_⟩
    obtain ⟨a, dx, fs, h1, h2, h3, Γ2, S2, F2, P2⟩ := h v hv
    exact ⟨a, dx, fs, h1, h2, h3, Post.ok (c := c) (W := W) P2 Gh.le.refl F2 [] rfl⟩
/-- o.f, a property of the class k: nothing is raised -/
def propU (k : Nat) (F : Fn) (f : M R) : M R := do
  let x ← f
  fun S => match insOf x S with
    | some (k', _) => if k' = k then (match F [x] S.st with
      | .exc _ _ => .bad
      | r => applyF S r) else .bad
    | none => .bad
theorem se_prop {f' : Str} {pA gA : Addr} (ho : PE X o (rdE c W f)) (cl : Cls X.K (c.cls k)) (hp : PropOf X.K (c.cls k) f' pA gA) (Fk : FnG X.prog X.w X.K X.mg X.base K' gA fd ps (spF c 1 F)) (hG : X.A.guards = some []) (hr : Room (K' + 1) X.A) (hb : Binds X.K fd ps [])
    (hab : attributeBase o f' X.env (eval o X.env) = eval o X.env := by rfl) : PE X (.Attribute o f' pos) (rdE c W (propU k F f)) :=
  se_of (pe_propG ho cl hp Fk hG hr hb (passL (X := X.nox)) hab) fun σ H Q q => by
    obtain ⟨Γ, S, Fo, P⟩ := q
    refine ⟨Γ, S, Fo, (Post.bind P).imp fun x S1 Γ1 H1 e1 F1 ⟨_, P1⟩ v hv => ?_⟩
    cases hi : insOf x S1 with
    | none => rw [hi] at P1; exact P1.elim
    | some kf =>
      obtain ⟨k', fs⟩ := kf
      rw [hi] at P1
      simp only at P1
      by_cases hk : k' = k
      · rw [if_pos hk] at P1
        subst hk
        obtain ⟨a, dx, vs, rfl, h1, h2⟩ := insOf_ok F1 hv hi
        refine ⟨a, dx, vs, rfl, h1, [x], Γ1, S1.st, rfl, ⟨.ref a, [], rfl, hv, rfl⟩, F1.s, ?_⟩
        cases hF : F [x] S1.st with
        | bad => rw [hF] at P1; exact P1.elim
        | exc y st => rw [hF] at P1; exact P1.elim
        | ok r st =>
          rw [hF] at P1
          have := applyF_ok (r := .ok r st) F1 P1
          cases r with
          | val d => exact this
          | new o => exact this
      · rw [if_neg hk] at P1; exact P1.elim
/-- o.f, an attribute that is kept in the instance -/
def attrU (k : Nat) (f' : Str) (f : M R) : M R := do
  let x ← f
  fun S => match insOf x S with
    | some (k', fs) => if k' = k then (match fs.lookup f' with
      | some d => .ok (.p d) S
      | none => .bad) else .bad
    | none => .bad
theorem se_attr {f' : Str} (hK : X.K = c.K) (ho : PE X o (rdE c W f)) (cl : Cls X.K (c.cls k)) (na : NoAttr X.K (c.cls k) f') (hab : attributeBase o f' X.env (eval o X.env) = eval o X.env := by rfl) : PE X (.Attribute o f' pos) (rdE c W (attrU k f' f)) :=
  se_of (pe_fld ho hab) fun σ H Q q => by
    obtain ⟨Γ, S, Fo, P⟩ := q
    refine ⟨Γ, S, Fo, (Post.bind P).imp fun x S1 Γ1 H1 e1 F1 ⟨_, P1⟩ v hv => ?_⟩
    cases hi : insOf x S1 with
    | none => rw [hi] at P1; exact P1.elim
    | some kf =>
      obtain ⟨k', fs⟩ := kf
      rw [hi] at P1
      simp only at P1
      by_cases hk : k' = k
      · rw [if_pos hk] at P1
        subst hk
        cases hd : fs.lookup f' with
        | none => rw [hd] at P1; exact P1.elim
        | some d =>
          rw [hd] at P1
          obtain ⟨a, dx, vs, rfl, h1, h2⟩ := insOf_ok F1 hv hi
          obtain ⟨u, q1, q2⟩ := (h2.lookup f').2 d hd
          exact ⟨a, _, dx, vs, u, rfl, h1, cl, na, q1, Post.ok (c := c) (W := W) P1 Gh.le.refl F1 u q2⟩
      · rw [if_neg hk] at P1; exact P1.elim
/-- o.f = e -/
def putD (f : Str) (d : D) : List (Str × D) → List (Str × D)
  | [] => [(f, d)]
  | (g, x) :: r => if g = f then (g, d) :: r else (g, x) :: putD f d r
theorem RepF.put {G : Hp} {f : Str} {d : D} {v : V} (h : Rep c G d v) : ∀ {fs : List (Str × D)} {vs : List (Str × V)}, RepF c G fs vs → RepF c G (putD f d fs) (putF f v vs)
  | [], vs, q => by
    have : vs = [] := q
    subst this
    exact ⟨v, [], rfl, h, rfl⟩
  | (g, x) :: r, vs, q => by
    obtain ⟨u, r', rfl, h1, h2⟩ := q
    unfold putD putF
    by_cases e : g = f
    · rw [if_pos e, if_pos e]; exact ⟨v, r', rfl, h, h2⟩
    · rw [if_neg e, if_neg e]; exact ⟨u, _, rfl, h1, RepF.put h h2⟩
theorem RepF.length {G : Hp} : ∀ {fs : List (Str × D)} {vs : List (Str × V)}, RepF c G fs vs → vs.length = fs.length
  | [], vs, q => by rw [show vs = [] from q]; rfl
  | (g, x) :: r, vs, q => by
    obtain ⟨u, r', rfl, h1, h2⟩ := q
    simp [RepF.length h2]
def sFld (k : Nat) (f' : Str) (fo f : M R) : M Fl := do
  let x ← f
  let d ← pure1 x
  let o ← fo
  fun S => match o with
    | .r n => match S.st[n]? with
      | some (.mu (.obj k' fs)) => if k' = k ∧ fs.length < 900 then .ok .nx { S with st := S.st.set n (.mu (.obj k' (putD f' d fs))) } else .bad
      | _ => .bad
    | _ => .bad
end
end Dd

set_option Elab.async false
set_option linter.all false
set_option maxRecDepth 100000
namespace Dd
open PySem PySem.Spec PyProof.Rows L2

section
variable {X : Cx} {c : Cg} {W : WX} {e o a b : Expr} {es : List Expr} {f fo fv fa fb : M R} {g : M (List R)} {pos pos' p apos : Pos} {F : Fn} {n k K' : Nat} {fA : Addr} {fd : FuncData} {ps : List Str} {x m : Str}
theorem ss_fld {f' : Str} (hv : PE X e (rdE c W f)) (ho : PE X o (rdE c W fo)) (cl : Cls X.K (c.cls k)) (na : NoAttr X.K (c.cls k) f') (hs : swapsWith e (some (.Attribute o f' pos')) pos.line X.env = pure false := by rfl) : PS X (.Assign [.Attribute o f' pos'] e pos) (rdS c W (sFld k f' fo f)) :=
  ss_of (ps_fld ho hv hs) fun E σ H q => by
    obtain ⟨Γ, S, Fo, P⟩ := q
    refine ⟨Γ, S, Fo, (PostS.bindE P).imp fun x S1 Γ1 H1 e1 F1 ⟨_, P1⟩ v hv => ?_⟩
    obtain ⟨d, Γ2, S2, e2, F2, hd, _, P2⟩ := pure1_ok F1 hv (PostS.bindE P1)
    refine ⟨Γ2, S2, F2, (PostS.bindE P2).imp fun ox S3 Γ3 H3 e3 F3 ⟨_, P3⟩ ov hov => ?_⟩
    cases ox with
    | p d => exact P3.elim
    | r n =>
      simp only at P3
      cases hn : S3.st[n]? with
      | none => rw [hn] at P3; exact P3.elim
      | some y =>
        rw [hn] at P3
        cases y with
        | dead => exact P3.elim
        | fz l => exact P3.elim
        | mu u =>
          cases u with
          | dct k => exact P3.elim
          | lst k => exact P3.elim
          | obj k' fs =>
            simp only at P3
            by_cases hk : k' = k ∧ fs.length < 900
            · rw [if_pos hk] at P3
              obtain ⟨rfl, hl⟩ := hk
              obtain ⟨a, ha, rfl⟩ := hov
              obtain ⟨u, q1, ⟨dx, vs, rfl, q2⟩, _⟩ := F3.s.cell n _ a hn ha
              refine ⟨a, _, dx, vs, rfl, q1, cl, na, by rw [q2.length]; omega, ?_⟩
              exact P3 Γ3 σ _ Gh.le.refl (F3.of Gh.le.refl (F3.s.setC hn ha ⟨dx, _, rfl, q2.put (Rep.mono e3.g hd)⟩))
            · rw [if_neg hk] at P3; exact P3.elim
/-- C(..): a new object's cell, then __init__ -/
def makeU (k : Nat) (F : Fn) (n : Nat) (g : M (List R)) : M R := do
  let xs ← g
  fun S => if xs.length + 1 = n then (match F (.r S.st.length :: xs) (S.st ++ [.mu (.obj k [])]) with
    | .ok (.val .non) st => .ok (.r S.st.length) { S with st := st }
    | .exc x st => .exc x { S with st := st }
    | _ => .bad) else .bad
theorem StOk.ext {Γ : Gh} {st : Store} {H H' : Hp} (F : StOk c Γ st H) (e : Ext H H') : StOk c Γ st H' :=
  ⟨F.g.trans e, F.l.trans e, F.gl, F.len, fun n x a e1 e2 => by
    have q := F.cell n x a e1 e2
    cases x with
    | mu o => obtain ⟨u, q1, q2⟩ := q; exact ⟨u, e _ _ q1, q2⟩
    | fz l => exact q
    | dead => trivial, F.inj⟩
theorem makeU_read {σ : L2.St} {H : Hp} {Q : VK} (q : rdE c W (makeU k F n g) σ H Q) : tMakeS (c.cls k) (spF c n F) (WE W) (rdA c W g) σ H Q := by
  obtain ⟨Γ, S, Fo, P⟩ := q
  refine ⟨Γ, S, Fo, (Post.bind P).imp fun xs S1 Γ1 H1 e1 F1 ⟨_, P1⟩ vs hvs => ?_⟩
  by_cases hn : xs.length + 1 = n
  · rw [if_pos hn] at P1
    intro y dx hy hdx hne
    have hy' : upd H1 dx (.own y) y = none := by rw [upd_ne (Ne.symm hne)]; exact hy
    have F2 := (F1.s.ext (Ext.upd (o := .own y) hdx)).newC (p := y) (o := .obj k []) (u := .ins (c.cls k) dx []) hy' ⟨dx, [], rfl, rfl⟩
    have hself : RepR c { Γ1 with ρ := Γ1.ρ ++ [y] } (.r S1.st.length) (.ref y) := ⟨y, by show (Γ1.ρ ++ [y])[S1.st.length]? = some y; rw [F1.s.len]; simp, rfl⟩
    refine ⟨.r S1.st.length :: xs, { Γ1 with ρ := Γ1.ρ ++ [y] }, S1.st ++ [.mu (.obj k [])], by simp [hvs.length, hn], ⟨.ref y, vs, rfl, hself, hvs.mono le_app⟩, F2, ?_⟩
    cases hF : F (.r S1.st.length :: xs) (S1.st ++ [.mu (.obj k [])]) with
    | bad => rw [hF] at P1; exact P1.elim
    | exc y' st =>
      rw [hF] at P1
      exact fun Γ' H' cls dd le s q => q.elim
    | ok r st =>
      rw [hF] at P1
      cases r with
      | new o => exact P1.elim
      | val d =>
        cases d with
        | non =>
          intro Γ' H' v le s q
          have e3 : Γ1.le Γ' := le_app.trans le
          exact ⟨Rep.non_iff.mp q, Post.ok (c := c) (W := W) P1 e3 (F1.of e3 s) (.ref y) (hself.mono le)⟩
        | _ => exact P1.elim
  · rw [if_neg hn] at P1; exact P1.elim
theorem se_make (M : Mk X.K (c.cls k) fA) (Fk : FnG X.prog X.w X.K X.mg X.base K' fA fd ps (spF c n F)) (hG : X.A.guards = some []) (hr : Room (K' + 1) X.A) (hg : Gl X x) (hm : X.mg x = some (.ref (c.cls k))) (hb : Binds X.K fd ps []) (tk : Takes X W)
    (ha : PA X (e :: es) (rdA c W g)) (hdb : (x == ("__debug__" : Str)) = false := by decide) (he : starEach (e :: es) X.env = (false, eval e X.env) :: starEach es X.env := by rfl) (hpl : (backTo pos (starEach es X.env)).any (·.1) = false := by rfl) :
    PE X (.Call (.Name x p) (e :: es) [] pos) (rdE c W (makeU k F n g)) :=
  se_of (pe_makeS M Fk hG hr hg hm hb (fun σ => passAt tk σ) ha hdb he hpl) fun σ H Q q => makeU_read q
end

/-! ### kinds, isinstance -/
/-- the built-in type of a value; a screen's class is none -/
def kindD : D → Option String
  | .non => some "NoneType"
  | .bl _ => some "bool"
  | .int _ => some "int"
  | .str _ => some "str"
  | .tup _ => some "tuple"
  | .lst _ => some "list"
  | .edct => some "dict"
  | .scp _ => none
  | .scr _ => none
  | .exn _ _ => none
def kindR (x : R) (S : Sg) : Option String := match x with
  | .p d => kindD d
  | .r n => match S.st[n]? with
    | some (.mu (.lst _)) => some "list"
    | some (.fz _) => some "list"
    | some (.mu (.dct _)) => some "dict"
    | _ => none
/-- what is known of an own class among the built-in ones -/
structure ClsF (K : PySem.W.Frag) (C : Addr) : Prop where
  cl : Cls K C
  ha : PySem.W.findIn K (.ref C) "__class__" = some (some (.builtin "object.__class__"))
  hn : PySem.W.specialIn K (.builtin "object.__class__") "__get__" = some (some (.builtin "getset_descriptor.__get__"))
  tk : PySem.W.takesIn K (.builtin "object.__class__") = some true
  mro : PySem.W.mroIn K C (.type "object") = some true
  self : PySem.W.kitOne K (.ref C) (.ref C) = some true
  isNo : ∀ t ∈ ["NoneType", "bool", "int", "str", "tuple", "list", "dict"], PySem.W.kitOne K (.type t) (.ref C) = some false
  noIs : ∀ t ∈ ["bool", "int", "str", "tuple", "list", "dict"], PySem.W.kitOne K (.ref C) (.type t) = some false
  noSub : ∀ t ∈ ["NoneType", "bool", "int", "str", "tuple", "list", "dict"], PySem.W.subIn K (.type t) (.ref C) = some false
section
variable {X : Cx} {c : Cg} {W : WX} {Γ : Gh} {S : Sg} {σ : L2.St} {H : Hp}
theorem kindD_ok {d : D} {v : V} {t : String} (F : FrOk c Γ S σ H) (hv : Rep c Γ.G d v) (h : kindD d = some t) : TyX c.K H v (.type t) := by
  cases d with
  | non => cases h; rw [Rep.non_iff.mp hv]; exact .base .non
  | bl b => cases h; rw [Rep.bl_iff.mp hv]; exact .base (.bl b)
  | int i => cases h; rw [Rep.int_iff.mp hv]; exact .base (.int i)
  | str s => cases h; rw [Rep.str_iff.mp hv]; exact .base (.str s)
  | tup l =>
    cases h
    obtain ⟨a, vs, rfl, h1, h2⟩ := Rep.tup_iff.mp hv
    rcases h1 with ⟨o, h1, _⟩ | ⟨o, its, n, h1, h2, _⟩
    · exact .fTuple (F.s.g _ _ h1)
    · exact .kTuple h1 h2
  | lst l =>
    cases h
    obtain ⟨a, vs, rfl, h1, h2⟩ := Rep.lst_iff.mp hv
    exact .base (.lst (F.s.g _ _ h1))
  | edct =>
    cases h
    obtain ⟨a, rfl, h1⟩ := Rep.edct_iff.mp hv
    exact .base (.dK (F.s.g _ _ h1))
  | _ => cases h
theorem kindR_ok {x : R} {v : V} {t : String} (F : FrOk c Γ S σ H) (hv : RepR c Γ x v) (h : kindR x S = some t) : TyX c.K H v (.type t) := by
  cases x with
  | p d => exact kindD_ok F hv h
  | r n =>
    obtain ⟨a, ha, rfl⟩ := hv
    unfold kindR at h
    simp only at h
    cases hn : S.st[n]? with
    | none => rw [hn] at h; cases h
    | some y =>
      rw [hn] at h
      cases y with
      | dead => cases h
      | fz l =>
        cases h
        obtain ⟨a', vs, h1, h2, _⟩ := F.s.fro hn
        rw [ha] at h1; cases h1
        exact .base (.lst (F.s.g _ _ h2))
      | mu o =>
        obtain ⟨u, q1, q2, _⟩ := F.s.cell n _ a hn ha
        cases o with
        | lst l =>
          cases h
          obtain ⟨vs, rfl, _⟩ := q2
          exact .base (.lst q1)
        | dct kvs =>
          cases h
          obtain ⟨_, rfl⟩ := q2
          exact .base (.dK q1)
        | obj k fs => cases h
theorem kindR_mem {x : R} {t : String} (h : kindR x S = some t) : t ∈ ["NoneType", "bool", "int", "str", "tuple", "list", "dict"] := by
  cases x with
  | p d => cases d <;> first | (cases h; done) | (cases h; simp)
  | r n =>
    unfold kindR at h
    simp only at h
    split at h <;> first | (cases h; done) | (cases h; simp)
theorem ins_ty {C : Addr} (cf : ClsF c.K C) {a dx : Addr} {fs : List (Str × V)} (h : H a = some (.ins C dx fs)) : TyX c.K H (.ref a) (.ref C) := .base (.ins h cf.cl cf.ha cf.hn cf.tk cf.mro)
/-- is a value of a built-in type one of another -/
def subTy (t n : String) : Bool := t == n || (t == "bool" && n == "int")
theorem kitB_sub : ∀ t ∈ ["NoneType", "bool", "int", "str", "tuple", "list", "dict"], ∀ n ∈ ["bool", "int", "str", "tuple", "list", "dict"], kitB t n = some (subTy t n) := by decide +kernel
/-- isinstance(x, n), n a built-in type -/
def opIsB (n : String) : List R → M R := fun xs S => match xs with
  | x :: r => match r with
    | _ :: _ => match kindR x S with
      | some t => .ok (.p (.bl (subTy t n))) S
      | none => match insOf x S with
        | some _ => .ok (.p (.bl false)) S
        | none => .bad
    | [] => .bad
  | [] => .bad
end
/-- a written value that is no data: a type, a class -/
def rdC (c : Cg) (W : WX) (v : V) : TE := fun σ H Q => Q v H
section
variable {X : Cx} {c : Cg} {W : WX} {e a b cE : Expr} {f : M R} {pos p p1 : Pos} {x : Str}
/-- isinstance(e, n) -/
def isB (n : String) (f : M R) : M R := do
  let x ← f
  fun S => match kindR x S with
    | some t => .ok (.p (.bl (subTy t n))) S
    | none => match insOf x S with
      | some q => if q.1 = 0 then .ok (.p (.bl false)) S else .bad
      | none => .bad
/-- isinstance(e, C), C the class k -/
def isC (k : Nat) (f : M R) : M R := do
  let x ← f
  fun S => match kindR x S with
    | some _ => .ok (.p (.bl false)) S
    | none => match insOf x S with
      | some q => if q.1 = k then .ok (.p (.bl true)) S else .bad
      | none => .bad
theorem isB_read (hK : X.K = c.K) {n : String} (hn : n ∈ ["bool", "int", "str", "tuple", "list", "dict"]) (cf : ClsF c.K (c.cls 0)) {σ : L2.St} {H : Hp} {Q : VK} (q : rdE c W (isB n f) σ H Q) : tCB (rIsi X.K) (tCons (rdE c W f) (tCons (tC (.ty n)) tNil)) σ H Q := by
  obtain ⟨Γ, S, Fo, P⟩ := q
  refine ⟨Γ, S, Fo, (Post.bind P).imp fun x S1 Γ1 H1 e1 F1 ⟨_, P1⟩ v hv => ?_⟩
  show rIsi X.K [v, .ty n] H1 Q
  rw [hK]
  cases hk : kindR x S1 with
  | some t =>
    rw [hk] at P1
    exact ⟨v, .ty n, _, _, _, rfl, .ty n, kindR_ok F1 hv hk, kit_ty (kitB_sub t (kindR_mem hk) n hn), Post.ok (c := c) (W := W) P1 Gh.le.refl F1 _ RepR.mkB⟩
  | none =>
    rw [hk] at P1
    simp only at P1
    cases hi : insOf x S1 with
    | none => rw [hi] at P1; exact P1.elim
    | some q =>
      obtain ⟨k', fs⟩ := q
      rw [hi] at P1
      simp only at P1
      by_cases h0 : k' = 0
      · rw [if_pos h0] at P1
        subst h0
        obtain ⟨a, dx, vs, rfl, h1, h2⟩ := insOf_ok F1 hv hi
        exact ⟨_, .ty n, _, _, _, rfl, .ty n, ins_ty cf h1, cf.noIs n hn, Post.ok (c := c) (W := W) P1 Gh.le.refl F1 _ RepR.mkB⟩
      · rw [if_neg h0] at P1; exact P1.elim
theorem isC_read (hK : X.K = c.K) {k : Nat} (cf : ClsF c.K (c.cls k)) {σ : L2.St} {H : Hp} {Q : VK} (q : rdE c W (isC k f) σ H Q) : tCB (rIsi X.K) (tCons (rdE c W f) (tCons (tC (.ref (c.cls k))) tNil)) σ H Q := by
  obtain ⟨Γ, S, Fo, P⟩ := q
  refine ⟨Γ, S, Fo, (Post.bind P).imp fun x S1 Γ1 H1 e1 F1 ⟨_, P1⟩ v hv => ?_⟩
  show rIsi X.K [v, .ref (c.cls k)] H1 Q
  rw [hK]
  cases hk : kindR x S1 with
  | some t =>
    rw [hk] at P1
    exact ⟨v, _, _, _, _, rfl, .own _, kindR_ok F1 hv hk, cf.isNo t (kindR_mem hk), Post.ok (c := c) (W := W) P1 Gh.le.refl F1 _ RepR.mkB⟩
  | none =>
    rw [hk] at P1
    simp only at P1
    cases hi : insOf x S1 with
    | none => rw [hi] at P1; exact P1.elim
    | some q =>
      obtain ⟨k', fs⟩ := q
      rw [hi] at P1
      simp only at P1
      by_cases h0 : k' = k
      · rw [if_pos h0] at P1
        subst h0
        obtain ⟨a, dx, vs, rfl, h1, h2⟩ := insOf_ok F1 hv hi
        exact ⟨_, _, _, _, _, rfl, .own _, ins_ty cf h1, cf.self, Post.ok (c := c) (W := W) P1 Gh.le.refl F1 _ RepR.mkB⟩
      · rw [if_neg h0] at P1; exact P1.elim
theorem se_isB (hK : X.K = c.K) {n : String} (hn : n ∈ ["bool", "int", "str", "tuple", "list", "dict"]) (cf : ClsF c.K (c.cls 0)) (ha : PE X a (rdE c W f)) (hc : PE X b (tC (.ty n))) (hg : Gl X "isinstance") (hm : X.mg "isinstance" = none)
    (hs : starEach [a, b] X.env = (false, eval a X.env) :: starEach [b] X.env := by rfl) (hs2 : starEach [b] X.env = (false, eval b X.env) :: starEach [] X.env := by rfl) (hpl : (backTo pos (starEach [b] X.env)).any (·.1) = false := by rfl) :
    PE X (.Call (.Name "isinstance" p) [a, b] [] pos) (rdE c W (isB n f)) :=
  se_of (pe_callB call_isi hg hm (by decide +kernel) (pa_cons ha (pa_cons hc pa_nil hs2) hs) (by decide) (by decide) hs hpl) fun σ H Q q => isB_read hK hn cf q
theorem se_isC (hK : X.K = c.K) {k : Nat} (cf : ClsF c.K (c.cls k)) (ha : PE X a (rdE c W f)) (hc : PE X b (tC (.ref (c.cls k)))) (hg : Gl X "isinstance") (hm : X.mg "isinstance" = none)
    (hs : starEach [a, b] X.env = (false, eval a X.env) :: starEach [b] X.env := by rfl) (hs2 : starEach [b] X.env = (false, eval b X.env) :: starEach [] X.env := by rfl) (hpl : (backTo pos (starEach [b] X.env)).any (·.1) = false := by rfl) :
    PE X (.Call (.Name "isinstance" p) [a, b] [] pos) (rdE c W (isC k f)) :=
  se_of (pe_callB call_isi hg hm (by decide +kernel) (pa_cons ha (pa_cons hc pa_nil hs2) hs) (by decide) (by decide) hs hpl) fun σ H Q q => isC_read hK cf q
end
end Dd

set_option Elab.async false
set_option linter.all false
set_option maxRecDepth 100000
namespace Dd
open PySem PySem.Spec PyProof.Rows L2

/-! ### == of data -/
mutual
def toPy : D → Option PyData
  | .non => some .none
  | .bl b => some (.bool b)
  | .int i => some (.int i)
  | .str s => some (.str s)
  | .tup l => match toPyL l with
    | some xs => some (.tuple xs)
    | none => none
  | .lst l => match toPyL l with
    | some xs => some (.list xs)
    | none => none
  | .scp l => match toPyL l with
    | some xs => some (.list xs)
    | none => none
  | .scr _ => none
  | .edct => none
  | .exn _ _ => none
def toPyL : List D → Option (List PyData)
  | [] => some []
  | d :: ds => match toPy d with
    | some x => match toPyL ds with
      | some xs => some (x :: xs)
      | none => none
    | none => none
end
mutual
theorem toPy_dp {c : Cg} {G : Hp} : ∀ {d : D} {e : PyData} {v : V}, toPy d = some e → Rep c G d v → Dp c.K G v e
  | .non, e, v, h, r => by unfold toPy at h; cases h; rw [Rep.non_iff.mp r]; exact .non
  | .bl b, e, v, h, r => by unfold toPy at h; cases h; rw [Rep.bl_iff.mp r]; exact .bl b
  | .int i, e, v, h, r => by unfold toPy at h; cases h; rw [Rep.int_iff.mp r]; exact .int i
  | .str s, e, v, h, r => by unfold toPy at h; cases h; rw [Rep.str_iff.mp r]; exact .str s
  | .tup l, e, v, h, r => by
    unfold toPy at h
    cases q : toPyL l with
    | none => rw [q] at h; cases h
    | some xs =>
      rw [q] at h; cases h
      obtain ⟨a, vs, rfl, h1, h2⟩ := Rep.tup_iff.mp r
      exact .tup h1.sq (toPyL_dp q h2)
  | .lst l, e, v, h, r => by
    unfold toPy at h
    cases q : toPyL l with
    | none => rw [q] at h; cases h
    | some xs =>
      rw [q] at h; cases h
      obtain ⟨a, vs, rfl, h1, h2⟩ := Rep.lst_iff.mp r
      exact .lst (.inl (.inl h1)) (toPyL_dp q h2)
  | .scp l, e, v, h, r => by
    unfold toPy at h
    cases q : toPyL l with
    | none => rw [q] at h; cases h
    | some xs =>
      rw [q] at h; cases h
      obtain ⟨a, vs, rfl, h1, h2⟩ := Rep.scp_iff.mp r
      exact .lst h1 (toPyL_dp q h2)
  | .scr _, e, v, h, r => by unfold toPy at h; cases h
  | .edct, e, v, h, r => by unfold toPy at h; cases h
  | .exn _ _, e, v, h, r => by unfold toPy at h; cases h
theorem toPyL_dp {c : Cg} {G : Hp} : ∀ {ds : List D} {es : List PyData} {vs : List V}, toPyL ds = some es → RepL c G ds vs → DpAll c.K G vs es
  | [], es, vs, h, r => by unfold toPyL at h; cases h; rw [RepL.nil_iff.mp r]; exact .nil
  | d :: ds, es, vs, h, r => by
    unfold toPyL at h
    cases q : toPy d with
    | none => rw [q] at h; cases h
    | some x =>
      rw [q] at h
      simp only at h
      cases q2 : toPyL ds with
      | none => rw [q2] at h; cases h
      | some xs =>
        rw [q2] at h; cases h
        obtain ⟨v, r', rfl, h1, h2⟩ := RepL.cons_iff.mp r
        exact .cons (toPy_dp q h1) (toPyL_dp q2 h2)
end
mutual
theorem Dp.mono {K : PySem.W.Frag} {H H' : Hp} (e : Ext H H') : ∀ {d : PyData} {v : V}, Dp K H v d → Dp K H' v d
  | .none, _, h => by cases h; exact .non
  | .bool b, _, h => by cases h; exact .bl b
  | .int b, _, h => by cases h; exact .int b
  | .str b, _, h => by cases h; exact .str b
  | .list ds, _, h => by
    cases h with
    | lst h1 h2 => exact .lst (SqL.mono e h1) (DpAll.mono e h2)
  | .tuple ds, _, h => by
    cases h with
    | tup h1 h2 => exact .tup (SqT.mono e h1) (DpAll.mono e h2)
  | .dict _, _, h => by cases h
theorem DpAll.mono {K : PySem.W.Frag} {H H' : Hp} (e : Ext H H') : ∀ {ds : List PyData} {vs : List V}, DpAll K H vs ds → DpAll K H' vs ds
  | [], _, h => by cases h; exact .nil
  | d :: ds, _, h => by
    cases h with
    | cons h1 h2 => exact .cons (Dp.mono e h1) (DpAll.mono e h2)
end
/-- a value as data, looked at -/
def dataR (x : R) (S : Sg) : Option PyData := match x with
  | .p d => toPy d
  | .r n => match getLst (.r n) S with
    | some l => match toPyL l with
      | some xs => some (.list xs)
      | none => none
    | none => none
def goodPy (d : PyData) : Bool := SeqAt.shaped d
/-- == on data, and of a screen with anything by its own method -/
def opEqD : R → R → M R := fun x y S => match dataR x S with
  | some d => match dataR y S with
    | some e => if SeqAt.shaped d = true ∧ SeqAt.shaped e = true then .ok (.p (.bl (PyData.eqv d e))) S else .bad
    | none => .bad
  | none => .bad
def opNeD : R → R → M R := fun x y S => match dataR x S with
  | some d => match dataR y S with
    | some e => if SeqAt.shaped d = true ∧ SeqAt.shaped e = true then .ok (.p (.bl (!PyData.eqv d e))) S else .bad
    | none => .bad
  | none => .bad
section
variable {X : Cx} {c : Cg} {W : WX} {a b e : Expr} {f fa fb : M R} {g : M (List R)} {pos : Pos} {Γ : Gh} {S : Sg} {σ : L2.St} {H : Hp}
theorem dataR_ok {x : R} {v : V} {d : PyData} (F : FrOk c Γ S σ H) (hv : RepR c Γ x v) (h : dataR x S = some d) : Dp c.K H v d := by
  cases x with
  | p y => exact Dp.mono F.s.g (toPy_dp h hv)
  | r n =>
    unfold dataR at h
    simp only at h
    cases q : getLst (.r n) S with
    | none => rw [q] at h; cases h
    | some l =>
      rw [q] at h
      simp only at h
      cases q2 : toPyL l with
      | none => rw [q2] at h; cases h
      | some xs =>
        rw [q2] at h; cases h
        obtain ⟨a, vs, rfl, h1, h2⟩ := getLst_ok F hv q
        exact .lst h1 (DpAll.mono F.s.g (toPyL_dp q2 h2))
theorem od_eqD (hK : X.K = c.K) : OpD c W opEqD (rEqD X.K) := by
  intro Γ S σ H x y v w Q F hx hy P
  unfold opEqD at P
  cases h1 : dataR x S with
  | none => rw [h1] at P; exact P.elim
  | some d =>
    rw [h1] at P
    simp only at P
    cases h2 : dataR y S with
    | none => rw [h2] at P; exact P.elim
    | some e =>
      rw [h2] at P
      simp only at P
      by_cases h : SeqAt.shaped d = true ∧ SeqAt.shaped e = true
      · rw [if_pos h] at P
        exact ⟨d, e, hK ▸ dataR_ok F hx h1, hK ▸ dataR_ok F hy h2, h.1, h.2, Post.ok (c := c) (W := W) P Gh.le.refl F _ RepR.mkB⟩
      · rw [if_neg h] at P; exact P.elim
theorem od_neD (hK : X.K = c.K) : OpD c W opNeD (rNeD X.K) := by
  intro Γ S σ H x y v w Q F hx hy P
  unfold opNeD at P
  cases h1 : dataR x S with
  | none => rw [h1] at P; exact P.elim
  | some d =>
    rw [h1] at P
    simp only at P
    cases h2 : dataR y S with
    | none => rw [h2] at P; exact P.elim
    | some e =>
      rw [h2] at P
      simp only at P
      by_cases h : SeqAt.shaped d = true ∧ SeqAt.shaped e = true
      · rw [if_pos h] at P
        exact ⟨d, e, hK ▸ dataR_ok F hx h1, hK ▸ dataR_ok F hy h2, h.1, h.2, Post.ok (c := c) (W := W) P Gh.le.refl F _ RepR.mkB⟩
      · rw [if_neg h] at P; exact P.elim
/-- an own == (the left one an instance of class k): the def's answer -/
def opEqU (k : Nat) (F : Fn) : R → R → M R := fun x y S => match insOf x S with
  | some (k', _) => if k' = k ∧ ((kindR y S).isSome = true ∨ (insOf y S).map (·.1) = some k) then (match F [x, y] S.st with
    | .ok (.val (.bl b)) st => .ok (.p (.bl b)) { S with st := st }
    | _ => .bad) else .bad
  | none => .bad
def rEqU (X : Cx) (C : Addr) (sp : Sp) : R2 := fun x y H Q => ∃ a dx fs t, x = .ref a ∧ H a = some (.ins C dx fs) ∧ TyX X.K H y t ∧ PySem.W.notFirst X.K C t = true ∧ sp [x, y] H (fun v H' => ∃ b, v = .bl b ∧ Q (.bl b) H') E0
theorem op_eqU {C fA : Addr} {fd : FuncData} {ps : List Str} {sp : Sp} {n : Nat} (F : FnG X.prog X.w X.K X.mg X.base n fA fd ps sp)
    (hs : PySem.W.findIn X.K (.ref C) "__eq__" = some (some (.ref fA))) (hf : PySem.W.isFn X.K (.ref fA) = true) (hb : Binds X.K fd ps []) (hG : X.A.guards = some []) (hr : Room n X.A) : OpR X (compareOp .Eq) (rEqU X C sp) := by
  intro pins s σ H x y v u Q I rx ry hq
  obtain ⟨a, dx, fs, t, rfl, ha, ty, hn, hsp⟩ := hq
  cases rx
  show wpAny (model X.prog X.w) X.A (richCompare .Eq (.ref a) u) (EP X pins σ Q) X.xe s
  obtain ⟨mA, J, _⟩ := ins_get I.hok ha
  obtain ⟨od, J, _⟩ := J.look
  obtain ⟨m, hF⟩ := I.fr
  obtain ⟨Pk, Z, pk, hne⟩ := kit_of I ry ty
  refine PySem.W.cmp_K (op := .Eq) (tb := t) hr.units0 hF I.ok.mod.kin J (Z.ty _ _ I.kIn pk) hn hs hf ?_
  have hl := F.len _ _ _ _ hsp
  have r2 : Vals [V.ref a, y] [Value.ref a, u] := .cons rfl (.cons ry .nil)
  refine wpAny_call (codeAny_mono (F.run X.A X.stack s H ⟨[.ref a, u], []⟩ [.ref a, u] [.ref a, y] _ E0 hG hr I.env0 (by
    have := hb s [.ref a, u] I.kIn (by simpa using hl)
    simpa using this) r2 hsp) fun r s' hq => ?_)
  cases r with
  | error e => exact (passL pins σ H s e s' I hq : X.xe e s')
  | ok fl =>
    cases fl with
    | ret w =>
      obtain ⟨z, H', I', rz, b, ez, ex⟩ := I.after hq
      subst ez
      cases rz
      exact ⟨.bl b, H', I', rfl, ex⟩
    | next => exact False.elim hq
    | brk => exact False.elim hq
    | cont => exact False.elim hq
theorem od_eqU (hK : X.K = c.K) {k n : Nat} {F : Fn} (cf : ClsF c.K (c.cls k)) : OpD c W (opEqU k F) (rEqU X (c.cls k) (spF c 2 F)) := by
  intro Γ S σ H x y v w Q Fo hx hy P
  unfold opEqU at P
  cases hi : insOf x S with
  | none => rw [hi] at P; exact P.elim
  | some kf =>
    obtain ⟨k', fs⟩ := kf
    rw [hi] at P
    simp only at P
    by_cases hk : k' = k ∧ ((kindR y S).isSome = true ∨ (insOf y S).map (·.1) = some k)
    · rw [if_pos hk] at P
      obtain ⟨rfl, hk⟩ := hk
      obtain ⟨a, dx, vs, rfl, h1, h2⟩ := insOf_ok Fo hx hi
      have hty : ∃ t, TyX c.K H w t ∧ PySem.W.notFirst c.K (c.cls k') t = true := by
        rcases hk with hk | hk
        · obtain ⟨t, ht⟩ := Option.isSome_iff_exists.mp hk
          refine ⟨_, kindR_ok Fo hy ht, ?_⟩
          unfold PySem.W.notFirst
          rw [cf.noSub t (kindR_mem ht)]
          simp
        · cases hi2 : insOf y S with
          | none => rw [hi2] at hk; cases hk
          | some q =>
            obtain ⟨k2, fs2⟩ := q
            rw [hi2] at hk
            cases hk
            obtain ⟨a2, dx2, vs2, rfl, g1, g2⟩ := insOf_ok Fo hy hi2
            refine ⟨_, ins_ty cf g1, ?_⟩
            unfold PySem.W.notFirst
            simp
      obtain ⟨t, ty, hn⟩ := hty
      refine ⟨a, dx, vs, t, rfl, h1, hK ▸ ty, hK ▸ hn, [x, y], Γ, S.st, rfl, ⟨.ref a, [w], rfl, hx, w, [], rfl, hy, rfl⟩, Fo.s, ?_⟩
      cases hF : F [x, y] S.st with
      | bad => rw [hF] at P; exact P.elim
      | exc z st => rw [hF] at P; exact P.elim
      | ok r st =>
        rw [hF] at P
        cases r with
        | new o => exact P.elim
        | val d =>
          cases d with
          | bl b =>
            intro Γ' H' v le s q
            exact ⟨b, Rep.bl_iff.mp q, Post.ok (c := c) (W := W) P le (Fo.of le s) _ RepR.mkB⟩
          | _ => exact P.elim
    · rw [if_neg hk] at P; exact P.elim
/-- e is None, e is not None -/
def isN (f : M R) : M R := do
  let x ← f
  fun S => match x with
    | .p .non => .ok (.p (.bl true)) S
    | _ => .ok (.p (.bl false)) S
def notN (f : M R) : M R := do
  let x ← f
  fun S => match x with
    | .p .non => .ok (.p (.bl false)) S
    | _ => .ok (.p (.bl true)) S
theorem non_iff {Γ : Gh} {x : R} {v : V} (h : RepR c Γ x v) : v = .non ↔ x = .p .non := by
  constructor
  · intro e
    subst e
    cases x with
    | r n => obtain ⟨a, _, h2⟩ := h; cases h2
    | p d =>
      cases d with
      | non => rfl
      | bl b => cases RepR.bl h
      | int b => cases RepR.int h
      | str b => cases RepR.str h
      | tup l => obtain ⟨_, _, h, _⟩ := Rep.tup_iff.mp (RepR.pure.mp h); cases h
      | lst l => obtain ⟨_, _, h, _⟩ := Rep.lst_iff.mp (RepR.pure.mp h); cases h
      | scp l => obtain ⟨_, _, h, _⟩ := Rep.scp_iff.mp (RepR.pure.mp h); cases h
      | scr l => obtain ⟨_, _, _, _, h, _⟩ := Rep.scr_iff.mp (RepR.pure.mp h); cases h
      | edct => obtain ⟨_, h, _⟩ := Rep.edct_iff.mp (RepR.pure.mp h); cases h
      | exn _ _ => have h := RepR.pure.mp h; unfold Rep at h; exact h.elim
  · intro e; subst e; exact RepR.non h
theorem isN_read {σ : L2.St} {H : Hp} {Q : VK} (q : rdE c W (isN f) σ H Q) : tIsN (rdE c W f) σ H Q := by
  obtain ⟨Γ, S, F, P⟩ := q
  refine ⟨Γ, S, F, (Post.bind P).imp fun x S1 Γ1 H1 e1 F1 ⟨_, P1⟩ v hv => ?_⟩
  by_cases h : x = .p .non
  · have hv2 := (non_iff hv).mpr h
    subst hv2
    subst h
    exact Post.ok (c := c) (W := W) P1 Gh.le.refl F1 _ RepR.mkB
  · have hv2 : ¬ v = .non := fun e => h ((non_iff hv).mp e)
    dsimp only
    rw [decide_eq_false hv2]
    cases x with
    | r n => exact Post.ok (c := c) (W := W) P1 Gh.le.refl F1 _ RepR.mkB
    | p d =>
      cases d with
      | non => exact (h rfl).elim
      | _ => exact Post.ok (c := c) (W := W) P1 Gh.le.refl F1 _ RepR.mkB
theorem notN_read {σ : L2.St} {H : Hp} {Q : VK} (q : rdE c W (notN f) σ H Q) : tNotN (rdE c W f) σ H Q := by
  obtain ⟨Γ, S, F, P⟩ := q
  refine ⟨Γ, S, F, (Post.bind P).imp fun x S1 Γ1 H1 e1 F1 ⟨_, P1⟩ v hv => ?_⟩
  by_cases h : x = .p .non
  · have hv2 := (non_iff hv).mpr h
    subst hv2
    subst h
    exact Post.ok (c := c) (W := W) P1 Gh.le.refl F1 _ RepR.mkB
  · have hv2 : ¬ v = .non := fun e => h ((non_iff hv).mp e)
    dsimp only
    rw [decide_eq_false hv2]
    cases x with
    | r n => exact Post.ok (c := c) (W := W) P1 Gh.le.refl F1 _ RepR.mkB
    | p d =>
      cases d with
      | non => exact (h rfl).elim
      | _ => exact Post.ok (c := c) (W := W) P1 Gh.le.refl F1 _ RepR.mkB
theorem se_isN {j pos'} (h : PE X a (rdE c W f)) : PE X (.Compare a [.Is] [.Constant .none j pos'] pos) (rdE c W (isN f)) := se_of (pe_cmp (pc_isN h)) fun σ H Q q => isN_read q
theorem se_notN {j pos'} (h : PE X a (rdE c W f)) : PE X (.Compare a [.IsNot] [.Constant .none j pos'] pos) (rdE c W (notN f)) := se_of (pe_cmp (pc_notN h)) fun σ H Q q => notN_read q
theorem st_isN {j pos'} (h : PE X a (rdE c W f)) : PT X (.Compare a [.Is] [.Constant .none j pos'] pos) (rdT c W (tst (isN f))) := st_of (pt_cmp (pc_isN h)) fun σ H Q q => isN_read (tst_read q)
theorem st_notN {j pos'} (h : PE X a (rdE c W f)) : PT X (.Compare a [.IsNot] [.Constant .none j pos'] pos) (rdT c W (tst (notN f))) := st_of (pt_cmp (pc_notN h)) fun σ H Q q => notN_read (tst_read q)
end
end Dd

set_option Elab.async false
set_option linter.all false
set_option maxRecDepth 100000
namespace Dd
open PySem PySem.Spec PyProof.Rows L2

/-! ### built-in functions -/
section
variable {X : Cx} {c : Cg} {W : WX} {a b e : Expr} {f fa fb : M R} {g : M (List R)} {pos : Pos}
/-- one argument -/
def op1 (op : R → M R) : List R → M R := fun xs => match xs with
  | [x] => op x
  | _ => bad
def OneD (c : Cg) (W : WX) (op : R → M R) (r : V → Hp → VK → Prop) : Prop :=
  ∀ (Γ : Gh) (S : Sg) (σ : L2.St) (H : Hp) (x : R) (v : V) (Q : VK), FrOk c Γ S σ H → RepR c Γ x v →
    Post c W σ Γ (op x S) (fun z S' Γ' H' => ∀ u, RepR c Γ' z u → Q u H') → r v H Q
theorem cd_one {op : R → M R} {r : V → Hp → VK → Prop} {rl : List V → Hp → VK → Prop} (h : OneD c W op r) (hl : ∀ v H Q, r v H Q → rl [v] H Q) : CallD c W (op1 op) rl := by
  intro Γ S σ H xs vs Q F hxs P
  cases xs with
  | nil => exact P.elim
  | cons x r =>
    cases r with
    | cons y ys => exact P.elim
    | nil =>
      obtain ⟨v, rfl, hv⟩ := one_arg hxs
      exact hl v H Q (h Γ S σ H x v Q F hv P)
def opLen : R → M R := fun x S => match getL x S with
  | some l => .ok (.p (.int (l.length : Nat))) S
  | none => match x with
    | .p (.str z) => if z.length ≤ sizeLine then .ok (.p (.int (z.length : Nat))) S else .bad
    | _ => .bad
theorem call_lenA : CallR X (.builtin "len") (fun xs H Q => (∃ p ys, xs = [.ref p] ∧ (SqL X.K H p ys ∨ SqT X.K H p ys) ∧ Q (.int ys.length) H) ∨ ∃ z, xs = [.str z] ∧ z.length ≤ sizeLine ∧ Q (.int z.length) H) := CallR.or call_len_seq call_len_str
theorem cd_len (hK : X.K = c.K) : CallD c W (op1 opLen) (fun xs H Q => (∃ p ys, xs = [.ref p] ∧ (SqL X.K H p ys ∨ SqT X.K H p ys) ∧ Q (.int ys.length) H) ∨ ∃ z, xs = [.str z] ∧ z.length ≤ sizeLine ∧ Q (.int z.length) H) :=
  cd_one (r := fun v H Q => (∃ p ys, v = .ref p ∧ (SqL X.K H p ys ∨ SqT X.K H p ys) ∧ Q (.int ys.length) H) ∨ ∃ z, v = .str z ∧ z.length ≤ sizeLine ∧ Q (.int z.length) H) (by
    intro Γ S σ H x v Q F hv P
    unfold opLen at P
    cases hl : getL x S with
    | some l =>
      rw [hl] at P
      obtain ⟨a, vs, rfl, h1, h2⟩ := getL_ok F hv hl
      exact .inl ⟨a, vs, rfl, hK ▸ h1, by rw [h2.length]; exact Post.ok (c := c) (W := W) P Gh.le.refl F _ RepR.mkI⟩
    | none =>
      rw [hl] at P
      cases x with
      | r n => exact P.elim
      | p d =>
        cases d with
        | str z =>
          have P : Post c W σ Γ (if z.length ≤ sizeLine then Res.ok (R.p (.int (z.length : Nat))) S else .bad) (fun z S' Γ' H' => ∀ u, RepR c Γ' z u → Q u H') := P
          by_cases hz : z.length ≤ sizeLine
          · rw [if_pos hz] at P
            exact .inr ⟨z, RepR.str hv, hz, Post.ok (c := c) (W := W) P Gh.le.refl F _ RepR.mkI⟩
          · rw [if_neg hz] at P; exact P.elim
        | _ => exact P.elim) (fun v H Q h => by
    rcases h with ⟨p, ys, rfl, h⟩ | ⟨z, rfl, h⟩
    · exact .inl ⟨p, ys, rfl, h⟩
    · exact .inr ⟨z, rfl, h⟩)
/-- int(x) of an int, of a truth -/
def opInt : R → M R := fun x S => match x with
  | .p (.int i) => .ok (.p (.int i)) S
  | .p (.bl b) => .ok (.p (.int (if b = true then 1 else 0))) S
  | _ => .bad
theorem cd_int : CallD c W (op1 opInt) (fun xs H Q => (∃ i, xs = [.int i] ∧ Q (.int i) H) ∨ ∃ k, xs = [.bl k] ∧ Q (.int (if k then 1 else 0)) H) :=
  cd_one (r := fun v H Q => (∃ i, v = .int i ∧ Q (.int i) H) ∨ ∃ k, v = .bl k ∧ Q (.int (if k = true then 1 else 0)) H) (by
    intro Γ S σ H x v Q F hv P
    cases x with
    | r n => exact P.elim
    | p d =>
      cases d with
      | int i => exact .inl ⟨i, RepR.int hv, Post.ok (c := c) (W := W) P Gh.le.refl F _ RepR.mkI⟩
      | bl k => exact .inr ⟨k, RepR.bl hv, Post.ok (c := c) (W := W) P Gh.le.refl F _ RepR.mkI⟩
      | _ => exact P.elim) (fun v H Q h => by
    rcases h with ⟨i, rfl, h⟩ | ⟨k, rfl, h⟩
    · exact .inl ⟨i, rfl, h⟩
    · exact .inr ⟨k, rfl, h⟩)
def opMax2 : List R → M R := fun xs S => match asI2 xs with
  | some q => .ok (.p (.int (max q.1 q.2))) S
  | none => .bad
def opMin2 : List R → M R := fun xs S => match asI2 xs with
  | some q => .ok (.p (.int (min q.1 q.2))) S
  | none => .bad
theorem cd_max2 : CallD c W opMax2 (fun xs H Q => ∃ i j, xs = [.int i, .int j] ∧ Q (.int (if j > i then j else i)) H) := by
  intro Γ S σ H xs vs Q F hxs P
  unfold opMax2 at P
  cases q : asI2 xs with
  | none => rw [q] at P; exact P.elim
  | some ij =>
    obtain ⟨i, j⟩ := ij
    rw [q] at P
    refine ⟨i, j, ints2 hxs q, ?_⟩
    have e : (if j > i then j else i) = max i j := by rw [Int.max_def]; split <;> split <;> omega
    rw [e]
    exact Post.ok (c := c) (W := W) P Gh.le.refl F _ RepR.mkI
theorem cd_min2 : CallD c W opMin2 (fun xs H Q => ∃ i j, xs = [.int i, .int j] ∧ Q (.int (if j < i then j else i)) H) := by
  intro Γ S σ H xs vs Q F hxs P
  unfold opMin2 at P
  cases q : asI2 xs with
  | none => rw [q] at P; exact P.elim
  | some ij =>
    obtain ⟨i, j⟩ := ij
    rw [q] at P
    refine ⟨i, j, ints2 hxs q, ?_⟩
    have e : (if j < i then j else i) = min i j := by rw [Int.min_def]; split <;> split <;> omega
    rw [e]
    exact Post.ok (c := c) (W := W) P Gh.le.refl F _ RepR.mkI
def opAbs : R → M R := fun x S => match x with
  | .p (.int i) => .ok (.p (.int (if i < 0 then -i else i))) S
  | _ => .bad
theorem cd_abs : CallD c W (op1 opAbs) (fun xs H Q => ∃ i, xs = [.int i] ∧ Q (.int (if i < 0 then -i else i)) H) :=
  cd_one (r := fun v H Q => ∃ i, v = .int i ∧ Q (.int (if i < 0 then -i else i)) H) (by
    intro Γ S σ H x v Q F hv P
    cases x with
    | r n => exact P.elim
    | p d =>
      cases d with
      | int i => exact ⟨i, RepR.int hv, Post.ok (c := c) (W := W) P Gh.le.refl F _ RepR.mkI⟩
      | _ => exact P.elim) (fun v H Q h => by obtain ⟨i, rfl, h⟩ := h; exact ⟨i, rfl, h⟩)
/-- truths -/
def blsOf : List D → Option (List Bool)
  | [] => some []
  | .bl i :: r => match blsOf r with
    | some l => some (i :: l)
    | none => none
  | _ => none
theorem blsOf_some : ∀ {l : List D} {ns : List Bool}, blsOf l = some ns → l = ns.map D.bl
  | [], ns, h => by cases h; rfl
  | d :: r, ns, h => by
    cases d with
    | bl i =>
      unfold blsOf at h
      cases q : blsOf r with
      | none => rw [q] at h; cases h
      | some l => rw [q] at h; cases h; rw [blsOf_some q]; rfl
    | _ => cases h
theorem blsOf_map : ∀ ns : List Bool, blsOf (ns.map D.bl) = some ns
  | [] => rfl
  | i :: ns => by show blsOf (.bl i :: ns.map D.bl) = _; unfold blsOf; rw [blsOf_map ns]
def opAll : R → M R := fun x S => match getLst x S with
  | some l => match blsOf l with
    | some bs => .ok (.p (.bl (bs.all id))) S
    | none => .bad
  | none => .bad
def opSum : R → M R := fun x S => match getLst x S with
  | some l => match intsOf l with
    | some ns => .ok (.p (.int ns.sum)) S
    | none => .bad
  | none => .bad
theorem cd_all (hK : X.K = c.K) : CallD c W (op1 opAll) (rAll X.K) :=
  cd_one (r := fun v H Q => rAll X.K [v] H Q) (by
    intro Γ S σ H x v Q F hv P
    unfold opAll at P
    cases hl : getLst x S with
    | none => rw [hl] at P; exact P.elim
    | some l =>
      rw [hl] at P
      simp only at P
      cases hb : blsOf l with
      | none => rw [hb] at P; exact P.elim
      | some bs =>
        rw [hb] at P
        obtain ⟨a, vs, rfl, h1, h2⟩ := getLst_ok F hv hl
        rw [blsOf_some hb] at h2
        rw [h2.bls] at h1
        exact ⟨a, bs, rfl, hK ▸ h1, Post.ok (c := c) (W := W) P Gh.le.refl F _ RepR.mkB⟩) (fun v H Q h => h)
theorem cd_sum (hK : X.K = c.K) : CallD c W (op1 opSum) (rSum X.K) :=
  cd_one (r := fun v H Q => rSum X.K [v] H Q) (by
    intro Γ S σ H x v Q F hv P
    unfold opSum at P
    cases hl : getLst x S with
    | none => rw [hl] at P; exact P.elim
    | some l =>
      rw [hl] at P
      simp only at P
      cases hb : intsOf l with
      | none => rw [hb] at P; exact P.elim
      | some bs =>
        rw [hb] at P
        obtain ⟨a, vs, rfl, h1, h2⟩ := getLst_ok F hv hl
        rw [intsOf_some hb] at h2
        rw [h2.ints] at h1
        exact ⟨a, bs, rfl, hK ▸ h1, Post.ok (c := c) (W := W) P Gh.le.refl F _ RepR.mkI⟩) (fun v H Q h => h)
/-- list(x): a new list -/
def opList : R → M R := fun x S => match getL x S with
  | some l => .ok (.r S.st.length) { S with st := S.st ++ [.mu (.lst l)] }
  | none => .bad
theorem cd_list (hK : X.K = c.K) : CallD c W (op1 opList) (fun xs H Q => ∃ p ys, xs = [.ref p] ∧ (SqL X.K H p ys ∨ SqT X.K H p ys) ∧ ∀ l, H l = none → Q (.ref l) (upd H l (.lst ys))) :=
  cd_one (r := fun v H Q => ∃ p ys, v = .ref p ∧ (SqL X.K H p ys ∨ SqT X.K H p ys) ∧ ∀ l, H l = none → Q (.ref l) (upd H l (.lst ys))) (by
    intro Γ S σ H x v Q F hv P
    unfold opList at P
    cases hl : getL x S with
    | none => rw [hl] at P; exact P.elim
    | some l =>
      rw [hl] at P
      obtain ⟨a, vs, rfl, h1, h2⟩ := getL_ok F hv hl
      refine ⟨a, vs, rfl, hK ▸ h1, fun p hp => ?_⟩
      obtain ⟨Γ3, e3, F3, r3⟩ := newL_ok F h2 hp
      exact Post.ok (c := c) (W := W) P e3 F3 _ r3) (fun v H Q h => by obtain ⟨p, ys, rfl, h⟩ := h; exact ⟨p, ys, rfl, h⟩)
/-- tuple(x) -/
def opTuple : R → M R := fun x S => match x with
  | .p (.tup l) => .ok (.p (.tup l)) S
  | x => match getLst x S with
    | some l => .ok (.p (.tup l)) S
    | none => .bad
def rTupF (K : PySem.W.Frag) : List V → Hp → VK → Prop := fun xs H Q => ∃ p ys, xs = [.ref p] ∧ ((SqL K H p ys ∧ ∀ l o, H l = none → o.dict = none → Q (.ref l) (upd H l (.frz o (.tup ys)))) ∨ (SqT K H p ys ∧ Q (.ref p) H))
theorem call_tupF : CallR X (.type "tuple") (rTupF X.K) := by
  intro pins s σ H xs us Q I r h
  obtain ⟨p, ys, rfl, h⟩ := h
  obtain ⟨u, rfl, rx⟩ := vals1 r
  cases rx
  rcases h with ⟨hq, q⟩ | ⟨hq, q⟩
  · obtain ⟨its, r', pl, hz⟩ := I.list hq
    have hlen := r'.length
    have hsl := sizeLine_eq
    refine call_tuple_list pl.isList (fun h' kp => ?_) (by simp only [List.size_toArray] <;> omega)
    have I1 : L2.Inv X pins σ H { s with heap := h' } := I.kept (t' := s.toks) kp
    have I2 : L2.Inv X pins σ (upd H h'.objs.size (.frz { cls := .type "tuple", data := .seq its.toArray } (.tup ys))) { s with heap := h'.push { cls := .type "tuple", data := .seq its.toArray } } :=
      I1.laid (t' := s.toks) (fun b o e => Heap.get?_push_of_some _ e) (Nat.le_refl _) ⟨Heap.get?_push_size _ rfl, hz, its, r', IsTup.new _ _⟩
    exact ⟨.ref h'.objs.size, _, I2, rfl, q _ _ (I1.hok.fresh (Nat.le_refl _)) rfl⟩
  · obtain ⟨its, r', pl, hz⟩ := I.tuple hq
    exact call_tuple_same pl ⟨.ref p, H, I, rfl, q⟩
theorem cd_tuple (hK : X.K = c.K) : CallD c W (op1 opTuple) (rTupF X.K) :=
  cd_one (r := fun v H Q => rTupF X.K [v] H Q) (by
    intro Γ S σ H x v Q F hv P
    have lst : ∀ y : R, RepR c Γ y v → Post c W σ Γ (match getLst y S with | some l => Res.ok (R.p (.tup l)) S | none => .bad) (fun z S' Γ' H' => ∀ u, RepR c Γ' z u → Q u H') → rTupF X.K [v] H Q := fun y hv P => by
      cases hl : getLst y S with
      | none => rw [hl] at P; exact P.elim
      | some l =>
        rw [hl] at P
        obtain ⟨a, vs, rfl, h1, h2⟩ := getLst_ok F hv hl
        refine ⟨a, vs, rfl, .inl ⟨hK ▸ h1, fun p o hp ho => ?_⟩⟩
        obtain ⟨Γ3, e3, F3, r3⟩ := newT_ok F h2 hp ho
        exact Post.ok (c := c) (W := W) P e3 F3 _ r3
    cases x with
    | r n => exact lst _ hv P
    | p d =>
      cases d with
      | tup l =>
        obtain ⟨a, vs, rfl, h1, h2⟩ := Rep.tup_iff.mp (RepR.pure.mp hv)
        exact ⟨a, vs, rfl, .inr ⟨hK ▸ (TupS.mono F.s.g h1).sq, Post.ok (c := c) (W := W) P Gh.le.refl F _ hv⟩⟩
      | lst l => exact lst _ hv P
      | scp l => exact lst _ hv P
      | _ => exact P.elim) (fun v H Q h => h)
/-- repr of data -/
def opRepr : R → M R := fun x S => match dataR x S with
  | some d => match d with
    | .int i => if i.natAbs.log2 < 1920 then .ok (.p (.str (toString i))) S else .bad
    | .list xs => if (PyData.list xs).showable = true ∧ (PyData.list xs).hasDict = false ∧ (PyData.list xs).depth ≤ 64 ∧ (PyData.list xs).shown.length ≤ sizeLine then .ok (.p (.str (PyData.list xs).shown)) S else .bad
    | .tuple xs => if (PyData.tuple xs).showable = true ∧ (PyData.tuple xs).hasDict = false ∧ (PyData.tuple xs).depth ≤ 64 ∧ (PyData.tuple xs).shown.length ≤ sizeLine then .ok (.p (.str (PyData.tuple xs).shown)) S else .bad
    | .bool b => .ok (.p (.str (if b = true then "True" else "False"))) S
    | .none => .ok (.p (.str "None")) S
    | _ => .bad
  | none => .bad
/-- what is asked of data that is shown -/
def ShowOk (d : PyData) : Prop := d.showable = true ∧ d.hasDict = false ∧ d.depth ≤ 64 ∧ d.shown.length ≤ sizeLine
def rReprD (K : PySem.W.Frag) : List V → Hp → VK → Prop := fun xs H Q => ∃ v d, xs = [v] ∧ Dp K H v d ∧ match d with
  | .int i => i.natAbs.log2 < 1920 ∧ Q (.str (toString i)) H
  | .list ys => ShowOk (.list ys) ∧ Q (.str (PyData.list ys).shown) H
  | .tuple ys => ShowOk (.tuple ys) ∧ Q (.str (PyData.tuple ys).shown) H
  | .bool b => Q (.str (if b = true then "True" else "False")) H
  | .none => Q (.str "None") H
  | _ => False
theorem call_reprD (hG : X.A.guards = some []) (hu : X.A.units + 66 < cLine) : CallR X (.builtin "repr") (rReprD X.K) := by
  intro pins s σ H xs us Q I r h
  obtain ⟨v, d, rfl, hd, q⟩ := h
  obtain ⟨u, rfl, rv⟩ := vals1 r
  have big : ∀ a, u = .ref a → d.showable = true ∧ d.hasDict = false ∧ d.depth ≤ 64 ∧ d.shown.length ≤ sizeLine → Q (.str d.shown) H → wpAny (model X.prog X.w) X.A (call (.builtin "repr") [u]) (EP X pins σ Q) X.xe s := fun a ea hs q => by
    obtain ⟨h1, h2, h3, h4⟩ := hs
    obtain ⟨as, rd⟩ := Dp.reads I d v u hd rv
    subst ea
    refine repr_of_reads' rd h1 (PyData.noDict_hsm h2) hG (by omega) (fun _ _ e => e) (fun h' u tk kp => ?_) h4
    exact ⟨.str _, H, I.kept (t' := tk) kp, ⟨_, rfl⟩, q⟩
  cases d with
  | int i =>
    cases hd
    obtain ⟨t, rfl⟩ := rv
    exact PySem.P.repr_of_int q.1 ⟨.str _, H, I.tok _, ⟨_, rfl⟩, q.2⟩
  | list ys => cases hd; cases rv; exact big _ rfl q.1 q.2
  | tuple ys => cases hd; cases rv; exact big _ rfl q.1 q.2
  | bool b =>
    cases hd; cases rv
    exact PySem.P.repr_of_bool ⟨.str _, H, I.tok _, ⟨_, rfl⟩, q⟩
  | none =>
    cases hd; cases rv
    exact PySem.P.repr_of_none ⟨.str _, H, I.tok _, ⟨_, rfl⟩, q⟩
  | str z => exact q.elim
  | dict z => exact q.elim
theorem cd_repr (hK : X.K = c.K) : CallD c W (op1 opRepr) (rReprD X.K) :=
  cd_one (r := fun v H Q => rReprD X.K [v] H Q) (by
    intro Γ S σ H x v Q F hv P
    unfold opRepr at P
    cases hd : dataR x S with
    | none => rw [hd] at P; exact P.elim
    | some d =>
      rw [hd] at P
      have hp := hK ▸ dataR_ok F hv hd
      refine ⟨v, d, rfl, hp, ?_⟩
      have fin : ∀ z : Str, Post c W σ Γ (Res.ok (R.p (.str z)) S) (fun z S' Γ' H' => ∀ u, RepR c Γ' z u → Q u H') → Q (.str z) H := fun z P => Post.ok (c := c) (W := W) P Gh.le.refl F _ RepR.mkS
      cases d with
      | int i =>
        have P : Post c W σ Γ (if i.natAbs.log2 < 1920 then Res.ok (R.p (.str (toString i))) S else .bad) (fun z S' Γ' H' => ∀ u, RepR c Γ' z u → Q u H') := P
        by_cases h : i.natAbs.log2 < 1920
        · rw [if_pos h] at P; exact ⟨h, fin _ P⟩
        · rw [if_neg h] at P; exact P.elim
      | list ys =>
        dsimp only at P
        split at P
        · rename_i h; exact ⟨h, fin _ P⟩
        · exact P.elim
      | tuple ys =>
        dsimp only at P
        split at P
        · rename_i h; exact ⟨h, fin _ P⟩
        · exact P.elim
      | bool b => exact fin _ P
      | none => exact fin _ P
      | str z => exact P.elim
      | dict z => exact P.elim) (fun v H Q h => h)
end
end Dd

set_option Elab.async false
set_option linter.all false
set_option maxRecDepth 100000
namespace Dd
open PySem PySem.Spec PyProof.Rows L2

/-! ### sorted of a list or a tuple of ints -/
theorem sorted_seqI {prog : Program} {w : World} {A : Around} {E : Value → Shared → Prop} {s : Shared} {l : Addr} {T : String} {o : Obj} {vs : List Value} {ns : List Int} {n : Nat} {Q : Value → Shared → Prop} (hT : T = "list" ∨ T = "tuple")
    (ho : s.heap.get? l = some o) (hc : o.cls = .type T) (hd : o.data = .seq vs.toArray n) (hI : IntsAre vs ns) (hz : vs.length ≤ sizeLine)
    (h : ∀ (h1 h' : Heap) (out : List Value) (ns' : List Int) (e : Nat), IntsAre out ns' → ns'.Perm ns → ns'.Pairwise (· ≤ ·) → (∀ b q, s.heap.get? b = some q → h1.get? b = some q) → (∀ b q, h1.get? b = some q → h'.get? b = some q) → h'.get? h1.objs.size = some (seqObj "list" out.toArray e) → Q (.ref h1.objs.size) { s with heap := h' }) :
    wpAny (model prog w) A (call (.builtin "sorted") [.ref l]) Q E s := by
  refine Calls.call_function_entry kind_sorted plain_sorted entry_sorted (args_sorted1 _) ?_
  unfold Builtin.«sorted»
  refine wpAny_bind (m := checkCount "sorted" 1 1 _) (wpAny_pure ?_)
  refine wpAny_bind (wpAny_collect_seq l hT ho hc hd (fun h1 k1 => ?_) (by rw [List.size_toArray]; exact hz))
  show wpAny _ _ _ _ _ _
  refine wpAny_bind (wpAny_newList (items := vs) ?_ hz)
  have hoL : (h1.push (seqObj "list" vs.toArray 0)).get? h1.objs.size = some (seqObj "list" vs.toArray 0) := Heap.get?_push_size _ rfl
  have keep : ∀ b q, h1.get? b = some q → b ≠ h1.objs.size ∧ (h1.push (seqObj "list" vs.toArray 0)).get? b = some q := fun b q e =>
    ⟨Nat.ne_of_lt (Heap.lt_size e), Heap.get?_push_of_some _ e⟩
  refine wpAny_bind (wpAny_holding (wpAny_call_entry slot_list_sort ⟨_, hoL, rfl⟩ entry_list_sort (SrtO.list_sort_ord SrtO.swo_int hoL hz (fun h2 => SrtO.ints_sortable hI h2) fun out hs hb => ⟨_, rfl, ?_⟩) (args_list_sort _)))
  obtain ⟨q1, q2, q3⟩ := SrtO.ints_out hI hs hb
  obtain ⟨e, he⟩ := sortedHeap_at (out := out.toArray) hoL
  refine wpAny_pure ⟨_, rfl, h h1 _ out _ e q1 q2 q3 k1 (fun b q eb => ?_) he⟩
  obtain ⟨n1, n2⟩ := keep b q eb
  rw [sortedHeap_old n1 (Heap.lt_size n2)]
  exact n2
def sortI (ns : List Int) : List Int := ns.mergeSort (fun a b => decide (a ≤ b))
theorem sortI_eq {ns ns' : List Int} (h1 : ns'.Perm ns) (h2 : ns'.Pairwise (· ≤ ·)) : ns' = sortI ns := by
  have p : (sortI ns).Perm ns := List.mergeSort_perm ns _
  have q : (sortI ns).Pairwise (· ≤ ·) := (List.pairwise_mergeSort (le := fun a b : Int => decide (a ≤ b)) (fun a b c h1 h2 => by simp at *; omega) (fun a b => by simp; omega) ns).imp fun h => by simpa using h
  exact (h1.trans p.symm).eq_of_pairwise (fun a b _ _ h1 h2 => by omega) h2 q
def opSort : R → M R := fun x S => match getL x S with
  | some l => match intsOf l with
    | some ns => .ok (.r S.st.length) { S with st := S.st ++ [.mu (.lst ((sortI ns).map .int))] }
    | none => .bad
  | none => .bad
section
variable {X : Cx} {c : Cg} {W : WX}
def rSortA (K : PySem.W.Frag) : List V → Hp → VK → Prop := fun xs H Q => ∃ a ns, xs = [.ref a] ∧ (SqL K H a (ns.map V.int) ∨ SqT K H a (ns.map V.int)) ∧ ∀ p, H p = none → Q (.ref p) (upd H p (.lst ((sortI ns).map V.int)))
theorem call_sortA : CallR X (.builtin "sorted") (rSortA X.K) := by
  intro pins s σ H xs us Q I r h
  obtain ⟨a, ns, rfl, hs, q⟩ := h
  obtain ⟨u, rfl, rx⟩ := vals1 r
  cases rx
  have all : ∀ (T : String) (its : List Value) (o : Obj) (n : Nat), T = "list" ∨ T = "tuple" → s.heap.get? a = some o → o.cls = .type T → o.data = .seq its.toArray n → Vals (ns.map V.int) its → (ns.map V.int).length ≤ sizeLine →
      wpAny (model X.prog X.w) X.A (call (.builtin "sorted") [.ref a]) (EP X pins σ Q) X.xe s := fun T its o n hT ho hc hd rv hz => by
    refine sorted_seqI hT ho hc hd rv.ints (by rw [← rv.length]; exact hz) fun h1 h' out ns' e q1 q2 q3 k1 k2 ho => ?_
    rw [List.length_map] at hz
    have I1 : L2.Inv X pins σ H { s with heap := h1 } := I.kept (t' := s.toks) k1
    have e' := sortI_eq q2 q3
    subst e'
    exact ⟨.ref h1.objs.size, upd H h1.objs.size (.lst ((sortI ns).map V.int)), I1.laid (t' := s.toks) k2 (Nat.le_refl _) ⟨by rw [List.length_map, q2.length_eq]; exact hz, out, e, vals_of_ints q1, ho⟩, rfl, q _ (I1.hok.fresh (Nat.le_refl _))⟩
  rcases hs with hs | hs
  · obtain ⟨its, rv, pl, hz⟩ := I.list hs
    obtain ⟨o, ho, hc, n, hd⟩ := pl.isList
    exact all _ its o n (.inl rfl) ho hc hd rv hz
  · obtain ⟨its, rv, pl, hz⟩ := I.tuple hs
    obtain ⟨o, ho, hc, n, hd⟩ := pl
    exact all _ its o n (.inr rfl) ho hc hd rv hz
theorem cd_sort (hK : X.K = c.K) : CallD c W (op1 opSort) (rSortA X.K) :=
  cd_one (r := fun v H Q => rSortA X.K [v] H Q) (by
    intro Γ S σ H x v Q F hv P
    unfold opSort at P
    cases hl : getL x S with
    | none => rw [hl] at P; exact P.elim
    | some l =>
      rw [hl] at P
      simp only at P
      cases hb : intsOf l with
      | none => rw [hb] at P; exact P.elim
      | some ns =>
        rw [hb] at P
        obtain ⟨a, vs, rfl, h1, h2⟩ := getL_ok F hv hl
        rw [intsOf_some hb] at h2
        rw [h2.ints] at h1
        refine ⟨a, ns, rfl, hK ▸ h1, fun p hp => ?_⟩
        have h3 : RepL c Γ.G ((sortI ns).map D.int) ((sortI ns).map V.int) := RepL.of_ints _
        obtain ⟨Γ3, e3, F3, r3⟩ := newL_ok F h3 hp
        exact Post.ok (c := c) (W := W) P e3 F3 _ r3) (fun v H Q h => h)
end
end Dd

set_option Elab.async false
set_option linter.all false
set_option maxRecDepth 100000
namespace Dd
open PySem PySem.Spec PyProof.Rows L2

/-! ### the rules in short -/
theorem FnG.mono {P : Program} {w : World} {K : PySem.W.Frag} {mg : Str → Option Value} {base : Heap} {j k : Nat} {f : Addr} {fd : FuncData} {ps : List Str} {sp : Sp} (F : FnG P w K mg base j f fd ps sp) (h : j ≤ k) : FnG P w K mg base k f fd ps sp :=
  ⟨F.len, fun A outer s H args us vs Q E hG hr => F.run A outer s H args us vs Q E hG (hr.mono h)⟩
def opSub : R → R → M R := opI0 fun i j => .int (i - j)
def opDiv : R → R → M R := opI CDivW fun i j => .int (i / j)
def opMod : R → R → M R := opI (fun _ j => 0 < j) fun i j => .int (i % j)
/-- a power of at most 2 ^ 27 bits -/
def CPowW (i j : Int) : Prop := 0 ≤ j ∧ (Builtin.Int.intBits i : Int) * j ≤ 2 ^ 27
instance (i j : Int) : Decidable (CPowW i j) := inferInstanceAs (Decidable (_ ∧ _))
theorem op_powW {X : Cx} : OpR X (binaryOp .Pow) (rI CPowW fun i j => .int (i ^ j.toNat)) := L2.opI fun _ _ _ _ _ _ _ hc q => pow_int hc.1 hc.2 q
def opPow : R → R → M R := opI CPowW fun i j => .int (i ^ j.toNat)
def opShl : R → R → M R := opI CShl fun i j => .int (i * 2 ^ j.toNat)
def opShr : R → R → M R := opI (fun _ j => 0 ≤ j) fun i j => .int (i / 2 ^ j.toNat)
def opBand : R → R → M R := opI0 fun i j => .int (Builtin.bitAnd i j)
def opLt : R → R → M R := opI0 fun i j => .bl (decide (i < j))
def opLe : R → R → M R := opI0 fun i j => .bl (decide (i ≤ j))
def opGt : R → R → M R := opI0 fun i j => .bl (decide (j < i))
def opGe : R → R → M R := opI0 fun i j => .bl (decide (j ≤ i))
def un1 (g : Int → D) (f : M R) : M R := do
  let x ← f
  fun S => match x with
    | .p (.int i) => .ok (.p (g i)) S
    | _ => .bad
def uNeg : M R → M R := un1 fun i => .int (-i)
section
variable {X : Cx} {c : Cg} {W : WX} {a b e o : Expr} {es : List Expr} {f fa fb fc : M R} {g : M (List R)} {p pos apos : Pos}
theorem repI {G : Hp} {i : Int} : Rep c G (.int i) (.int i) := Rep.int_iff.mpr rfl
theorem repB {G : Hp} {i : Bool} : Rep c G (.bl i) (.bl i) := Rep.bl_iff.mpr rfl
theorem hu64 {k : Nat} {A : Around} (hr : Room k A) : A.units + 64 < cLine := by have := hr.un; omega
theorem hu66 {k : Nat} {A : Around} (hr : Room k A) : A.units + 66 < cLine := by have := hr.un; omega
theorem e_neg (h : PE X a (rdE c W f)) : PE X (.UnaryOp .USub a pos) (rdE c W (uNeg f)) := se_of (pe_un un_neg h) fun σ H Q q => by
  obtain ⟨Γ, S, F, P⟩ := q
  refine ⟨Γ, S, F, (Post.bind P).imp fun x S1 Γ1 H1 e1 F1 ⟨_, P1⟩ v hv => ?_⟩
  cases x with
  | r n => exact P1.elim
  | p d =>
    cases d with
    | int i =>
      have := RepR.int hv
      subst this
      exact ⟨i, rfl, Post.ok (c := c) (W := W) P1 Gh.le.refl F1 _ RepR.mkI⟩
    | _ => exact P1.elim
theorem v_ (i : Nat) {x : Str} (hN : X.N[i]? = some x := by rfl) (hv : Vis X.env.scope x := by first | exact Or.inl rfl | exact Or.inr (Or.inl rfl) | exact Or.inr (Or.inr rfl)) (hd : (x == ("__debug__" : Str)) = false := by decide)
    (hcd : (x == ("__classdict__" : Str)) = false := by decide) : PE X (.Name x pos) (rdE c W (vr i)) := se_var (pv i hN hv hd hcd)
theorem e_add (ha : PE X a (rdE c W fa)) (hb : PE X b (rdE c W fb)) : PE X (.BinOp a .Add b pos) (rdE c W (bin opAdd fa fb)) := se_bin op_addA od_add ha hb
theorem e_sub (ha : PE X a (rdE c W fa)) (hb : PE X b (rdE c W fb)) : PE X (.BinOp a .Sub b pos) (rdE c W (bin opSub fa fb)) := se_bin op_sub (od_I0 fun _ _ _ => repI) ha hb
theorem e_mul (ha : PE X a (rdE c W fa)) (hb : PE X b (rdE c W fb)) : PE X (.BinOp a .Mult b pos) (rdE c W (bin opMul fa fb)) := se_bin op_mulA od_mul ha hb
theorem e_div (ha : PE X a (rdE c W fa)) (hb : PE X b (rdE c W fb)) : PE X (.BinOp a .FloorDiv b pos) (rdE c W (bin opDiv fa fb)) := se_bin op_fdivW (od_I fun _ _ _ => repI) ha hb
theorem e_mod (ha : PE X a (rdE c W fa)) (hb : PE X b (rdE c W fb)) : PE X (.BinOp a .Mod b pos) (rdE c W (bin opMod fa fb)) := se_bin op_mod (od_I fun _ _ _ => repI) ha hb
theorem e_pow (ha : PE X a (rdE c W fa)) (hb : PE X b (rdE c W fb)) : PE X (.BinOp a .Pow b pos) (rdE c W (bin opPow fa fb)) := se_bin op_powW (od_I fun _ _ _ => repI) ha hb
theorem e_shl (ha : PE X a (rdE c W fa)) (hb : PE X b (rdE c W fb)) : PE X (.BinOp a .LShift b pos) (rdE c W (bin opShl fa fb)) := se_bin op_shlW (od_I fun _ _ _ => repI) ha hb
theorem e_shr (ha : PE X a (rdE c W fa)) (hb : PE X b (rdE c W fb)) : PE X (.BinOp a .RShift b pos) (rdE c W (bin opShr fa fb)) := se_bin op_shr (od_I fun _ _ _ => repI) ha hb
theorem e_band (ha : PE X a (rdE c W fa)) (hb : PE X b (rdE c W fb)) : PE X (.BinOp a .BitAnd b pos) (rdE c W (bin opBand fa fb)) := se_bin op_and (od_I0 fun _ _ _ => repI) ha hb
theorem e_lt (ha : PE X a (rdE c W fa)) (hb : PE X b (rdE c W fb)) (hm : behindInMarks .Lt b = false := by rfl) : PE X (.Compare a [.Lt] [b] pos) (rdE c W (bin opLt fa fb)) := se_cmp op_lt (od_I0 fun _ _ _ => repB) ha hb hm
theorem e_le (ha : PE X a (rdE c W fa)) (hb : PE X b (rdE c W fb)) (hm : behindInMarks .LtE b = false := by rfl) : PE X (.Compare a [.LtE] [b] pos) (rdE c W (bin opLe fa fb)) := se_cmp op_le (od_I0 fun _ _ _ => repB) ha hb hm
theorem e_gt (ha : PE X a (rdE c W fa)) (hb : PE X b (rdE c W fb)) (hm : behindInMarks .Gt b = false := by rfl) : PE X (.Compare a [.Gt] [b] pos) (rdE c W (bin opGt fa fb)) := se_cmp op_gt (od_I0 fun _ _ _ => repB) ha hb hm
theorem e_ge (ha : PE X a (rdE c W fa)) (hb : PE X b (rdE c W fb)) (hm : behindInMarks .GtE b = false := by rfl) : PE X (.Compare a [.GtE] [b] pos) (rdE c W (bin opGe fa fb)) := se_cmp op_ge (od_I0 fun _ _ _ => repB) ha hb hm
theorem t_lt (ha : PE X a (rdE c W fa)) (hb : PE X b (rdE c W fb)) (hm : behindInMarks .Lt b = false := by rfl) : PT X (.Compare a [.Lt] [b] pos) (rdT c W (tst (bin opLt fa fb))) := st_cmp op_lt (od_I0 fun _ _ _ => repB) ha hb hm
theorem t_le (ha : PE X a (rdE c W fa)) (hb : PE X b (rdE c W fb)) (hm : behindInMarks .LtE b = false := by rfl) : PT X (.Compare a [.LtE] [b] pos) (rdT c W (tst (bin opLe fa fb))) := st_cmp op_le (od_I0 fun _ _ _ => repB) ha hb hm
theorem t_gt (ha : PE X a (rdE c W fa)) (hb : PE X b (rdE c W fb)) (hm : behindInMarks .Gt b = false := by rfl) : PT X (.Compare a [.Gt] [b] pos) (rdT c W (tst (bin opGt fa fb))) := st_cmp op_gt (od_I0 fun _ _ _ => repB) ha hb hm
theorem t_ge (ha : PE X a (rdE c W fa)) (hb : PE X b (rdE c W fb)) (hm : behindInMarks .GtE b = false := by rfl) : PT X (.Compare a [.GtE] [b] pos) (rdT c W (tst (bin opGe fa fb))) := st_cmp op_ge (od_I0 fun _ _ _ => repB) ha hb hm
theorem e_eq {k : Nat} (hr : Room k X.A) (hK : X.K = c.K) (ha : PE X a (rdE c W fa)) (hb : PE X b (rdE c W fb)) (hm : behindInMarks .Eq b = false := by rfl) : PE X (.Compare a [.Eq] [b] pos) (rdE c W (bin opEqD fa fb)) := se_cmp (op_eqD (hu64 hr)) (od_eqD hK) ha hb hm
theorem e_ne {k : Nat} (hr : Room k X.A) (hK : X.K = c.K) (ha : PE X a (rdE c W fa)) (hb : PE X b (rdE c W fb)) (hm : behindInMarks .NotEq b = false := by rfl) : PE X (.Compare a [.NotEq] [b] pos) (rdE c W (bin opNeD fa fb)) := se_cmp (op_neD (hu64 hr)) (od_neD hK) ha hb hm
theorem t_eq {k : Nat} (hr : Room k X.A) (hK : X.K = c.K) (ha : PE X a (rdE c W fa)) (hb : PE X b (rdE c W fb)) (hm : behindInMarks .Eq b = false := by rfl) : PT X (.Compare a [.Eq] [b] pos) (rdT c W (tst (bin opEqD fa fb))) := st_cmp (op_eqD (hu64 hr)) (od_eqD hK) ha hb hm
theorem t_ne {k : Nat} (hr : Room k X.A) (hK : X.K = c.K) (ha : PE X a (rdE c W fa)) (hb : PE X b (rdE c W fb)) (hm : behindInMarks .NotEq b = false := by rfl) : PT X (.Compare a [.NotEq] [b] pos) (rdT c W (tst (bin opNeD fa fb))) := st_cmp (op_neD (hu64 hr)) (od_neD hK) ha hb hm
theorem type_app : typeOf (.builtin "list.append") = pure (.type "method_descriptor") := by show builtinType _ = _; rw [builtinType_eq_fast]; kernel_rfl
theorem type_pop : typeOf (.builtin "list.pop") = pure (.type "method_descriptor") := by show builtinType _ = _; rw [builtinType_eq_fast]; kernel_rfl
theorem type_tidx : typeOf (.builtin "tuple.index") = pure (.type "method_descriptor") := by show builtinType _ = _; rw [builtinType_eq_fast]; kernel_rfl
end
end Dd

set_option Elab.async false
set_option linter.all false
set_option maxRecDepth 100000
namespace Dd
open PySem PySem.Spec PyProof.Rows L2
section
variable {X : Cx} {c : Cg} {W : WX} {a b e o : Expr} {es : List Expr} {f fa fb fc : M R} {g : M (List R)} {p pos apos : Pos} {k : Nat}
theorem e_len (hK : X.K = c.K) (hm : X.mg "len" = none) (ha : PE X a (rdE c W f)) (hg : Gl X "len" := by rfl) (he : starEach [a] X.env = (false, eval a X.env) :: starEach [] X.env := by rfl) (hpl : (backTo pos (starEach [] X.env)).any (·.1) = false := by rfl) :
    PE X (.Call (.Name "len" p) [a] [] pos) (rdE c W (opA (op1 opLen) (aC f aN))) := se_callB call_lenA (cd_len hK) hg hm (by decide +kernel) (sa_cons ha sa_nil he) (by decide) (by decide) he hpl
theorem e_int (hm : X.mg "int" = none) (ha : PE X a (rdE c W f)) (hg : Gl X "int" := by rfl) (he : starEach [a] X.env = (false, eval a X.env) :: starEach [] X.env := by rfl) (hpl : (backTo pos (starEach [] X.env)).any (·.1) = false := by rfl) :
    PE X (.Call (.Name "int" p) [a] [] pos) (rdE c W (opA (op1 opInt) (aC f aN))) := se_callTy call_int1 cd_int hg hm (by decide +kernel) (sa_cons ha sa_nil he) (by decide) (by decide) he hpl
theorem e_abs (hm : X.mg "abs" = none) (ha : PE X a (rdE c W f)) (hg : Gl X "abs" := by rfl) (he : starEach [a] X.env = (false, eval a X.env) :: starEach [] X.env := by rfl) (hpl : (backTo pos (starEach [] X.env)).any (·.1) = false := by rfl) :
    PE X (.Call (.Name "abs" p) [a] [] pos) (rdE c W (opA (op1 opAbs) (aC f aN))) := se_callB call_abs cd_abs hg hm (by decide +kernel) (sa_cons ha sa_nil he) (by decide) (by decide) he hpl
theorem e_all (hK : X.K = c.K) (hc : X.calm = true) (hm : X.mg "all" = none) (ha : PE X a (rdE c W f)) (hg : Gl X "all" := by rfl) (he : starEach [a] X.env = (false, eval a X.env) :: starEach [] X.env := by rfl) (hpl : (backTo pos (starEach [] X.env)).any (·.1) = false := by rfl) :
    PE X (.Call (.Name "all" p) [a] [] pos) (rdE c W (opA (op1 opAll) (aC f aN))) := se_callB (cr_all hc) (cd_all hK) hg hm (by decide +kernel) (sa_cons ha sa_nil he) (by decide) (by decide) he hpl
theorem e_sum (hK : X.K = c.K) (hc : X.calm = true) (hm : X.mg "sum" = none) (ha : PE X a (rdE c W f)) (hg : Gl X "sum" := by rfl) (he : starEach [a] X.env = (false, eval a X.env) :: starEach [] X.env := by rfl) (hpl : (backTo pos (starEach [] X.env)).any (·.1) = false := by rfl) :
    PE X (.Call (.Name "sum" p) [a] [] pos) (rdE c W (opA (op1 opSum) (aC f aN))) := se_callB (cr_sum hc) (cd_sum hK) hg hm (by decide +kernel) (sa_cons ha sa_nil he) (by decide) (by decide) he hpl
theorem e_list (hK : X.K = c.K) (hc : X.calm = true) (hm : X.mg "list" = none) (ha : PE X a (rdE c W f)) (hg : Gl X "list" := by rfl) (he : starEach [a] X.env = (false, eval a X.env) :: starEach [] X.env := by rfl) (hpl : (backTo pos (starEach [] X.env)).any (·.1) = false := by rfl) :
    PE X (.Call (.Name "list" p) [a] [] pos) (rdE c W (opA (op1 opList) (aC f aN))) := se_callTy call_list_of (cd_list hK) hg hm (by decide +kernel) (sa_cons ha sa_nil he) (by decide) (by decide) he hpl
theorem e_tuple (hK : X.K = c.K) (hm : X.mg "tuple" = none) (ha : PE X a (rdE c W f)) (hg : Gl X "tuple" := by rfl) (he : starEach [a] X.env = (false, eval a X.env) :: starEach [] X.env := by rfl) (hpl : (backTo pos (starEach [] X.env)).any (·.1) = false := by rfl) :
    PE X (.Call (.Name "tuple" p) [a] [] pos) (rdE c W (opA (op1 opTuple) (aC f aN))) := se_callTy call_tupF (cd_tuple hK) hg hm (by decide +kernel) (sa_cons ha sa_nil he) (by decide) (by decide) he hpl
theorem e_sorted (hK : X.K = c.K) (hm : X.mg "sorted" = none) (ha : PE X a (rdE c W f)) (hg : Gl X "sorted" := by rfl) (he : starEach [a] X.env = (false, eval a X.env) :: starEach [] X.env := by rfl) (hpl : (backTo pos (starEach [] X.env)).any (·.1) = false := by rfl) :
    PE X (.Call (.Name "sorted" p) [a] [] pos) (rdE c W (opA (op1 opSort) (aC f aN))) := se_callB call_sortA (cd_sort hK) hg hm (by decide +kernel) (sa_cons ha sa_nil he) (by decide) (by decide) he hpl
theorem e_repr (hK : X.K = c.K) (hG : X.A.guards = some []) (hr : Room k X.A) (hm : X.mg "repr" = none) (ha : PE X a (rdE c W f)) (hg : Gl X "repr" := by rfl) (he : starEach [a] X.env = (false, eval a X.env) :: starEach [] X.env := by rfl) (hpl : (backTo pos (starEach [] X.env)).any (·.1) = false := by rfl) :
    PE X (.Call (.Name "repr" p) [a] [] pos) (rdE c W (opA (op1 opRepr) (aC f aN))) := se_callB (call_reprD hG (hu66 hr)) (cd_repr hK) hg hm (by decide +kernel) (sa_cons ha sa_nil he) (by decide) (by decide) he hpl
theorem e_max2 (hc : X.calm = true) (hm : X.mg "max" = none) (ha : PE X a (rdE c W fa)) (hb : PE X b (rdE c W fb)) (hg : Gl X "max" := by rfl) (he : starEach [a, b] X.env = (false, eval a X.env) :: starEach [b] X.env := by rfl) (he2 : starEach [b] X.env = (false, eval b X.env) :: starEach [] X.env := by rfl) (hpl : (backTo pos (starEach [b] X.env)).any (·.1) = false := by rfl) :
    PE X (.Call (.Name "max" p) [a, b] [] pos) (rdE c W (opA opMax2 (aC fa (aC fb aN)))) := se_callB (call_max2 hc) cd_max2 hg hm (by decide +kernel) (sa_cons ha (sa_cons hb sa_nil he2) he) (by decide) (by decide) he hpl
theorem e_min2 (hc : X.calm = true) (hm : X.mg "min" = none) (ha : PE X a (rdE c W fa)) (hb : PE X b (rdE c W fb)) (hg : Gl X "min" := by rfl) (he : starEach [a, b] X.env = (false, eval a X.env) :: starEach [b] X.env := by rfl) (he2 : starEach [b] X.env = (false, eval b X.env) :: starEach [] X.env := by rfl) (hpl : (backTo pos (starEach [b] X.env)).any (·.1) = false := by rfl) :
    PE X (.Call (.Name "min" p) [a, b] [] pos) (rdE c W (opA opMin2 (aC fa (aC fb aN)))) := se_callB (call_min2 hc) cd_min2 hg hm (by decide +kernel) (sa_cons ha (sa_cons hb sa_nil he2) he) (by decide) (by decide) he hpl
theorem e_app {cpos : Pos} (hK : X.K = c.K) (ho : PE X o (rdE c W f)) (ha : PE X a (rdE c W fa)) (hbase : attributeBase o "append" X.env (eval o X.env) = eval o X.env := by rfl)
    (hfew : ((backTo cpos (starEach [a] X.env)).all (fun x => !x.1) && (backToKw cpos (keywordEach [] X.env)).all (fun x => x.1.isSome) && decide (([a] : List Expr).length + ([] : List Keyword).length + (if ([] : List Keyword).isEmpty then 0 else 1) < 30)) = true := by rfl)
    (hline : (apos.endLine == cpos.line) = true := by rfl) (hs : starEach [a] X.env = (false, eval a X.env) :: starEach [] X.env := by rfl) (hplain : (backTo cpos (starEach [] X.env)).any (·.1) = false := by rfl) :
    PE X (.Call (.Attribute o "append" apos) [a] [] cpos) (rdE c W (methM isLst opApp f (aC fa aN))) := se_bm F.plainAttrs_list F.slot_list_append type_app tyOk_V mt_append (ty_lst hK) md_app ho (sa_cons ha sa_nil hs) hbase hfew hline hs hplain
theorem e_popAt {cpos : Pos} (hK : X.K = c.K) (ho : PE X o (rdE c W f)) (ha : PE X a (rdE c W fa)) (hbase : attributeBase o "pop" X.env (eval o X.env) = eval o X.env := by rfl)
    (hfew : ((backTo cpos (starEach [a] X.env)).all (fun x => !x.1) && (backToKw cpos (keywordEach [] X.env)).all (fun x => x.1.isSome) && decide (([a] : List Expr).length + ([] : List Keyword).length + (if ([] : List Keyword).isEmpty then 0 else 1) < 30)) = true := by rfl)
    (hline : (apos.endLine == cpos.line) = true := by rfl) (hs : starEach [a] X.env = (false, eval a X.env) :: starEach [] X.env := by rfl) (hplain : (backTo cpos (starEach [] X.env)).any (·.1) = false := by rfl) :
    PE X (.Call (.Attribute o "pop" apos) [a] [] cpos) (rdE c W (methM isLst opPopAt f (aC fa aN))) := se_bm F.plainAttrs_list F.slot_list_pop type_pop tyOk_V mt_popAt (ty_lst hK) md_popAt ho (sa_cons ha sa_nil hs) hbase hfew hline hs hplain
theorem e_pop {cpos : Pos} (hK : X.K = c.K) (ho : PE X o (rdE c W f)) (hbase : attributeBase o "pop" X.env (eval o X.env) = eval o X.env := by rfl) (hline : (apos.endLine == cpos.line) = true := by rfl) :
    PE X (.Call (.Attribute o "pop" apos) [] [] cpos) (rdE c W (methM isLst opPop f aN)) := se_bm0 F.plainAttrs_list F.slot_list_pop type_pop tyOk_V mt_pop (ty_lst hK) md_pop ho hbase hline
def opTIdx : R → List R → M R := fun x xs S => if isTup x S = true then opIdx x xs S else .bad
theorem e_tidx {cpos : Pos} (hK : X.K = c.K) (ho : PE X o (rdE c W f)) (ha : PE X a (rdE c W fa)) (hbase : attributeBase o "index" X.env (eval o X.env) = eval o X.env := by rfl)
    (hfew : ((backTo cpos (starEach [a] X.env)).all (fun x => !x.1) && (backToKw cpos (keywordEach [] X.env)).all (fun x => x.1.isSome) && decide (([a] : List Expr).length + ([] : List Keyword).length + (if ([] : List Keyword).isEmpty then 0 else 1) < 30)) = true := by rfl)
    (hline : (apos.endLine == cpos.line) = true := by rfl) (hs : starEach [a] X.env = (false, eval a X.env) :: starEach [] X.env := by rfl) (hplain : (backTo cpos (starEach [] X.env)).any (·.1) = false := by rfl) :
    PE X (.Call (.Attribute o "index" apos) [a] [] cpos) (rdE c W (methM isTup opTIdx f (aC fa aN))) := se_bm F.plainAttrs_tuple F.slot_tuple_index type_tidx tyOk_T mt_tup_idx (ty_tup hK) (md_idxT hK) ho (sa_cons ha sa_nil hs) hbase hfew hline hs hplain
/-- isinstance -/
theorem e_isB {n : String} (nm : Str) (hn : n ∈ ["bool", "int", "str", "tuple", "list", "dict"]) (cf : ClsF c.K (c.cls 0)) (hm : X.mg "isinstance" = none) (hm2 : X.mg nm = none) (hv : bootBuiltins nm = some (.type n)) (hK : X.K = c.K) (ha : PE X a (rdE c W f)) {q : Pos} (hg : Gl X "isinstance" := by rfl) (hg2 : Gl X nm := by rfl)
    (hs : starEach [a, .Name nm q] X.env = (false, eval a X.env) :: starEach [.Name nm q] X.env := by rfl) (hn1 : nm ≠ "__name__" := by decide) (hd : (nm == ("__debug__" : Str)) = false := by decide) :
    PE X (.Call (.Name "isinstance" p) [a, .Name nm q] [] pos) (rdE c W (isB n f)) := se_isB hK hn cf ha (pe_bltn hg2 hm2 hv rfl hn1 hd) hg hm hs (by rfl) (by rfl)
theorem e_isC {k : Nat} (nm : Str) (cf : ClsF c.K (c.cls k)) (hm : X.mg "isinstance" = none) (hm2 : X.mg nm = some (.ref (c.cls k))) (hK : X.K = c.K) (ha : PE X a (rdE c W f)) {q : Pos} (hg : Gl X "isinstance" := by rfl) (hg2 : Gl X nm := by rfl)
    (hs : starEach [a, .Name nm q] X.env = (false, eval a X.env) :: starEach [.Name nm q] X.env := by rfl) (hd : (nm == ("__debug__" : Str)) = false := by decide) :
    PE X (.Call (.Name "isinstance" p) [a, .Name nm q] [] pos) (rdE c W (isC k f)) := se_isC hK cf ha (pe_glob hg2 hm2 rfl hd) hg hm hs (by rfl) (by rfl)
theorem e_gI {x : Str} {i : Int} {t : Tok} (hm : X.mg x = some (.int i t)) (hg : Gl X x := by rfl) (hd : (x == ("__debug__" : Str)) = false := by decide) : PE X (.Name x pos) (rdE c W (cd (.int i))) := se_glob (fun _ => repI) (pe_glob hg hm ⟨_, rfl⟩ hd)
end
end Dd
namespace Dd
open PySem PySem.Spec PyProof.Rows L2
section
variable {X : Cx} {c : Cg} {W : WX} {elt tg iter : Expr} {ifs : List Expr} {scope : Scope} {pos spos py : Pos} {own : List (Str × Nat)} {vs : List Nat} {it : M (Itm D)} {itw : M (Itm (List D))} {tt : M Bool} {f : M R} {ks : List Nat} {i j n : Nat} {y : Str}
theorem lc1_ (hv : own.map (·.2) = vs) (hc : X.calm = true) (hN : X.N.Nodup) (hi : PI X tg iter (rdI c W it)) (ok : BlkOk X.N X.env.scope scope own) (hm : i ∈ vs)
    (hg : InBlk X scope fun Y => PG Y tg (gName i)) (ht : InBlk X scope fun Y => PTs Y ifs (rdT c W0 tt)) (he : InBlk X scope fun Y => PE Y elt (rdE c W0 f)) (hs : ∀ x, foldedSetIterable iter X.env x = pure x := by intro _; rfl) :
    PE X (.ListComp elt [⟨tg, iter, ifs, 0⟩] scope pos) (rdE c W (lcE vs [i] unp1 it tt f)) := by subst hv; exact se_lc1 hc hN hi ok hm hg ht he hs
theorem lcT_ (hv : own.map (·.2) = vs) (hc : X.calm = true) (hN : X.N.Nodup) (hK : X.K = c.K) (hi : PI X tg iter (rdI c W it)) (ok : BlkOk X.N X.env.scope scope own) (hn : n = ks.length) (hm : ∀ k ∈ ks, k ∈ vs)
    (hg : InBlk X scope fun Y => PG Y tg (gTup X.K n (gNs ks))) (ht : InBlk X scope fun Y => PTs Y ifs (rdT c W0 tt)) (he : InBlk X scope fun Y => PE Y elt (rdE c W0 f)) (hs : ∀ x, foldedSetIterable iter X.env x = pure x := by intro _; rfl) :
    PE X (.ListComp elt [⟨tg, iter, ifs, 0⟩] scope pos) (rdE c W (lcE vs ks unpT it tt f)) := by subst hv; exact se_lcT hc hN hK hi ok hn hm hg ht he hs
theorem lcW_ (hv : own.map (·.2) = vs) (hc : X.calm = true) (hN : X.N.Nodup) (hi : PI X tg iter (rdIT c W itw)) (ok : BlkOk X.N X.env.scope scope own) (hn : n = ks.length) (hm : ∀ k ∈ ks, k ∈ vs)
    (hg : InBlk X scope fun Y => PG Y tg (gTup X.K n (gNs ks))) (ht : InBlk X scope fun Y => PTs Y ifs (rdT c W0 tt)) (he : InBlk X scope fun Y => PE Y elt (rdE c W0 f)) (hs : ∀ x, foldedSetIterable iter X.env x = pure x := by intro _; rfl) :
    PE X (.ListComp elt [⟨tg, iter, ifs, 0⟩] scope pos) (rdE c W (lcE vs ks unpW itw tt f)) := by subst hv; exact se_lcW hc hN hi ok hn hm hg ht he hs
theorem slc1_ (hv : own.map (·.2) = vs) (hc : X.calm = true) (hN : X.N.Nodup) (hy : X.N[j]? = some y) (hyl : X.env.scope.names.lookup y = some .local) (hsw : swapsWith (.ListComp elt [⟨tg, iter, ifs, 0⟩] scope pos) (some (.Name y py)) spos.line X.env = pure true)
    (hi : PI X tg iter (rdI c W it)) (ok : BlkOk X.N X.env.scope scope own) (hm : i ∈ vs)
    (hg : InBlk X scope fun Y => PG Y tg (gName i)) (ht : InBlk X scope fun Y => PTs Y ifs (rdT c W0 tt)) (he : InBlk X scope fun Y => PE Y elt (rdE c W0 f)) (hs : ∀ x, foldedSetIterable iter X.env x = pure x := by intro _; rfl) :
    PS X (.Assign [.Name y py] (.ListComp elt [⟨tg, iter, ifs, 0⟩] scope pos) spos) (rdS c W (sSet j (lcE vs [i] unp1 it tt f))) := by subst hv; exact ss_lc1 hc hN hy hyl hsw hi ok hm hg ht he hs
theorem slcT_ (hv : own.map (·.2) = vs) (hc : X.calm = true) (hN : X.N.Nodup) (hK : X.K = c.K) (hy : X.N[j]? = some y) (hyl : X.env.scope.names.lookup y = some .local) (hsw : swapsWith (.ListComp elt [⟨tg, iter, ifs, 0⟩] scope pos) (some (.Name y py)) spos.line X.env = pure true)
    (hi : PI X tg iter (rdI c W it)) (ok : BlkOk X.N X.env.scope scope own) (hn : n = ks.length) (hm : ∀ k ∈ ks, k ∈ vs)
    (hg : InBlk X scope fun Y => PG Y tg (gTup X.K n (gNs ks))) (ht : InBlk X scope fun Y => PTs Y ifs (rdT c W0 tt)) (he : InBlk X scope fun Y => PE Y elt (rdE c W0 f)) (hs : ∀ x, foldedSetIterable iter X.env x = pure x := by intro _; rfl) :
    PS X (.Assign [.Name y py] (.ListComp elt [⟨tg, iter, ifs, 0⟩] scope pos) spos) (rdS c W (sSet j (lcE vs ks unpT it tt f))) := by subst hv; exact ss_lcT hc hN hK hy hyl hsw hi ok hn hm hg ht he hs
theorem slcW_ (hv : own.map (·.2) = vs) (hc : X.calm = true) (hN : X.N.Nodup) (hy : X.N[j]? = some y) (hyl : X.env.scope.names.lookup y = some .local) (hsw : swapsWith (.ListComp elt [⟨tg, iter, ifs, 0⟩] scope pos) (some (.Name y py)) spos.line X.env = pure true)
    (hi : PI X tg iter (rdIT c W itw)) (ok : BlkOk X.N X.env.scope scope own) (hn : n = ks.length) (hm : ∀ k ∈ ks, k ∈ vs)
    (hg : InBlk X scope fun Y => PG Y tg (gTup X.K n (gNs ks))) (ht : InBlk X scope fun Y => PTs Y ifs (rdT c W0 tt)) (he : InBlk X scope fun Y => PE Y elt (rdE c W0 f)) (hs : ∀ x, foldedSetIterable iter X.env x = pure x := by intro _; rfl) :
    PS X (.Assign [.Name y py] (.ListComp elt [⟨tg, iter, ifs, 0⟩] scope pos) spos) (rdS c W (sSet j (lcE vs ks unpW itw tt f))) := by subst hv; exact ss_lcW hc hN hy hyl hsw hi ok hn hm hg ht he hs
end
end Dd
namespace Dd
open PySem PySem.Spec PyProof.Rows L2
theorem takesW0 {X : Cx} : Takes X W0 := fun u s' ⟨_, _, _, _, _, _, _, _, _, _, _, _, _, _, _, _, w⟩ => w.elim
theorem FnG.bad {P : Program} {w : World} {K : PySem.W.Frag} {mg : Str → Option Value} {base : Heap} {k n : Nat} {f : Addr} {fd : FuncData} {ps : List Str} {c : Cg} (h : n = ps.length) : FnG P w K mg base k f fd ps (spF c n fun _ _ => .bad) :=
  ⟨fun vs H Q E ⟨_, _, _, e, _⟩ => e.trans h, fun A outer s H args us vs Q E hG hr e0 b r ⟨_, _, _, _, _, _, q⟩ => q.elim⟩
theorem gsN_len : ∀ (ds : List D) (S : Sg), ds.length ≠ 0 → gsN ds S = .bad := fun ds S h => by
  cases ds with
  | nil => exact (h rfl).elim
  | cons d r => rfl
theorem gsC_len {t : Tg} {u : List D → M Unit} {n : Nat} (h1 : ∀ d S x S', t d S ≠ .exc x S') (h2 : ∀ (ds : List D) (S : Sg), ds.length ≠ n → u ds S = .bad) : ∀ (ds : List D) (S : Sg), ds.length ≠ n + 1 → gsC t u ds S = .bad := fun ds S h => by
  cases ds with
  | nil => rfl
  | cons d r =>
    show (t d >>= fun _ => u r) S = .bad
    rw [bind_ap]
    have hr : r.length ≠ n := fun e => h (by rw [List.length_cons, e])
    cases e : t d S with
    | ok a S1 => exact h2 r S1 hr
    | exc x S1 => exact (h1 _ _ _ _ e).elim
    | bad => rfl
end Dd

set_option Elab.async false
set_option linter.all false
set_option maxRecDepth 100000
namespace Dd
open PySem PySem.Spec PyProof.Rows L2
/-- x, y = l, l a list -/
def gL (n : Nat) (u : List D → M Unit) : Tg := fun d S => match d with
  | .lst l => if l.length = n then u l S else .bad
  | _ => .bad
theorem gL_noexc {n : Nat} {u : List D → M Unit} (h2 : ∀ d S x S', u d S ≠ .exc x S') : ∀ d S x S', gL n u d S ≠ .exc x S' := fun d S x S' h => by
  cases d with
  | lst l =>
    have h : (if l.length = n then u l S else .bad) = .exc x S' := h
    split at h
    · exact h2 _ _ _ _ h
    · cases h
  | _ => cases h
section
variable {X : Cx} {c : Cg} {W : WX} {es : List Expr} {pos : Pos} {u : List D → M Unit}
theorem sg_lst {k : Nat} {n : Nat} (hc : X.calm = true) (hK : X.K = c.K) (h : PGs X es (rdGs c W u)) (hn : (assignEach es X.env).length = n := by rfl) (hst : (assignEach es X.env).findIdx? (·.1) = none := by rfl) : PG X (.Tuple es k pos) (rdG c W (gL n u)) :=
  sg_of (pg_lst hc h hn hst) fun v σ H Q q => by
    obtain ⟨Γ, S, d, F, r, k⟩ := q
    cases d with
    | lst l =>
      obtain ⟨a, vs, h1, h2, h3⟩ := Rep.lst_iff.mp r
      have k : match (if l.length = n then u l S else .bad) with | .ok _ S' => ∀ Γ' σ' H', Γ.le Γ' → FrOk c Γ' S' σ' H' → Q σ' H' | _ => False := k
      by_cases hl : l.length = n
      · rw [if_pos hl] at k
        exact ⟨a, vs, h1, hK ▸ SqL.mono F.s.g (.inl (.inl h2)), by rw [h3.length, hl], Γ, S, l, F, h3, k⟩
      · rw [if_neg hl] at k; exact k.elim
    | _ => exact k.elim
end
end Dd

set_option Elab.async false
set_option linter.all false
set_option maxRecDepth 100000
namespace Dd
open PySem PySem.Spec PyProof.Rows L2
/-! ### the end: the law's call -/
section
variable {P : Program} {w : World} {K : PySem.W.Frag} {mg mb : Str → Option Value} {k : Nat} {fa a : Addr} {fd : FuncData} {x : Str} {sp : Sp} {s₁ : Shared} {vs : List Value} {ns : List Int}
/-- what is tracked at the start: the script, and nothing where K has it -/
def Hp0 (K : PySem.W.Frag) (a : Addr) (o : Obj) (u : HO) : Hp := fun b => if b = a ∧ K.lookup a = none then some (.frz o u) else none
theorem hp0_some {o : Obj} {u : HO} {b : Addr} {z : HO} (h : Hp0 K a o u b = some z) : b = a ∧ K.lookup a = none ∧ z = .frz o u := by
  unfold Hp0 at h
  split at h
  · rename_i q
    cases h
    exact ⟨q.1, q.2, rfl⟩
  · cases h
theorem call_lawG (KX : K.In s₁.heap) (hns : s₁.heap.Ns mainGlobals mg) (hb : s₁.heap.Ns builtinsNs mb) (hbb : ∀ x : Str, x ≠ "__name__" → mb x = bootBuiltins x) (hlim : s₁.heap.NoLimit) (hg : s₁.gens = #[])
    (ha : s₁.heap.get? a = some { cls := .type "list", data := .seq vs.toArray }) (hi : IntsAre vs ns) (hl : ns.length ≤ sizeLine) (hr : Room k callerA)
    (F : ∀ base : Heap, K.In base → base.Ns mainGlobals mg → FnG P w K mg base k fa fd [x] sp) (hbind : ∀ (s : Shared) (u : Value), BindsTo s fd ⟨[u], []⟩ [(x, u)])
    (hsp : ∀ H : Hp, SqL K H a (ns.map V.int) → sp [.ref a] H (fun v _ => v = .bl true) fun _ _ _ => False) :
    codeAny (model P w) callerA (.call (.ref fa) ⟨[.ref a], []⟩) (fun r s' => r = .ok (.ret (.bool true)) ∧ OldK s₁.heap s'.heap ∧ s'.os = s₁.os ∧ AllBare s'.gens) s₁ := by
  have rv : Vals (ns.map V.int) vs := vals_ints hi
  have hlen : (ns.map V.int).length ≤ sizeLine := by rw [List.length_map]; exact hl
  let o : Obj := { cls := .type "list", data := .seq vs.toArray }
  let H : Hp := Hp0 K a o (.lst (ns.map V.int))
  have only : ∀ {b : Addr} {z : HO}, H b = some z → b = a ∧ K.lookup a = none ∧ z = .frz o (.lst (ns.map V.int)) := fun h => hp0_some h
  have hS : SqL K H a (ns.map V.int) := by
    cases hk : K.lookup a with
    | none => exact .inl (.inr ⟨o, if_pos ⟨rfl, hk⟩⟩)
    | some o' =>
      have e := KX a o' hk
      rw [ha] at e
      cases e
      exact .inr ⟨_, vs.toArray, _, hk, rfl, rfl, rfl, by rw [List.size_toArray, ← rv.length]; exact hlen, by simpa using rv⟩
  have hok : HOk P w H s₁.heap := fun b z h => by
    obtain ⟨rfl, _, rfl⟩ := only h
    exact ⟨ha, hlen, vs, _, rv, ha⟩
  have free : ∀ {b : Addr} {q : Obj}, s₁.heap.get? b = some q → H b = none → (hidT s₁.heap H).get? b = some q := fun e n => hidT_get e n
  have nsOf : ∀ {b : Addr} {m : Str → Option Value}, s₁.heap.Ns b m → (hidT s₁.heap H).Ns b m := fun {b m} ⟨q, es, ep, e, d, r⟩ => by
    refine ⟨q, es, ep, free e ?_, d, r⟩
    cases h : H b with
    | none => rfl
    | some z =>
      obtain ⟨rfl, _, _⟩ := only h
      rw [ha] at e
      cases e
      have d' : Data.seq vs.toArray _ = Data.dict es ep := d
      cases d'
  have hKb : K.In (hidT s₁.heap H) := fun b q e => free (KX b q e) (by
    cases h : H b with
    | none => rfl
    | some z =>
      obtain ⟨rfl, hk, _⟩ := only h
      rw [hk] at e
      cases e)
  have hM : Mod K mg (hidT s₁.heap H) := ⟨hKb, nsOf hns, ⟨mb, nsOf hb, hbb⟩, let ⟨mc, h1, h2⟩ := hlim; ⟨mc, nsOf h1, h2⟩⟩
  have e0 : Env0 P w K mg (hidT s₁.heap H) callerA [] s₁ H :=
    ⟨rfl, hM, fun b q e => of_hidT e, Nat.le_of_eq (hidT_size _ _), trivial, fun b hb => absurd (show b ∈ ([] : List Addr) from hb) (by simp), hok, .of_eq hg⟩
  have run := (F _ hKb (nsOf hns)).run callerA [] s₁ H ⟨[.ref a], []⟩ [.ref a] [.ref a] _ _ rfl hr e0 (hbind s₁ (.ref a)) (.cons rfl .nil) (hsp H hS)
  refine codeAny_mono run fun r s' h => ?_
  cases r with
  | error e => obtain ⟨_, _, _, _, _, _, _, _, _, _, _, _, h⟩ := h; exact h.elim
  | ok fl =>
    cases fl with
    | next => exact False.elim h
    | brk => exact False.elim h
    | cont => exact False.elim h
    | ret u =>
      obtain ⟨v, H', os, bare, un, hok', r', q⟩ := h
      have q' : v = .bl true := q
      subst q'
      obtain rfl : u = Value.bool true := r'
      refine ⟨rfl, OldK.of_keep fun b q e => ?_, os, bare⟩
      cases h : H b with
      | none => exact un.keep b q e h (fun z => absurd (show b ∈ ([] : List Addr) from z) (by simp)) (by simp)
      | some z =>
        obtain ⟨rfl, _, rfl⟩ := only h
        obtain ⟨e2, _⟩ := hok' b _ (un.frzs b o _ h)
        rw [ha] at e
        cases e
        exact e2
theorem RepL.scriptE {c : Cg} {ns : List Int} {H : Hp} {a : Addr} (h : SqL c.K H a (ns.map V.int)) : Rep c H (.scp (ns.map D.int)) (.ref a) := Rep.scp_iff.mpr ⟨a, _, rfl, h, RepL.of_ints ns⟩
end
theorem walk_ofG {l : PySem.W.OpenLaw} {n k : Nat} {q : Program} {loose : List Str} {XP : (Str → Option Value) → Heap → Prop} {YP : World → Heap → Prop} {d : DefRec} {K : Params → PySem.W.Frag} {x : Str} {F : Fn}
    (hn : l.most = some n) (hn2 : n ≤ sizeLine) (hdf : d.params.defaults = []) (hr : Room k callerA) (hY : ∀ (w : World) (h : Heap), YP w h → (K w.params).In h)
    (hF : ∀ (w : World) (mg : Str → Option Value) (fa : Addr) (h : Heap), (K w.params).In h → h.Ns mainGlobals mg → mg d.name = some (.ref fa) →
      ∃ (cls : Nat → Addr) (fd : FuncData), (∀ (s : Shared) (u : Value), BindsTo s fd ⟨[u], []⟩ [(x, u)]) ∧
        ∀ base : Heap, (K w.params).In base → base.Ns mainGlobals mg → FnG l.prog w (K w.params) mg base k fa fd [x] (spF ⟨K w.params, cls⟩ 1 F))
    (hlaw : ∀ ns : List Int, ns.length ≤ n → ∃ st, F [.p (.scp (ns.map D.int))] [] = .ok (.val (.bl true)) st) :
    PySem.W.WalkO q loose XP YP l.row.toRowW d [] (fun f vs => PySem.call f vs) := by
  refine Att.attach_call hn hdf fun w s₀ s₁ mg mb fa o pm cd doc a vs ns G Y ho hd hcd hmg hobj hints hlen hg => ?_
  have KX := hY w _ Y
  obtain ⟨cls, fd, hb, hFF⟩ := hF w mg fa _ KX G.T.g hmg
  refine call_lawG KX G.T.g G.T.b G.T.builtins G.T.nolimit hg hobj hints (Nat.le_trans hlen hn2) hr hFF hb fun H hS => ?_
  obtain ⟨st, e⟩ := hlaw ns hlen
  refine ⟨[.p (.scp (ns.map D.int))], ⟨H, fun _ => none, []⟩, [], rfl, ⟨.ref a, [], rfl, RepL.scriptE (c := ⟨K w.params, cls⟩) hS, rfl⟩, ?_, ?_⟩
  · exact ⟨fun _ _ h => h, (fun _ _ h => by cases h), (fun _ _ h => by cases h), rfl, (fun n z b h => by simp at h), (fun n m b p u h => by simp at h)⟩
  · rw [e]
    intro Γ' H' v le S hv
    exact Rep.bl_iff.mp hv
theorem ClsF.of {K : PySem.W.Frag} {C : Addr} (cl : Cls K C) (ha : PySem.W.findIn K (.ref C) "__class__" = some (some (.builtin "object.__class__")))
    (hn : PySem.W.specialIn K (.builtin "object.__class__") "__get__" = some (some (.builtin "getset_descriptor.__get__"))) (tk : PySem.W.takesIn K (.builtin "object.__class__") = some true) (mro : PySem.W.mroIn K C (.type "object") = some true)
    (ty : PySem.W.typeIn K (.ref C) = some (.type "type")) (y : ∀ t ∈ ["bool", "int", "str", "tuple", "list", "dict"], PySem.W.subIn K (.ref C) (.type t) = some false)
    (z : ∀ t ∈ ["NoneType", "bool", "int", "str", "tuple", "list", "dict"], PySem.W.subIn K (.type t) (.ref C) = some false) : ClsF K C := by
  have hc : (PySem.W.clsIn K C).isSome = true := by
    obtain ⟨cd, hc, _⟩ := PySem.W.any_some cl.hd
    rw [hc]
    rfl
  refine ⟨cl, ha, hn, tk, mro, ?_, fun t ht => ?_, fun t ht => ?_, z⟩
  · unfold PySem.W.kitOne
    rw [if_pos (beq_self_eq_true _)]
  · unfold PySem.W.kitOne
    have e : (Value.type t == Value.ref C) = false := by rfl
    rw [e, if_neg (by decide)]
    show (if ((PySem.W.clsIn K C).isSome && PySem.W.typeIn K (.ref C) == some (.type "type")) = true then PySem.W.subIn K (.type t) (.ref C) else none) = _
    rw [hc, ty, if_pos (by rfl)]
    exact z t ht
  · unfold PySem.W.kitOne
    have e : (Value.ref C == Value.type t) = false := by rfl
    rw [e, if_neg (by decide)]
    show (if PySem.W.kitMeta t = true then PySem.W.subIn K (.ref C) (.type t) else none) = _
    have m : PySem.W.kitMeta t = true := by
      simp only [List.mem_cons, List.not_mem_nil, or_false] at ht
      rcases ht with rfl | rfl | rfl | rfl | rfl | rfl <;> decide +kernel
    rw [if_pos m]
    exact y t ht
end Dd

set_option Elab.async false
set_option linter.all false
set_option maxRecDepth 100000
namespace Dd
open PySem PySem.Spec PyProof.Rows L2
/-! ### name += int, while -/
/-- name op= an int -/
def sAug (g : Int → Int → Int) (i : Nat) (f : M R) : M Fl := fun S => match S.sl[i]? with
  | some (some (.p (.int x))) => (match f S with
    | .ok (.p (.int y)) S1 => .ok .nx { S1 with sl := S1.sl.set i (some (.p (.int (g x y)))) }
    | .ok _ _ => .bad
    | .exc z S1 => .exc z S1
    | .bad => .bad)
  | _ => .bad
/-- a while, at most n turns -/
def whileN (t : M Bool) (h : M Fl) : Nat → M Fl
  | 0 => bad
  | n + 1 => fun S => match t S with
    | .ok true S1 => (match h S1 with
      | .ok .nx S2 => whileN t h n S2
      | .ok .ct S2 => whileN t h n S2
      | .ok .bk S2 => .ok .nx S2
      | .ok (.rt x) S2 => .ok (.rt x) S2
      | .exc x S2 => .exc x S2
      | .bad => .bad)
    | .ok false S1 => .ok .nx S1
    | .exc x S1 => .exc x S1
    | .bad => .bad
theorem whileN_mono {t : M Bool} {h : M Fl} : ∀ {n : Nat} {S : Sg}, whileN t h n S ≠ .bad → ∀ m, n ≤ m → whileN t h m S = whileN t h n S
  | 0, S, hn, m, hm => (hn rfl).elim
  | n + 1, S, hn, m, hm => by
    obtain ⟨k, rfl⟩ : ∃ k, m = k + 1 := ⟨m - 1, by omega⟩
    unfold whileN at hn ⊢
    cases e : t S with
    | bad => rfl
    | exc x S1 => rfl
    | ok b S1 =>
      cases b with
      | false => rfl
      | true =>
        rw [e] at hn
        simp only at hn ⊢
        cases e2 : h S1 with
        | bad => rfl
        | exc x S2 => rfl
        | ok f S2 =>
          rw [e2] at hn
          cases f with
          | nx => exact whileN_mono hn k (by omega)
          | ct => exact whileN_mono hn k (by omega)
          | bk => rfl
          | rt x => rfl
open Classical in
noncomputable def sWhile (t : M Bool) (h : M Fl) : M Fl := fun S => if q : ∃ n, whileN t h n S ≠ .bad then whileN t h q.choose S else .bad
theorem sWhile_of {t : M Bool} {h : M Fl} {S : Sg} {n : Nat} {r : Res Fl} (e : whileN t h n S = r) (hr : r ≠ .bad) : sWhile t h S = r := by
  have q : ∃ n, whileN t h n S ≠ .bad := ⟨n, by rw [e]; exact hr⟩
  unfold sWhile
  rw [dif_pos q, ← e]
  have a := q.choose_spec
  rw [← whileN_mono a (max n q.choose) (Nat.le_max_right _ _), ← whileN_mono (n := n) (by rw [e]; exact hr) (max n q.choose) (Nat.le_max_left _ _)]
section
variable {X : Cx} {c : Cg} {W : WX} {tg e a b : Expr} {es : List Expr} {f fa fb : M R} {g : M (List R)} {h : M Fl} {t : M Bool} {pos pos' p : Pos} {body : List Stmt}
theorem ss_augI {op : Operator} {gg : Int → Int → Int} {i : Nat} {x : Str} (ho : PIp X op (ipI gg)) (hN : X.N.Nodup) (hi : X.N[i]? = some x) (hx : Loc X.env.scope x) (he : PE X e (rdE c W f)) (hf : X.fn x = true ∨ X.env.scope.names.lookup x = some .local := by first | exact .inl rfl | exact .inr rfl | assumption) :
    PS X (.AugAssign (.Name x pos') op e pos) (rdS c W (sAug gg i f)) := ss_of (ps_aug hN hi hx he ho hf) fun E σ H q => by
  obtain ⟨Γ, S, F, P⟩ := q
  unfold sAug at P
  split at P
  · rename_i x hx
    obtain ⟨v, h1, h2⟩ := F.sl i _ hx
    refine ⟨v, h1, Γ, S, F, ?_⟩
    cases q : f S with
    | bad => rw [q] at P; exact P
    | exc z S1 => rw [q] at P; exact fun Γ' H' cls dd e' f q => P Γ' σ H' cls dd e' f q
    | ok y S1 =>
      rw [q] at P
      intro Γ' H' le F' w hw
      cases y with
      | r n => exact P.elim
      | p d =>
        cases d with
        | int j =>
          refine ⟨x, j, ?_, RepR.int hw, ?_⟩
          · exact RepR.int h2
          · exact P Γ' _ H' le (F'.put i (x := .p (.int (gg x j))) ((Rep.int_iff (c := c) (G := Γ'.G)).mpr rfl))
        | _ => exact P.elim
  · exact P.elim
theorem ss_while (hp : PassesOwn (model X.prog X.w) X.A X.env X.xe) (hc : PT X e (rdT c W t)) (hb : PSs X body (rdS c W h)) : PS X (.While e body [] pos) (rdS c W (sWhile t h)) := ss_of (ps_while hp hc hb) fun E σ H q => by
  obtain ⟨Γ, S, F, P⟩ := q
  unfold sWhile at P
  split at P
  · rename_i q
    refine ⟨fun m σ H => ∃ Γ S, FrOk c Γ S σ H ∧ PostS c W Γ (whileN t h m S) E, ⟨_, Γ, S, F, P⟩, ?_⟩
    rintro m σ H ⟨Γ, S, F, P⟩
    cases m with
    | zero => exact P.elim
    | succ m =>
      unfold whileN at P
      refine ⟨Γ, S, F, ?_⟩
      cases q1 : t S with
      | bad => rw [q1] at P; exact P
      | exc z S1 => rw [q1] at P; exact fun Γ' H' cls dd e' f q => P Γ' σ H' cls dd e' f q
      | ok b S1 =>
        rw [q1] at P
        intro Γ1 H1 le F1
        cases b with
        | false =>
          show E.nx σ H1
          exact P Γ1 σ H1 le F1
        | true =>
          show ∃ N : L2.St → Hp → Prop, _
          refine ⟨fun σ H => ∃ Γ S, FrOk c Γ S σ H ∧ PostS c W Γ (whileN t h m S) E, fun σ' H' w => ⟨m, by omega, w⟩, Γ1, S1, F1, ?_⟩
          have P : PostS c W Γ (match h S1 with
            | .ok .nx S2 => whileN t h m S2
            | .ok .ct S2 => whileN t h m S2
            | .ok .bk S2 => .ok .nx S2
            | .ok (.rt x) S2 => .ok (.rt x) S2
            | .exc x S2 => .exc x S2
            | .bad => .bad) E := P
          cases q2 : h S1 with
          | bad => rw [q2] at P; exact P
          | exc z S2 => rw [q2] at P; exact fun Γ' σ' H' cls dd e' f q => P Γ' σ' H' cls dd (le.trans e') f q
          | ok fl S2 =>
            rw [q2] at P
            cases fl with
            | nx => exact fun Γ' σ' H' e' f => ⟨Γ', S2, f, P.le (le.trans e')⟩
            | ct => exact fun Γ' σ' H' e' f => ⟨Γ', S2, f, P.le (le.trans e')⟩
            | bk => exact fun Γ' σ' H' e' f => P Γ' σ' H' (le.trans e') f
            | rt x => exact fun Γ' σ' H' v e' f q => P Γ' σ' H' v (le.trans e') f q
  · exact P.elim
/-! ### ranges of any ints, by ones; downward -/
theorem turn_longrange {P : Program} {w : World} {K : PySem.W.Frag} {tg : Expr} (it : Addr) (lo : Int) (n : Nat) : Turn P w K tg (Itr lo n) [it] it (fun i h => IsLongIter h it (lo + (i : Nat) * 1) ((n : Int) - (i : Nat)) 1) where
  mem := by simp
  obj := fun i h st b hb => by
    have e : b = it := by simpa using hb
    subst e
    exact ⟨_, st, fun v z => by
      have z' : Data.fields _ = Data.cell v := z
      cases z'⟩
  keep := fun i h h' st k => k it (by simp) _ st
  item := by
    intro X hP hw hK hc i pins s σ H E I hf st hg
    subst hP hw hK
    obtain ⟨f0, f1, f2, f3, f4, f5⟩ := hf it (by simp)
    have W := Walks.longrange (prog := X.prog) (w := X.w) (I.ok.hd hc) it lo 1 n
    refine W.item i s _ _ hg st fun v h' tk hv st' kk => ?_
    obtain ⟨t, rfl⟩ := hv
    have I1 : Inv X pins σ H { s with heap := h', toks := tk } := I.turned (fun b o hb e => kk b o (by simpa using hb) e) f0 f1 f3 f4 f5
    refine ⟨_, rfl, go_of (s := { s with heap := h', toks := tk }) (n := "longrange_iterator") st' rfl rfl (by decide) ⟨.int (lo + i), H, I1, ⟨t, ?_⟩, ⟨rfl, rfl⟩, st', fun b hb => (hf b hb).1⟩⟩
    rw [Int.mul_one]
  done := by
    intro X hP hw hK hc i pins s σ H E I hf st hg
    subst hP hw hK
    obtain ⟨f0, f1, f2, f3, f4, f5⟩ := hf it (by simp)
    exact wpAny_pyNext_long_end (I.ok.hd hc) st (by have : n ≤ i := hg; omega) fun h' eb => ⟨rfl, I.turned (t' := s.toks) (fun b o hb e => eb b o hb e) f0 f1 f3 f4 f5⟩
  self := fun _ _ _ _ _ st h => wpAny_pyIter_longiter st h
theorem range_itL {pins : List (Addr × Obj)} {σ : L2.St} {H : Hp} {s : Shared} {RR : It → Hp → Prop} {E : Value → Shared → Prop} {lo hi : Int} {t u v : Tok} {tk : Nat} (I : Inv X pins σ H s)
    (q : RR (Itr lo (hi - lo).toNat) H) : wpAny (model X.prog X.w) X.A (pyIter (.ref s.heap.objs.size)) (PIE X pins σ tg RR) E { s with heap := s.heap.push { cls := .type "range", data := .fields #[.int lo t, .int hi u, .int 1 v] }, toks := tk } := by
  have I1 : Inv X pins σ H { s with heap := s.heap.push { cls := .type "range", data := .fields #[.int lo t, .int hi u, .int 1 v] }, toks := tk } := I.kept fun b o e => Heap.get?_push_of_some _ e
  have e1 : lo + ((0 : Nat) : Int) * 1 = lo := by simp
  have e2 : (((hi - lo).toNat : Nat) : Int) - ((0 : Nat) : Int) = Builtin.Range.rangeSize lo hi 1 := by rw [rangeSize_one]; split <;> omega
  cases hsm : Builtin.Range.small lo hi 1 with
  | true =>
    refine wpAny_pyIter_range (IsRange.new ..) hsm ?_
    refine ⟨(s.heap.push { cls := .type "range", data := .fields #[.int lo t, .int hi u, .int 1 v] }).objs.size, [(s.heap.push { cls := .type "range", data := .fields #[.int lo t, .int hi u, .int 1 v] }).objs.size], _, _, H, rfl,
      I1.kept (t' := tk) fun b o e => Heap.get?_push_of_some _ e, turn_range _ lo (hi - lo).toNat, ?_, fun b hb => ?_, q⟩
    · show IsRangeIter _ _ (lo + ((0 : Nat) : Int) * 1) ((((hi - lo).toNat : Nat) : Int) - ((0 : Nat) : Int)) 1
      rw [e1, e2]
      exact Heap.get?_push_size _ rfl
    · have e : b = (s.heap.push { cls := .type "range", data := .fields #[.int lo t, .int hi u, .int 1 v] }).objs.size := by simpa using hb
      subst e
      exact I1.fpOk (Nat.le_refl _) (I1.hok.fresh (Nat.le_refl _))
  | false =>
    refine wpAny_pyIter_longrange (IsRange.new ..) hsm ?_
    refine ⟨(s.heap.push { cls := .type "range", data := .fields #[.int lo t, .int hi u, .int 1 v] }).objs.size, [(s.heap.push { cls := .type "range", data := .fields #[.int lo t, .int hi u, .int 1 v] }).objs.size], _, _, H, rfl,
      I1.kept (t' := tk) fun b o e => Heap.get?_push_of_some _ e, turn_longrange _ lo (hi - lo).toNat, ?_, fun b hb => ?_, q⟩
    · show IsLongIter _ _ (lo + ((0 : Nat) : Int) * 1) ((((hi - lo).toNat : Nat) : Int) - ((0 : Nat) : Int)) 1
      rw [e1, e2]
      exact Heap.get?_push_size _ rfl
    · have e : b = (s.heap.push { cls := .type "range", data := .fields #[.int lo t, .int hi u, .int 1 v] }).objs.size := by simpa using hb
      subst e
      exact I1.fpOk (Nat.le_refl _) (I1.hok.fresh (Nat.le_refl _))
end
section
variable {X : Cx} {c : Cg} {W : WX} {tg e a b o : Expr} {es : List Expr} {f fa fb : M R} {g ga : M (List R)} {h : M Fl} {t : M Bool} {pos pos' p : Pos} {body : List Stmt}
def iRngL (ta : TA) : TI := fun σ H R => ta σ H fun vs H1 => ∃ i j : Int, vs = [.int i, .int j] ∧ R (Itr i (j - i).toNat) H1
theorem pi_range2L {ta : TA} (hg : Gl X "range") (hm : X.mg "range" = none) (ha : PA X [a, b] ta) (hs : starEach [a, b] X.env = [(false, eval a X.env), (false, eval b X.env)] := by rfl) (hs2 : starEach [b] X.env = [(false, eval b X.env)] := by rfl) :
    PI X tg (.Call (.Name "range" p) [a, b] [] pos) (iRngL ta) := by
  refine ⟨fun pins s σ H R I h => ?_⟩
  refine Call_ (ld_blt I hg hm boot_range (PyProof.Rows.callWith_type1 (thn (ha.run pos pins s σ H _ I h) fun us s1 ⟨vs, H1, I1, r1, q1⟩ => ?_) (by rw [hs, hs2]) (by rw [hs2]; rfl)))
  obtain ⟨i, j, e, q⟩ := q1
  subst e
  cases r1 with
  | cons r rr =>
    cases rr with
    | cons r' rr =>
      cases rr
      obtain ⟨t, rfl⟩ := r
      obtain ⟨t', rfl⟩ := r'
      exact call_range_2 (range_itL I1 q)
def rngL (xs : List R) (S : Sg) : Res (Itm D) := match asI2 xs with
  | some q => .ok ⟨fun _ => True, intsFrom q.1 (q.2 - q.1).toNat⟩ S
  | none => .bad
def itR2L (g : M (List R)) : M (Itm D) := g >>= rngL
theorem si_range2L (hg : Gl X "range") (hm : X.mg "range" = none) (ha : PA X [a, b] (rdA c W g)) (hs : starEach [a, b] X.env = [(false, eval a X.env), (false, eval b X.env)] := by rfl) (hs2 : starEach [b] X.env = [(false, eval b X.env)] := by rfl) :
    PI X tg (.Call (.Name "range" p) [a, b] [] pos) (rdI c W (itR2L g)) :=
  si_of (pi_range2L hg hm ha hs hs2) fun σ H R q => by
    obtain ⟨Γ, S, F, P⟩ := q
    refine ⟨Γ, S, F, (Post.bind P).imp fun xs S1 Γ1 H1 e1 F1 ⟨_, P1⟩ vs hvs => ?_⟩
    unfold rngL at P1
    cases q : asI2 xs with
    | none => rw [q] at P1; exact P1.elim
    | some ij =>
      obtain ⟨i, j⟩ := ij
      rw [q] at P1
      exact ⟨i, j, ints2 hvs q, Post.ok (c := c) (W := W) P1 Gh.le.refl F1 _ itR_ok⟩
/-- range(i, j, -1) -/
def asI3 : List R → Option (Int × Int × Int)
  | [.p (.int i), .p (.int j), .p (.int k)] => some (i, j, k)
  | _ => none
theorem asI3_some {xs : List R} {q : Int × Int × Int} (h : asI3 xs = some q) : xs = [.p (.int q.1), .p (.int q.2.1), .p (.int q.2.2)] := by
  unfold asI3 at h
  split at h
  · cases h; rfl
  · cases h
theorem downFrom_length : ∀ {i k : Int} {n : Nat}, (downFrom i k n).length = n
  | _, _, 0 => rfl
  | i, k, n + 1 => by simp [downFrom, downFrom_length]
theorem downFrom_get : ∀ {i k : Int} {n m : Nat} {d : D}, (downFrom i k n)[m]? = some d → d = .int (i + (m : Nat) * k) ∧ m < n
  | i, k, 0, m, d, h => by simp [downFrom] at h
  | i, k, n + 1, m, d, h => by
    cases m with
    | zero => simp [downFrom] at h; exact ⟨by rw [← h]; simp, by omega⟩
    | succ m =>
      obtain ⟨h1, h2⟩ := downFrom_get (i := i + k) (k := k) (n := n) (m := m) (by simpa [downFrom] using h)
      refine ⟨?_, by omega⟩
      rw [h1, Int.natCast_succ, Int.add_mul, Int.one_mul]
      congr 1; omega
theorem itC_ok {Γ0 : Gh} {lo k : Int} {n : Nat} : ItOk c Γ0 ⟨fun _ => True, downFrom lo k n⟩ (Itc lo k n) := by
  intro Γ S σ H i e F _
  refine ⟨fun d hd => ?_, fun hl => ?_⟩
  · obtain ⟨rfl, hi⟩ := downFrom_get hd
    refine ⟨hi, fun y H' hy => ?_⟩
    obtain ⟨rfl, rfl⟩ := hy
    exact ⟨Γ, Gh.le.refl, F, Rep.int_iff.mpr rfl⟩
  · rw [downFrom_length] at hl
    exact Nat.le_of_eq hl
def rng3 (xs : List R) (S : Sg) : Res (Itm D) := match asI3 xs with
  | some q => if q.2.2 = -1 ∧ -(2 ^ 62) ≤ q.1 ∧ q.1 < 2 ^ 62 ∧ -(2 ^ 62) ≤ q.2.1 ∧ q.2.1 < 2 ^ 62 then .ok ⟨fun _ => True, downFrom q.1 (-1) (q.1 - q.2.1).toNat⟩ S else .bad
  | none => .bad
def itR3 (g : M (List R)) : M (Itm D) := g >>= rng3
theorem si_range3 {e3 : Expr} (hg : Gl X "range") (hm : X.mg "range" = none) (ha : PA X [a, b, e3] (rdA c W g)) (hs : starEach [a, b, e3] X.env = (false, eval a X.env) :: starEach [b, e3] X.env := by rfl) (hpl : (backTo pos (starEach [b, e3] X.env)).any (·.1) = false := by rfl) :
    PI X tg (.Call (.Name "range" p) [a, b, e3] [] pos) (rdI c W (itR3 g)) :=
  si_of (pi_range3 hg hm ha hs hpl) fun σ H R q => by
    obtain ⟨Γ, S, F, P⟩ := q
    refine ⟨Γ, S, F, (Post.bind P).imp fun xs S1 Γ1 H1 e1 F1 ⟨_, P1⟩ vs hvs => ?_⟩
    unfold rng3 at P1
    cases q : asI3 xs with
    | none => rw [q] at P1; exact P1.elim
    | some ij =>
      obtain ⟨i, j, k⟩ := ij
      rw [q] at P1
      simp only at P1
      by_cases h : k = -1 ∧ -(2 ^ 62) ≤ i ∧ i < 2 ^ 62 ∧ -(2 ^ 62) ≤ j ∧ j < 2 ^ 62
      · rw [if_pos h] at P1
        obtain ⟨rfl, h1, h2, h3, h4⟩ := h
        rw [asI3_some q] at hvs
        obtain ⟨v, r, rfl, k1, u, r', rfl, k2, w, r'', rfl, k3, k4⟩ := hvs
        rw [RepR.int k1, RepR.int k2, RepR.int k3, show r'' = [] from k4]
        exact ⟨i, j, -1, _, rfl, RgC.neg h1 h2 h3 h4, Post.ok (c := c) (W := W) P1 Gh.le.refl F1 _ itC_ok⟩
      · rw [if_neg h] at P1; exact P1.elim
/-! ### in, not in -/
def flatD : D → Option V
  | .non => some .non
  | .bl b => some (.bl b)
  | .int i => some (.int i)
  | .str s => some (.str s)
  | _ => none
def flatL : List D → Option (List V)
  | [] => some []
  | d :: ds => match flatD d with
    | some v => (match flatL ds with
      | some vs => some (v :: vs)
      | none => none)
    | none => none
theorem flatD_rep {G : Hp} {d : D} {v w : V} (h : flatD d = some v) (r : Rep c G d w) : w = v ∧ flatV v = true := by
  cases d with
  | non => cases h; exact ⟨Rep.non_iff.mp r, rfl⟩
  | bl b => cases h; exact ⟨Rep.bl_iff.mp r, rfl⟩
  | int b => cases h; exact ⟨Rep.int_iff.mp r, rfl⟩
  | str b => cases h; exact ⟨Rep.str_iff.mp r, rfl⟩
  | _ => cases h
theorem flatL_rep {G : Hp} : ∀ {ds : List D} {vs ws : List V}, flatL ds = some vs → RepL c G ds ws → ws = vs ∧ vs.all flatV = true
  | [], vs, ws, h, r => by cases h; exact ⟨RepL.nil_iff.mp r, rfl⟩
  | d :: ds, vs, ws, h, r => by
    unfold flatL at h
    cases q : flatD d with
    | none => rw [q] at h; cases h
    | some v =>
      rw [q] at h
      simp only at h
      cases q2 : flatL ds with
      | none => rw [q2] at h; cases h
      | some us =>
        rw [q2] at h; cases h
        obtain ⟨w, ws', rfl, h1, h2⟩ := RepL.cons_iff.mp r
        obtain ⟨e1, f1⟩ := flatD_rep q h1
        obtain ⟨e2, f2⟩ := flatL_rep q2 h2
        subst e1 e2
        exact ⟨rfl, by rw [List.all_cons, f1, f2]; rfl⟩
def opInG (neg : Bool) : R → R → M R := fun x y S => match x with
  | .p d => (match flatD d with
    | some v => (match getL y S with
      | some l => (match flatL l with
        | some vs => .ok (.p (.bl (if neg then !inV v vs else inV v vs))) S
        | none => .bad)
      | none => .bad)
    | none => .bad)
  | _ => .bad
def opIn : R → R → M R := opInG false
def opNotIn : R → R → M R := opInG true
theorem od_in (hK : X.K = c.K) {neg : Bool} : OpD c W (opInG neg) (rIn X.K neg) := by
  intro Γ S σ H x y v w Q F hx hy P
  cases x with
  | r n => exact P.elim
  | p d =>
    unfold opInG at P
    simp only at P
    cases q1 : flatD d with
    | none => rw [q1] at P; exact P.elim
    | some v' =>
      rw [q1] at P
      simp only at P
      cases q2 : getL y S with
      | none => rw [q2] at P; exact P.elim
      | some l =>
        rw [q2] at P
        simp only at P
        cases q3 : flatL l with
        | none => rw [q3] at P; exact P.elim
        | some vs =>
          rw [q3] at P
          obtain ⟨e1, f1⟩ := flatD_rep q1 (RepR.pure.mp hx)
          obtain ⟨a, ws, rfl, h1, h2⟩ := getL_ok F hy q2
          obtain ⟨e2, f2⟩ := flatL_rep q3 h2
          subst e1 e2
          exact ⟨a, _, rfl, hK ▸ h1, f1, f2, Post.ok (c := c) (W := W) P Gh.le.refl F _ RepR.mkB⟩
theorem e_in (hK : X.K = c.K) (ha : PE X a (rdE c W fa)) (hb : PE X b (rdE c W fb)) (hm : behindInMarks .In b = false := by rfl) : PE X (.Compare a [.In] [b] pos) (rdE c W (bin opIn fa fb)) := se_cmp op_in_seq (od_in hK) ha hb hm
theorem e_notin (hK : X.K = c.K) (ha : PE X a (rdE c W fa)) (hb : PE X b (rdE c W fb)) (hm : behindInMarks .NotIn b = false := by rfl) : PE X (.Compare a [.NotIn] [b] pos) (rdE c W (bin opNotIn fa fb)) := se_cmp op_notIn_seq (od_in hK) ha hb hm
theorem t_in (hK : X.K = c.K) (ha : PE X a (rdE c W fa)) (hb : PE X b (rdE c W fb)) (hm : behindInMarks .In b = false := by rfl) : PT X (.Compare a [.In] [b] pos) (rdT c W (tst (bin opIn fa fb))) := st_cmp op_in_seq (od_in hK) ha hb hm
theorem t_notin (hK : X.K = c.K) (ha : PE X a (rdE c W fa)) (hb : PE X b (rdE c W fb)) (hm : behindInMarks .NotIn b = false := by rfl) : PT X (.Compare a [.NotIn] [b] pos) (rdT c W (tst (bin opNotIn fa fb))) := st_cmp op_notIn_seq (od_in hK) ha hb hm
def opBxor : R → R → M R := opI0 fun i j => .int (Builtin.bitXor i j)
theorem e_bxor (ha : PE X a (rdE c W fa)) (hb : PE X b (rdE c W fb)) : PE X (.BinOp a .BitXor b pos) (rdE c W (bin opBxor fa fb)) := se_bin op_xor (od_I0 fun _ _ _ => repI) ha hb
/-! ### max, min of a list of ints -/
def maxI : List Int → Int
  | [] => 0
  | n :: ns => ns.foldl max n
def minI : List Int → Int
  | [] => 0
  | n :: ns => ns.foldl min n
theorem foldl_max : ∀ (ns : List Int) (n : Int), n ≤ ns.foldl max n ∧ (∀ y ∈ ns, y ≤ ns.foldl max n) ∧ (ns.foldl max n = n ∨ ns.foldl max n ∈ ns)
  | [], n => ⟨Int.le_refl _, by simp, .inl rfl⟩
  | m :: ns, n => by
    obtain ⟨h1, h2, h3⟩ := foldl_max ns (max n m)
    rw [List.foldl_cons]
    refine ⟨by omega, fun y hy => ?_, ?_⟩
    · rcases List.mem_cons.mp hy with rfl | hy
      · omega
      · exact h2 y hy
    · rcases h3 with h3 | h3
      · by_cases hnm : n ≤ m
        · right; rw [h3, Int.max_eq_right hnm]; exact List.mem_cons_self
        · left; rw [h3, Int.max_eq_left (by omega)]
      · right; exact List.mem_cons_of_mem _ h3
theorem foldl_min : ∀ (ns : List Int) (n : Int), ns.foldl min n ≤ n ∧ (∀ y ∈ ns, ns.foldl min n ≤ y) ∧ (ns.foldl min n = n ∨ ns.foldl min n ∈ ns)
  | [], n => ⟨Int.le_refl _, by simp, .inl rfl⟩
  | m :: ns, n => by
    obtain ⟨h1, h2, h3⟩ := foldl_min ns (min n m)
    rw [List.foldl_cons]
    refine ⟨by omega, fun y hy => ?_, ?_⟩
    · rcases List.mem_cons.mp hy with rfl | hy
      · omega
      · exact h2 y hy
    · rcases h3 with h3 | h3
      · by_cases hnm : n ≤ m
        · left; rw [h3, Int.min_eq_left hnm]
        · right; rw [h3, Int.min_eq_right (by omega)]; exact List.mem_cons_self
      · right; exact List.mem_cons_of_mem _ h3
theorem maxI_ok {ns : List Int} (h : 0 < ns.length) : maxI ns ∈ ns ∧ ∀ y ∈ ns, y ≤ maxI ns := by
  cases ns with
  | nil => simp at h
  | cons n ns =>
    obtain ⟨h1, h2, h3⟩ := foldl_max ns n
    refine ⟨?_, fun y hy => ?_⟩
    · rcases h3 with h3 | h3
      · show ns.foldl max n ∈ _; rw [h3]; exact List.mem_cons_self
      · exact List.mem_cons_of_mem _ h3
    · rcases List.mem_cons.mp hy with rfl | hy
      · exact h1
      · exact h2 y hy
theorem minI_ok {ns : List Int} (h : 0 < ns.length) : minI ns ∈ ns ∧ ∀ y ∈ ns, minI ns ≤ y := by
  cases ns with
  | nil => simp at h
  | cons n ns =>
    obtain ⟨h1, h2, h3⟩ := foldl_min ns n
    refine ⟨?_, fun y hy => ?_⟩
    · rcases h3 with h3 | h3
      · show ns.foldl min n ∈ _; rw [h3]; exact List.mem_cons_self
      · exact List.mem_cons_of_mem _ h3
    · rcases List.mem_cons.mp hy with rfl | hy
      · exact h1
      · exact h2 y hy
def extK (F : List Int → Int) (S : Sg) : Option (List D) → Res R
  | some l => (match intsOf l with
    | some ns => if 0 < ns.length then .ok (.p (.int (F ns))) S else .bad
    | none => .bad)
  | none => .bad
def opMaxL : R → M R := fun x S => extK maxI S (getLst x S)
def opMinL : R → M R := fun x S => extK minI S (getLst x S)
theorem cd_maxL (hK : X.K = c.K) : CallD c W (op1 opMaxL) (rMax X.K) :=
  cd_one (r := fun v H Q => rMax X.K [v] H Q) (by
    intro Γ S σ H x v Q F hv P
    unfold opMaxL extK at P
    cases hl : getLst x S with
    | none => rw [hl] at P; exact P.elim
    | some l =>
      rw [hl] at P
      simp only at P
      cases hb : intsOf l with
      | none => rw [hb] at P; exact P.elim
      | some ns =>
        rw [hb] at P
        simp only at P
        by_cases h0 : 0 < ns.length
        · rw [if_pos h0] at P
          obtain ⟨a, vs, rfl, h1, h2⟩ := getLst_ok F hv hl
          rw [intsOf_some hb] at h2
          rw [h2.ints] at h1
          obtain ⟨k1, k2⟩ := maxI_ok h0
          refine ⟨a, ns, rfl, hK ▸ h1, h0, fun m hm hy => ?_⟩
          have : m = maxI ns := by have := hy _ k1; have := k2 m hm; omega
          subst this
          exact Post.ok (c := c) (W := W) P Gh.le.refl F _ RepR.mkI
        · rw [if_neg h0] at P; exact P.elim) (fun v H Q h => h)
theorem cd_minL (hK : X.K = c.K) : CallD c W (op1 opMinL) (rMin X.K) :=
  cd_one (r := fun v H Q => rMin X.K [v] H Q) (by
    intro Γ S σ H x v Q F hv P
    unfold opMinL extK at P
    cases hl : getLst x S with
    | none => rw [hl] at P; exact P.elim
    | some l =>
      rw [hl] at P
      simp only at P
      cases hb : intsOf l with
      | none => rw [hb] at P; exact P.elim
      | some ns =>
        rw [hb] at P
        simp only at P
        by_cases h0 : 0 < ns.length
        · rw [if_pos h0] at P
          obtain ⟨a, vs, rfl, h1, h2⟩ := getLst_ok F hv hl
          rw [intsOf_some hb] at h2
          rw [h2.ints] at h1
          obtain ⟨k1, k2⟩ := minI_ok h0
          refine ⟨a, ns, rfl, hK ▸ h1, h0, fun m hm hy => ?_⟩
          have : m = minI ns := by have := hy _ k1; have := k2 m hm; omega
          subst this
          exact Post.ok (c := c) (W := W) P Gh.le.refl F _ RepR.mkI
        · rw [if_neg h0] at P; exact P.elim) (fun v H Q h => h)
theorem e_max1 (hK : X.K = c.K) (hc : X.calm = true) (hm : X.mg "max" = none) (ha : PE X a (rdE c W f)) (hg : Gl X "max" := by rfl) (he : starEach [a] X.env = (false, eval a X.env) :: starEach [] X.env := by rfl) (hpl : (backTo pos (starEach [] X.env)).any (·.1) = false := by rfl) :
    PE X (.Call (.Name "max" p) [a] [] pos) (rdE c W (opA (op1 opMaxL) (aC f aN))) := se_callB (cr_max hc) (cd_maxL hK) hg hm (by decide +kernel) (sa_cons ha sa_nil he) (by decide) (by decide) he hpl
theorem e_min1 (hK : X.K = c.K) (hc : X.calm = true) (hm : X.mg "min" = none) (ha : PE X a (rdE c W f)) (hg : Gl X "min" := by rfl) (he : starEach [a] X.env = (false, eval a X.env) :: starEach [] X.env := by rfl) (hpl : (backTo pos (starEach [] X.env)).any (·.1) = false := by rfl) :
    PE X (.Call (.Name "min" p) [a] [] pos) (rdE c W (opA (op1 opMinL) (aC f aN))) := se_callB (cr_min hc) (cd_minL hK) hg hm (by decide +kernel) (sa_cons ha sa_nil he) (by decide) (by decide) he hpl
/-! ### [*a, *b] -/
def ofD : List D → List R := List.map R.p
def aS (f : M R) (g : M (List R)) : M (List R) := do
  let x ← f
  fun S => match getL x S with
    | some l => (match g S with
      | .ok ys S2 => .ok (ofD l ++ ys) S2
      | .exc z S2 => .exc z S2
      | .bad => .bad)
    | none => .bad
theorem RepRL.ofD {Γ : Gh} : ∀ {l : List D} {vs : List V}, RepL c Γ.G l vs → RepRL c Γ (ofD l) vs
  | [], vs, h => RepL.nil_iff.mp h
  | d :: ds, vs, h => by
    obtain ⟨v, r, rfl, h1, h2⟩ := RepL.cons_iff.mp h
    exact ⟨v, r, rfl, h1, RepRL.ofD h2⟩
theorem RepRL.app {Γ : Gh} : ∀ {xs ys : List R} {vs ws : List V}, RepRL c Γ xs vs → RepRL c Γ ys ws → RepRL c Γ (xs ++ ys) (vs ++ ws)
  | [], ys, vs, ws, h, k => by rw [show vs = [] from h]; exact k
  | x :: xs, ys, vs, ws, h, k => by
    obtain ⟨v, r, rfl, h1, h2⟩ := h
    exact ⟨v, r ++ ws, rfl, h1, RepRL.app h2 k⟩
theorem sa_star (hK : X.K = c.K) (ha : PE X e (rdE c W f)) (hr : PA X es (rdA c W g)) (hs : starEach (.Starred e p :: es) X.env = (true, eval e X.env) :: starEach es X.env := by rfl) : PA X (.Starred e p :: es) (rdA c W (aS f g)) :=
  sa_of (StX.pa_star ha hr hs) fun σ H Q q => by
    obtain ⟨Γ, S, F, P⟩ := q
    refine ⟨Γ, S, F, ?_⟩
    refine (Post.bind P).imp fun x S1 Γ1 H1 e1 F1 ⟨_, P1⟩ v hv => ?_
    cases q : getL x S1 with
    | none => rw [q] at P1; exact P1.elim
    | some l =>
      rw [q] at P1
      have P1 : Post c W σ Γ1 (match g S1 with
        | .ok ys S2 => .ok (ofD l ++ ys) S2
        | .exc z S2 => .exc z S2
        | .bad => .bad) _ := P1
      obtain ⟨a, vs, rfl, h1, h2⟩ := getL_ok F1 hv q
      refine ⟨a, vs, rfl, by rw [hK]; exact h1.symm, Γ1, S1, F1, ?_⟩
      cases q2 : g S1 with
      | bad => rw [q2] at P1; exact P1
      | exc z S2 => rw [q2] at P1; exact P1
      | ok ys S2 =>
        rw [q2] at P1
        intro Γ2 H2 e2 F2 ws hws
        exact P1 Γ2 H2 e2 F2 (vs ++ ws) (RepRL.app (RepRL.ofD (RepL.mono e2.g h2)) hws)
end
end Dd

set_option Elab.async false
set_option linter.all false
set_option maxRecDepth 100000
namespace Dd
open PySem PySem.Spec PyProof.Rows L2
/-! ### meanings, worked out -/
/-- what simp shall not look into: k stands fixed, since u's type speaks of it -/
structure Pk {α β : Type} (k : α → Sg → Res β) : Type where
def Res.bnd {α β : Type} (r : Res α) (k : α → Sg → Res β) (u : Pk k := ⟨⟩) : Res β := match r with
  | .ok a S => k a S
  | .exc x S => .exc x S
  | .bad => .bad
theorem bnd_ext {α β : Type} {r : Res α} {k k' : α → Sg → Res β} (h : ∀ a S, k a S = k' a S) : r.bnd k = r.bnd k' := by
  have : k = k' := by funext a S; exact h a S
  subst this; rfl
section
variable {α β : Type}
theorem bnd_ok {a : α} {S : Sg} {k : α → Sg → Res β} : (Res.ok a S).bnd k = k a S := Eq.trans rfl rfl
theorem bnd_exc {x : Xn} {S : Sg} {k : α → Sg → Res β} : (Res.exc x S).bnd k = .exc x S := Eq.trans rfl rfl
theorem bnd_bad {k : α → Sg → Res β} : (Res.bad).bnd k = .bad := Eq.trans rfl rfl
theorem bind_bnd (f : M α) (g : α → M β) (S : Sg) : (f >>= g) S = (f S).bnd g := by rw [bind_ap]; cases f S <;> rfl
def ifK (h1 h2 : M α) (b : Bool) (S : Sg) : Res α := if b = true then h1 S else h2 S
theorem ifK_t {h1 h2 : M α} {S : Sg} : ifK h1 h2 true S = h1 S := Eq.trans rfl rfl
theorem ifK_f {h1 h2 : M α} {S : Sg} : ifK h1 h2 false S = h2 S := Eq.trans rfl rfl
theorem ifK_d {h1 h2 : M α} {S : Sg} {p : Prop} [Decidable p] : ifK h1 h2 (decide p) S = if p then h1 S else h2 S := by unfold ifK; by_cases h : p <;> simp [h]
theorem ifK_n {h1 h2 : M α} {S : Sg} {b : Bool} : ifK h1 h2 (!b) S = ifK h2 h1 b S := by cases b <;> rfl
theorem ifK_same {h1 : M α} {S : Sg} {b : Bool} : ifK h1 h1 b S = h1 S := by cases b <;> rfl
/-! statements -/
def seqK (h : M Fl) : Fl → Sg → Res Fl
  | .nx, S => h S
  | x, S => .ok x S
theorem seqK_nx {h : M Fl} {S : Sg} : seqK h .nx S = h S := Eq.trans rfl rfl
theorem seqK_rt {h : M Fl} {S : Sg} {x : R} : seqK h (.rt x) S = .ok (.rt x) S := Eq.trans rfl rfl
theorem seqK_bk {h : M Fl} {S : Sg} : seqK h .bk S = .ok .bk S := Eq.trans rfl rfl
theorem seqK_ct {h : M Fl} {S : Sg} : seqK h .ct S = .ok .ct S := Eq.trans rfl rfl
theorem sSq_ap (h1 h2 : M Fl) (S : Sg) : sSq h1 h2 S = (h1 S).bnd (seqK h2) := by
  unfold sSq
  rw [bind_ap]
  cases h1 S with
  | ok a S' => cases a <;> rfl
  | exc x S' => rfl
  | bad => rfl
theorem sIf_ap (t : M Bool) (h1 h2 : M Fl) (S : Sg) : sIf t h1 h2 S = (t S).bnd (ifK h1 h2) := by
  unfold sIf
  rw [bind_bnd]
  refine bnd_ext fun b S' => ?_
  cases b <;> rfl
theorem sRt_ap (f : M R) (S : Sg) : sRt f S = (f S).bnd fun x S => .ok (.rt x) S := by unfold sRt; rw [bind_bnd]; rfl
theorem sRtN_ap (S : Sg) : sRtN S = .ok (.rt (.p .non)) S := Eq.trans rfl rfl
theorem sNx_ap (S : Sg) : sNx S = .ok .nx S := Eq.trans rfl rfl
theorem sBad_ap (S : Sg) : sBad S = .bad := Eq.trans rfl rfl
theorem sBk_ap (S : Sg) : sBk S = .ok .bk S := Eq.trans rfl rfl
theorem sCt_ap (S : Sg) : sCt S = .ok .ct S := Eq.trans rfl rfl
theorem sEx_ap (f : M R) (S : Sg) : sEx f S = (f S).bnd fun _ S => .ok .nx S := by unfold sEx; rw [bind_bnd]; rfl
theorem sSet_ap (i : Nat) (f : M R) (S : Sg) : sSet i f S = (f S).bnd fun x S => .ok .nx ⟨S.sl.set i (some x), S.st⟩ := by unfold sSet; rw [bind_bnd]; rfl
theorem sAsg_ap (f : M R) (t : Tg) (S : Sg) : sAsg f t S = (f S).bnd fun x S => (pure1 x S).bnd fun d S => (t d S).bnd fun _ S => .ok .nx S := by
  unfold sAsg
  simp only [bind_bnd]
  rfl
theorem sSub_ap (f fo fi : M R) (S : Sg) : sSub f fo fi S = (f S).bnd fun x S => (pure1 x S).bnd fun d S => (fo S).bnd fun o S => (fi S).bnd fun i S => (setAt o i d S).bnd fun _ S => .ok .nx S := by
  unfold sSub
  simp only [bind_bnd]
  rfl
def sParK (i j : Nat) : List R → Sg → Res Fl
  | x :: y :: [], S => .ok .nx ⟨(S.sl.set i (some x)).set j (some y), S.st⟩
  | _, _ => .bad
theorem sPar_ap (i j : Nat) (g : M (List R)) (S : Sg) : sPar i j g S = (g S).bnd (sParK i j) := by
  unfold sPar
  rw [bind_bnd]
  refine bnd_ext fun xs S' => ?_
  match xs with
  | [] => rfl
  | [x] => rfl
  | [x, y] => rfl
  | x :: y :: z :: r => rfl
theorem sParK_ap {i j : Nat} {x y : R} {S : Sg} : sParK i j [x, y] S = .ok .nx ⟨(S.sl.set i (some x)).set j (some y), S.st⟩ := Eq.trans rfl rfl
def sParK3 (i j l : Nat) : List R → Sg → Res Fl
  | x :: y :: z :: [], S => .ok .nx ⟨((S.sl.set i (some x)).set j (some y)).set l (some z), S.st⟩
  | _, _ => .bad
theorem sPar3_ap (i j l : Nat) (g : M (List R)) (S : Sg) : sPar3 i j l g S = (g S).bnd (sParK3 i j l) := by
  unfold sPar3
  rw [bind_bnd]
  refine bnd_ext fun xs S' => ?_
  match xs with
  | [] => rfl
  | [x] => rfl
  | [x, y] => rfl
  | [x, y, z] => rfl
  | x :: y :: z :: u :: r => rfl
theorem sParK3_ap {i j l : Nat} {x y z : R} {S : Sg} : sParK3 i j l [x, y, z] S = .ok .nx ⟨((S.sl.set i (some x)).set j (some y)).set l (some z), S.st⟩ := Eq.trans rfl rfl
theorem sFor_ap (it : M (Itm α)) (t : α → M Unit) (h : M Fl) (S : Sg) : sFor it t h S = (it S).bnd fun I S => loopL I.ok (fun d => t d >>= fun _ => h) I.l S := by unfold sFor; rw [bind_bnd]
def fldK (k : Nat) (f' : Str) (d : D) (o : R) (S : Sg) : Res Fl := match o with
  | .r n => match S.st[n]? with
    | some (.mu (.obj k' fs)) => if k' = k ∧ fs.length < 900 then .ok .nx { S with st := S.st.set n (.mu (.obj k' (putD f' d fs))) } else .bad
    | _ => .bad
  | _ => .bad
theorem sFld_ap (k : Nat) (f' : Str) (fo f : M R) (S : Sg) : sFld k f' fo f S = (f S).bnd fun x S => (pure1 x S).bnd fun d S => (fo S).bnd fun o S => fldK k f' d o S := by
  unfold sFld
  simp only [bind_bnd]
  rfl
/-! values -/
def getK : Option (Option R) → Sg → Res R
  | some (some x), S => .ok x S
  | _, _ => .bad
theorem vr_ap (i : Nat) (S : Sg) : vr i S = getK S.sl[i]? S := by
  unfold vr getK
  cases S.sl[i]? with
  | none => rfl
  | some o => cases o <;> rfl
theorem getK_ap {x : R} {S : Sg} : getK (some (some x)) S = .ok x S := Eq.trans rfl rfl
theorem ci_ap (i : Int) (S : Sg) : ci i S = .ok (.p (.int i)) S := Eq.trans rfl rfl
theorem cb_ap (i : Bool) (S : Sg) : cb i S = .ok (.p (.bl i)) S := Eq.trans rfl rfl
theorem cn_ap (S : Sg) : cn S = .ok (.p .non) S := Eq.trans rfl rfl
theorem cs_ap (i : Str) (S : Sg) : cs i S = .ok (.p (.str i)) S := Eq.trans rfl rfl
theorem cd_ap (d : D) (S : Sg) : cd d S = .ok (.p d) S := Eq.trans rfl rfl
theorem bin_ap (op : R → R → M R) (f g : M R) (S : Sg) : bin op f g S = (f S).bnd fun x S => (g S).bnd fun y S => op x y S := Eq.trans rfl rfl
theorem uNeg_ap (f : M R) (S : Sg) : uNeg f S = (f S).bnd fun x S => (match x with
    | .p (.int i) => .ok (.p (.int (-i))) S
    | _ => .bad) := rfl
theorem toB_ap {b : Bool} {S : Sg} : toB (.p (.bl b)) S = .ok b S := Eq.trans rfl rfl
theorem tst_ap (f : M R) (S : Sg) : tst f S = (f S).bnd toB := bind_bnd _ _ _
theorem mNot_ap (t : M Bool) (S : Sg) : mNot t S = (t S).bnd fun b S => .ok (!b) S := by unfold mNot; rw [bind_bnd]; rfl
theorem mAnd_ap (t u : M Bool) (S : Sg) : mAnd t u S = (t S).bnd (ifK u fun S => .ok false S) := by
  unfold mAnd; rw [bind_bnd]; refine bnd_ext fun b S' => ?_; cases b <;> rfl
theorem mOr_ap (t u : M Bool) (S : Sg) : mOr t u S = (t S).bnd (ifK (fun S => .ok true S) u) := by
  unfold mOr; rw [bind_bnd]; refine bnd_ext fun b S' => ?_; cases b <;> rfl
theorem eAnd_ap (f g : M R) (S : Sg) : eAnd f g S = (f S).bnd fun x S => (toB x S).bnd (ifK g fun S => .ok (.p (.bl false)) S) := by
  unfold eAnd; rw [bind_bnd, tst_ap]
  cases f S with
  | ok x S1 => show (toB x S1).bnd _ = (toB x S1).bnd _; refine bnd_ext fun b S' => ?_; cases b <;> rfl
  | exc x S1 => rfl
  | bad => rfl
theorem eOr_ap (f g : M R) (S : Sg) : eOr f g S = (f S).bnd fun x S => (toB x S).bnd (ifK (fun S => .ok (.p (.bl true)) S) g) := by
  unfold eOr; rw [bind_bnd, tst_ap]
  cases f S with
  | ok x S1 => show (toB x S1).bnd _ = (toB x S1).bnd _; refine bnd_ext fun b S' => ?_; cases b <;> rfl
  | exc x S1 => rfl
  | bad => rfl
theorem eNot_ap (f : M R) (S : Sg) : eNot f S = (f S).bnd fun x S => (toB x S).bnd fun b S => .ok (.p (.bl (!b))) S := by
  unfold eNot; rw [bind_bnd, tst_ap]
  cases f S <;> rfl
theorem eIf_ap (t : M Bool) (f g : M R) (S : Sg) : eIf t f g S = (t S).bnd (ifK f g) := by
  unfold eIf; rw [bind_bnd]; refine bnd_ext fun b S' => ?_; cases b <;> rfl
theorem eChain_ap (op op' : R → R → M R) (f g h : M R) (S : Sg) : eChain op op' f g h S = (f S).bnd fun x S => (g S).bnd fun y S => (op x y S).bnd fun z S => (toB z S).bnd (ifK (fun S => (h S).bnd fun w S => op' y w S) fun S => .ok (.p (.bl false)) S) := by
  unfold eChain
  rw [bind_bnd]
  refine bnd_ext fun x S1 => ?_
  rw [bind_bnd]
  refine bnd_ext fun y S2 => ?_
  rw [bind_bnd]
  refine bnd_ext fun z S3 => ?_
  rw [bind_bnd]
  refine bnd_ext fun b S4 => ?_
  cases b <;> rfl
theorem aN_ap (S : Sg) : aN S = .ok [] S := Eq.trans rfl rfl
theorem aC_ap (f : M R) (g : M (List R)) (S : Sg) : aC f g S = (f S).bnd fun x S => (g S).bnd fun xs S => .ok (x :: xs) S := by
  unfold aC; simp only [bind_bnd]; rfl
theorem pur_ap (f : M R) (S : Sg) : pur f S = (f S).bnd fun x S => (pure1 x S).bnd fun d S => .ok (.p d) S := by unfold pur; simp only [bind_bnd]; rfl
theorem pure1_p {d : D} {S : Sg} : pure1 (.p d) S = .ok d S := Eq.trans rfl rfl
theorem pure1_r {n : Nat} {S : Sg} : pure1 (.r n) S = pureC n S S.st[n]? := Eq.trans rfl rfl
theorem pureC_lst {n : Nat} {S : Sg} {l : List D} : pureC n S (some (.mu (.lst l))) = .ok (.lst l) { S with st := S.st.set n (.fz l) } := Eq.trans rfl rfl
theorem pureC_fz {n : Nat} {S : Sg} {l : List D} : pureC n S (some (.fz l)) = .ok (.lst l) S := Eq.trans rfl rfl
theorem pureC_obj {n k : Nat} {S : Sg} {fs : List (Str × D)} {d : D} (h : objD k fs = some d) : pureC n S (some (.mu (.obj k fs))) = .ok d { S with st := S.st.set n .dead } := by
  unfold pureC; simp only [h]
theorem pureL_nil (S : Sg) : pureL [] S = .ok [] S := Eq.trans rfl rfl
theorem pureL_cons (x : R) (xs : List R) (S : Sg) : pureL (x :: xs) S = (pure1 x S).bnd fun d S => (pureL xs S).bnd fun ds S => .ok (d :: ds) S := by
  show (pure1 x >>= fun d => pureL xs >>= fun ds => pure (d :: ds)) S = _
  simp only [bind_bnd]; rfl
theorem tupE_ap (g : M (List R)) (S : Sg) : tupE g S = (g S).bnd fun xs S => (pureL xs S).bnd fun ds S => allocT ds S := Eq.trans rfl rfl
theorem lstE_ap (g : M (List R)) (S : Sg) : lstE g S = (g S).bnd fun xs S => (pureL xs S).bnd fun ds S => allocL ds S := Eq.trans rfl rfl
theorem allocT_ap {ds : List D} {S : Sg} (h : ds.length ≤ 1000) : allocT ds S = .ok (.p (.tup ds)) S := if_pos (Nat.le_trans h (by rw [sizeLine_eq]; decide))
theorem allocL_ap {ds : List D} {S : Sg} (h : ds.length ≤ 1000) : allocL ds S = .ok (.r S.st.length) ⟨S.sl, S.st ++ [.mu (.lst ds)]⟩ := if_pos (Nat.le_trans h (by rw [sizeLine_eq]; decide))
/-! calls -/
def callK (F : Fn) (n : Nat) (xs : List R) (S : Sg) : Res R := if xs.length = n then applyF S (F xs S.st) else .bad
theorem callM_ap (F : Fn) (n : Nat) (g : M (List R)) (S : Sg) : callM F n g S = (g S).bnd (callK F n) := by unfold callM; rw [bind_bnd]; rfl
theorem callK_ap {F : Fn} {n : Nat} {xs : List R} {S : Sg} (h : xs.length = n) : callK F n xs S = applyF S (F xs S.st) := if_pos h
theorem applyF_val {S : Sg} {d : D} {st : Store} : applyF S (.ok (.val d) st) = .ok (.p d) ⟨S.sl, st⟩ := Eq.trans rfl rfl
theorem applyF_new {S : Sg} {o : Con} {st : Store} : applyF S (.ok (.new o) st) = .ok (.r st.length) ⟨S.sl, st ++ [.mu o]⟩ := Eq.trans rfl rfl
theorem applyF_if {S : Sg} {p : Prop} [Decidable p] {a b : FRes} : applyF S (if p then a else b) = if p then applyF S a else applyF S b := by split <;> rfl
theorem bnd_if {p : Prop} [Decidable p] {a b : Res α} {k : α → Sg → Res β} : (if p then a else b).bnd k = if p then a.bnd k else b.bnd k := by split <;> rfl
theorem runF_ap (n : Nat) (h : M Fl) (xs : List R) (st : Store) : runF n h xs st = finish st.length (h ⟨xs.map some ++ List.replicate (n - xs.length) none, st⟩) := Eq.trans rfl rfl
theorem finish_nx {b : Nat} {S : Sg} : finish b (.ok .nx S) = .ok (.val .non) (S.st.take b) := Eq.trans rfl rfl
theorem finish_p {b : Nat} {S : Sg} {d : D} : finish b (.ok (.rt (.p d)) S) = .ok (.val d) (S.st.take b) := Eq.trans rfl rfl
theorem finish_r {b n : Nat} {S : Sg} : finish b (.ok (.rt (.r n)) S) = finishR b S.st (.r n) := Eq.trans rfl rfl
theorem finish_if {b : Nat} {p : Prop} [Decidable p] {x y : Res Fl} : finish b (if p then x else y) = if p then finish b x else finish b y := by split <;> rfl
theorem finishR_mu {b n : Nat} {st : Store} {o : Con} (h : st[n]? = some (.mu o)) (hb : b ≤ n) : finishR b st (.r n) = .ok (.new o) (st.take b) := by
  unfold finishR; simp only [h, if_pos hb]
theorem finishR_fz {b n : Nat} {st : Store} {l : List D} (h : st[n]? = some (.fz l)) (hb : b ≤ n) : finishR b st (.r n) = .ok (.val (.lst l)) (st.take b) := by
  unfold finishR; simp only [h, if_pos hb]
def makeK (k : Nat) (F : Fn) (n : Nat) (xs : List R) (S : Sg) : Res R := if xs.length + 1 = n then (match F (.r S.st.length :: xs) (S.st ++ [.mu (.obj k [])]) with
    | .ok (.val .non) st => .ok (.r S.st.length) ⟨S.sl, st⟩
    | .exc x st => .exc x ⟨S.sl, st⟩
    | _ => .bad) else .bad
theorem makeU_ap (k : Nat) (F : Fn) (n : Nat) (g : M (List R)) (S : Sg) : makeU k F n g S = (g S).bnd (makeK k F n) := by unfold makeU; rw [bind_bnd]; rfl
theorem opA_ap (op : List R → M R) (g : M (List R)) (S : Sg) : opA op g S = (g S).bnd op := bind_bnd _ _ _
theorem op1_ap (op : R → M R) (x : R) (S : Sg) : op1 op [x] S = op x S := Eq.trans rfl rfl
def methK (chk : R → Sg → Bool) (op : R → List R → M R) (g : M (List R)) (x : R) (S : Sg) : Res R := if chk x S = true then (g S).bnd (op x) else .bad
theorem methM_ap (chk : R → Sg → Bool) (op : R → List R → M R) (f : M R) (g : M (List R)) (S : Sg) : methM chk op f g S = (f S).bnd (methK chk op g) := by
  unfold methM; rw [bind_bnd]; rfl
def attrK (k : Nat) (f' : Str) (x : R) (S : Sg) : Res R := match insOf x S with
    | some (k', fs) => if k' = k then (match fs.lookup f' with
      | some d => .ok (.p d) S
      | none => .bad) else .bad
    | none => .bad
theorem attrU_ap (k : Nat) (f' : Str) (f : M R) (S : Sg) : attrU k f' f S = (f S).bnd (attrK k f') := by unfold attrU; rw [bind_bnd]; rfl
theorem attrK_scr {l : List D} {S : Sg} : attrK 0 "own_levels" (.p (.scr l)) S = .ok (.p (.tup l)) S := Eq.trans rfl rfl
def propK (k : Nat) (F : Fn) (x : R) (S : Sg) : Res R := match insOf x S with
    | some (k', _) => if k' = k then (match F [x] S.st with
      | .exc _ _ => .bad
      | r => applyF S r) else .bad
    | none => .bad
theorem propU_ap (k : Nat) (F : Fn) (f : M R) (S : Sg) : propU k F f S = (f S).bnd (propK k F) := by unfold propU; rw [bind_bnd]; rfl
theorem propK_scr {F : Fn} {l : List D} {S : Sg} {d : D} {st : Store} (h : F [.p (.scr l)] S.st = .ok (.val d) st) : propK 0 F (.p (.scr l)) S = .ok (.p d) ⟨S.sl, st⟩ := by
  unfold propK
  show (if (0 : Nat) = 0 then (match F [.p (.scr l)] S.st with | .exc _ _ => Res.bad | r => applyF S r) else Res.bad) = _
  rw [if_pos rfl, h]
  rfl
def isK (n : String) (x : R) (S : Sg) : Res R := match kindR x S with
    | some t => .ok (.p (.bl (subTy t n))) S
    | none => match insOf x S with
      | some q => if q.1 = 0 then .ok (.p (.bl false)) S else .bad
      | none => .bad
theorem isB_ap (n : String) (f : M R) (S : Sg) : isB n f S = (f S).bnd (isK n) := by unfold isB; rw [bind_bnd]; rfl
def isCK (k : Nat) (x : R) (S : Sg) : Res R := match kindR x S with
    | some _ => .ok (.p (.bl false)) S
    | none => match insOf x S with
      | some q => if q.1 = k then .ok (.p (.bl true)) S else .bad
      | none => .bad
theorem isC_ap (k : Nat) (f : M R) (S : Sg) : isC k f S = (f S).bnd (isCK k) := by unfold isC; rw [bind_bnd]; rfl
theorem isCK_scr {l : List D} {S : Sg} : isCK 0 (.p (.scr l)) S = .ok (.p (.bl true)) S := Eq.trans rfl rfl
theorem isK_p {n t : String} {d : D} {S : Sg} (h : kindD d = some t) : isK n (.p d) S = .ok (.p (.bl (subTy t n))) S := by unfold isK kindR; simp only [h]
/-! what is walked -/
theorem itL_ap (f : M R) (S : Sg) : itL f S = (f S).bnd fun x S => (match getL x S with
    | some l => .ok ⟨fun S' => getL x S' = some l, l⟩ S
    | none => .bad) := Eq.trans rfl rfl
theorem itE_ap (f : M R) (S : Sg) : itE f S = (f S).bnd fun x S => (match getL x S with
    | some l => .ok ⟨fun S' => getL x S' = some l, numbered 0 l⟩ S
    | none => .bad) := Eq.trans rfl rfl
theorem itR1_ap (g : M (List R)) (S : Sg) : itR1 g S = (g S).bnd fun xs S => (match asI1 xs with
    | some j => if -(2 ^ 62) ≤ j ∧ j < 2 ^ 62 then .ok ⟨fun _ => True, intsFrom 0 j.toNat⟩ S else .bad
    | none => .bad) := Eq.trans rfl rfl
theorem gN_ap (i : Nat) (d : D) (S : Sg) : gN i d S = .ok () ⟨S.sl.set i (some (.p d)), S.st⟩ := Eq.trans rfl rfl
theorem gsN_ap (S : Sg) : gsN [] S = .ok () S := Eq.trans rfl rfl
theorem gsC_ap (t : Tg) (u : List D → M Unit) (d : D) (r : List D) (S : Sg) : gsC t u (d :: r) S = (t d S).bnd fun _ S => u r S := bind_bnd _ _ _
theorem gT_ap {n : Nat} {u : List D → M Unit} {l : List D} {S : Sg} (h : l.length = n) : gT n u (.tup l) S = u l S := if_pos h
theorem gL_ap {n : Nat} {u : List D → M Unit} {l : List D} {S : Sg} (h : l.length = n) : gL n u (.lst l) S = u l S := if_pos h
theorem getL_tup {l : List D} {S : Sg} : getL (.p (.tup l)) S = some l := Eq.trans rfl rfl
theorem getL_lst {l : List D} {S : Sg} : getL (.p (.lst l)) S = some l := Eq.trans rfl rfl
theorem getL_scp {l : List D} {S : Sg} : getL (.p (.scp l)) S = some l := Eq.trans rfl rfl
theorem getL_mu {n : Nat} {l : List D} {S : Sg} (h : S.st[n]? = some (.mu (.lst l))) : getL (.r n) S = some l := by unfold getL; simp only [h]
theorem getL_fz {n : Nat} {l : List D} {S : Sg} (h : S.st[n]? = some (.fz l)) : getL (.r n) S = some l := by unfold getL; simp only [h]
theorem loop_nil {ok : Sg → Prop} {body : α → M Fl} {S : Sg} (h : ok S) : loopL ok body [] S = .ok .nx S := loopL_nil h
noncomputable def loopK (ok : Sg → Prop) (body : α → M Fl) (ds : List α) : Fl → Sg → Res Fl
  | .nx, S => loopL ok body ds S
  | .ct, S => loopL ok body ds S
  | .bk, S => .ok .nx S
  | .rt x, S => .ok (.rt x) S
theorem loop_cons {ok : Sg → Prop} {body : α → M Fl} {d : α} {ds : List α} {S : Sg} (h : ok S) : loopL ok body (d :: ds) S = (body d S).bnd (loopK ok body ds) := by
  rw [loopL_cons h]
  cases body d S with
  | ok a S' => cases a <;> rfl
  | exc x S' => rfl
  | bad => rfl
/-- a loop that is gone through to its end -/
theorem loop_inv {ok : Sg → Prop} {body : α → M Fl} (I : Nat → Sg → Prop) : ∀ (l : List α) (i : Nat) (S : Sg), I i S → (∀ j S, I j S → ok S) → (∀ j d S, l[j]? = some d → I (i + j) S → ∃ S', (body d S = .ok .nx S' ∨ body d S = .ok .ct S') ∧ I (i + j + 1) S') → ∃ S', loopL ok body l S = .ok .nx S' ∧ I (i + l.length) S'
  | [], i, S, h0, hok, hs => ⟨S, loopL_nil (hok _ _ h0), h0⟩
  | d :: ds, i, S, h0, hok, hs => by
    obtain ⟨S1, e, h1⟩ := hs 0 d S rfl h0
    have := loop_inv I ds (i + 1) S1 h1 hok fun j d' S' hj hI => by
      have := hs (j + 1) d' S' hj (by rw [show i + (j + 1) = i + 1 + j by omega]; exact hI)
      rw [show i + (j + 1) + 1 = i + 1 + j + 1 by omega] at this
      exact this
    obtain ⟨S2, e2, h2⟩ := this
    refine ⟨S2, ?_, by rw [List.length_cons, show i + (ds.length + 1) = i + 1 + ds.length by omega]; exact h2⟩
    rw [loop_cons (hok _ _ h0)]
    rcases e with e | e <;> rw [e] <;> exact e2
end
end Dd

set_option Elab.async false
set_option linter.all false
set_option maxRecDepth 100000
set_option exponentiation.threshold 2000
namespace Dd
open PySem PySem.Spec PyProof.Rows L2
/-! ### operations, worked out -/
section
variable {S : Sg} {i j : Int}
theorem opAdd_i : opAdd (.p (.int i)) (.p (.int j)) S = .ok (.p (.int (i + j))) S := Eq.trans rfl rfl
theorem opSub_i : opSub (.p (.int i)) (.p (.int j)) S = .ok (.p (.int (i - j))) S := Eq.trans rfl rfl
theorem opMul_i (h : CMulW i j) : opMul (.p (.int i)) (.p (.int j)) S = .ok (.p (.int (i * j))) S := by
  show (if CMulW i j then _ else _) = _
  exact if_pos h
theorem opDiv_i (h : CDivW i j) : opDiv (.p (.int i)) (.p (.int j)) S = .ok (.p (.int (i / j))) S := if_pos h
theorem opMod_i (h : 0 < j) : opMod (.p (.int i)) (.p (.int j)) S = .ok (.p (.int (i % j))) S := if_pos h
theorem opPow_i (h : CPowW i j) : opPow (.p (.int i)) (.p (.int j)) S = .ok (.p (.int (i ^ j.toNat))) S := if_pos h
theorem opShl_i (h : CShl i j) : opShl (.p (.int i)) (.p (.int j)) S = .ok (.p (.int (i * 2 ^ j.toNat))) S := if_pos h
theorem opShr_i (h : 0 ≤ j) : opShr (.p (.int i)) (.p (.int j)) S = .ok (.p (.int (i / 2 ^ j.toNat))) S := if_pos h
theorem opBand_i : opBand (.p (.int i)) (.p (.int j)) S = .ok (.p (.int (Builtin.bitAnd i j))) S := Eq.trans rfl rfl
theorem opLt_i : opLt (.p (.int i)) (.p (.int j)) S = .ok (.p (.bl (decide (i < j)))) S := Eq.trans rfl rfl
theorem opLe_i : opLe (.p (.int i)) (.p (.int j)) S = .ok (.p (.bl (decide (i ≤ j)))) S := Eq.trans rfl rfl
theorem opGt_i : opGt (.p (.int i)) (.p (.int j)) S = .ok (.p (.bl (decide (j < i)))) S := Eq.trans rfl rfl
theorem opGe_i : opGe (.p (.int i)) (.p (.int j)) S = .ok (.p (.bl (decide (j ≤ i)))) S := Eq.trans rfl rfl
theorem opEqD_i : opEqD (.p (.int i)) (.p (.int j)) S = .ok (.p (.bl (decide (i = j)))) S := by
  show (if SeqAt.shaped (.int i) = true ∧ SeqAt.shaped (.int j) = true then Res.ok (R.p (.bl (PyData.eqv (.int i) (.int j)))) S else .bad) = _
  rw [if_pos ⟨rfl, rfl⟩]
  rfl
theorem opNeD_i : opNeD (.p (.int i)) (.p (.int j)) S = .ok (.p (.bl (!decide (i = j)))) S := by
  show (if SeqAt.shaped (.int i) = true ∧ SeqAt.shaped (.int j) = true then Res.ok (R.p (.bl (!PyData.eqv (.int i) (.int j)))) S else .bad) = _
  rw [if_pos ⟨rfl, rfl⟩]
  rfl
theorem opInt_i : opInt (.p (.int i)) S = .ok (.p (.int i)) S := Eq.trans rfl rfl
theorem opInt_b {b : Bool} : opInt (.p (.bl b)) S = .ok (.p (.int (if b = true then 1 else 0))) S := Eq.trans rfl rfl
theorem opAbs_i : opAbs (.p (.int i)) S = .ok (.p (.int (if i < 0 then -i else i))) S := Eq.trans rfl rfl
theorem opMax2_i : opMax2 [.p (.int i), .p (.int j)] S = .ok (.p (.int (max i j))) S := Eq.trans rfl rfl
theorem opMin2_i : opMin2 [.p (.int i), .p (.int j)] S = .ok (.p (.int (min i j))) S := Eq.trans rfl rfl
theorem opLen_of {x : R} {l : List D} (h : getL x S = some l) : opLen x S = .ok (.p (.int (l.length : Nat))) S := by unfold opLen; simp only [h]
theorem opIx_of {x : R} {l : List D} {i : Int} {d : D} (h : getL x S = some l) (h2 : L2.atI l i = some d) : opIx x (.p (.int i)) S = .ok (.p d) S := by
  unfold opIx; simp only [asI, h, h2]
theorem atI_nat {α : Type} {l : List α} {k : Nat} {d : α} (h : l[k]? = some d) : L2.atI l (k : Int) = some d := by
  have hl := (List.getElem?_eq_some_iff.mp h).1
  unfold L2.atI L2.ixN
  rw [if_pos (by omega), if_pos (by omega)]
  simpa using h
theorem atI_of {α : Type} {l : List α} {i : Int} {d : α} (h0 : 0 ≤ i) (h : l[i.toNat]? = some d) : L2.atI l i = some d := by
  have := atI_nat h
  rwa [Int.toNat_of_nonneg h0] at this
theorem isK_ii : isK "int" (.p (.int i)) S = .ok (.p (.bl true)) S := by unfold isK; rfl
theorem isK_ib : isK "bool" (.p (.int i)) S = .ok (.p (.bl false)) S := by unfold isK; rfl
theorem isK_tt {l : List D} : isK "tuple" (.p (.tup l)) S = .ok (.p (.bl true)) S := by unfold isK; rfl
theorem isK_ll {l : List D} : isK "list" (.p (.lst l)) S = .ok (.p (.bl true)) S := by unfold isK; rfl
theorem isLst_r {n : Nat} {l : List D} (h : S.st[n]? = some (.mu (.lst l))) : isLst (.r n) S = true := by unfold isLst getLst; simp only [h]; rfl
theorem opApp_of {n : Nat} {l : List D} {y : R} {d : D} {S1 : Sg} (h1 : pure1 y S = .ok d S1) (h : S1.st[n]? = some (.mu (.lst l))) (hl : l.length < 1000000) : opApp (.r n) [y] S = .ok (.p .non) ⟨S1.sl, S1.st.set n (.mu (.lst (l ++ [d])))⟩ := by
  show (pure1 y >>= _) S = _
  rw [bind_bnd, h1]
  show (match S1.st[n]? with | some (.mu (.lst l)) => _ | _ => _) = _
  rw [h]
  exact if_pos (Nat.lt_of_lt_of_le hl (by rw [sizeLine_eq]; decide))
theorem opPopAt_of {n : Nat} {l : List D} {i : Int} {d : D} (h : S.st[n]? = some (.mu (.lst l))) (h0 : 0 ≤ i) (hd : l[i.toNat]? = some d) (hl : l.length < 1000000) : opPopAt (.r n) [.p (.int i)] S = .ok (.p d) ⟨S.sl, S.st.set n (.mu (.lst (l.eraseIdx i.toNat)))⟩ := by
  have hi := (List.getElem?_eq_some_iff.mp hd).1
  have e : L2.ixN l.length i = some i.toNat := by unfold L2.ixN; rw [if_pos h0, if_pos (by omega)]
  have e2 := (L2.ixN_seq e).1
  show (match S.st[n]? with | some (.mu (.lst l)) => _ | _ => _) = _
  rw [h]
  show (if -(2 ^ 63) ≤ i ∧ i < 2 ^ 63 then (match seqIndex? i l.length with | some k => _ | none => _) else _) = _
  rw [if_pos (by omega), e2]
  show (match l[i.toNat]? with | some d => _ | none => _) = _
  rw [hd]
theorem setAt_of {n : Nat} {l : List D} {i : Int} {d : D} (h : S.st[n]? = some (.mu (.lst l))) (h0 : 0 ≤ i) (h1 : i < l.length) : setAt (.r n) (.p (.int i)) d S = .ok () ⟨S.sl, S.st.set n (.mu (.lst (l.set i.toNat d)))⟩ := by
  have e : L2.ixN l.length i = some i.toNat := by unfold L2.ixN; rw [if_pos h0, if_pos h1]
  show (match S.st[n]? with | some (.mu (.lst l)) => _ | _ => _) = _
  rw [h]
  show (match L2.ixN l.length i with | some j => _ | none => _) = _
  rw [e]
def getLK : Option Cell → Option (List D)
  | some (.mu (.lst l)) => some l
  | some (.fz l) => some l
  | _ => none
theorem getLK_mu {l : List D} : getLK (some (.mu (.lst l))) = some l := Eq.trans rfl rfl
theorem getLK_fz {l : List D} : getLK (some (.fz l)) = some l := Eq.trans rfl rfl
theorem getL_r {n : Nat} : getL (.r n) S = getLK S.st[n]? := by
  cases h : S.st[n]? with
  | none => simp only [getL, h, getLK]
  | some c => cases c with
    | mu o => cases o <;> simp only [getL, h, getLK]
    | fz l => simp only [getL, h, getLK]
    | dead => simp only [getL, h, getLK]
theorem getLst_r {n : Nat} : getLst (.r n) S = getLK S.st[n]? := by
  cases h : S.st[n]? with
  | none => simp only [getLst, h, getLK]
  | some c => cases c with
    | mu o => cases o <;> simp only [getLst, h, getLK]
    | fz l => simp only [getLst, h, getLK]
    | dead => simp only [getLst, h, getLK]
theorem getLst_lst {l : List D} : getLst (.p (.lst l)) S = some l := Eq.trans rfl rfl
theorem getLst_scp {l : List D} : getLst (.p (.scp l)) S = some l := Eq.trans rfl rfl
theorem getM_r {n : Nat} : getM (.r n) S = getLK S.st[n]? := by
  cases h : S.st[n]? with
  | none => simp only [getM, h, getLK]
  | some c => cases c with
    | mu o => cases o <;> simp only [getM, h, getLK]
    | fz l => simp only [getM, h, getLK]
    | dead => simp only [getM, h, getLK]
theorem getM_lst {l : List D} : getM (.p (.lst l)) S = some l := Eq.trans rfl rfl
theorem opLen_t {l : List D} : opLen (.p (.tup l)) S = .ok (.p (.int (l.length : Nat))) S := Eq.trans rfl rfl
theorem opLen_l {l : List D} : opLen (.p (.lst l)) S = .ok (.p (.int (l.length : Nat))) S := Eq.trans rfl rfl
theorem opLen_c {l : List D} : opLen (.p (.scp l)) S = .ok (.p (.int (l.length : Nat))) S := Eq.trans rfl rfl
def lenK : Option (List D) → Sg → Res R
  | some l, S => .ok (.p (.int (l.length : Nat))) S
  | none, _ => .bad
theorem lenK_ap {l : List D} : lenK (some l) S = .ok (.p (.int (l.length : Nat))) S := Eq.trans rfl rfl
theorem opLen_r {n : Nat} : opLen (.r n) S = lenK (getLK S.st[n]?) S := by
  unfold opLen
  rw [getL_r]
  cases getLK S.st[n]? <;> rfl
/-- l[i] -/
def ixK (l : List D) (i : Int) (S : Sg) : Res R := match L2.atI l i with
  | some d => .ok (.p d) S
  | none => .bad
theorem ixK_of {l : List D} {d : D} (h : L2.atI l i = some d) : ixK l i S = .ok (.p d) S := by unfold ixK; rw [h]
theorem opIx_t {l : List D} : opIx (.p (.tup l)) (.p (.int i)) S = ixK l i S := Eq.trans rfl rfl
theorem opIx_l {l : List D} : opIx (.p (.lst l)) (.p (.int i)) S = ixK l i S := Eq.trans rfl rfl
theorem opIx_c {l : List D} : opIx (.p (.scp l)) (.p (.int i)) S = ixK l i S := Eq.trans rfl rfl
def ixK' : Option (List D) → Int → Sg → Res R
  | some l, i, S => ixK l i S
  | none, _, _ => .bad
theorem ixK'_ap {l : List D} : ixK' (some l) i S = ixK l i S := Eq.trans rfl rfl
theorem opIx_r {n : Nat} : opIx (.r n) (.p (.int i)) S = ixK' (getLK S.st[n]?) i S := by
  unfold opIx
  simp only [asI]
  rw [getL_r]
  cases getLK S.st[n]? <;> rfl
theorem ixK_0 {l : List D} {d : D} : ixK (d :: l) 0 S = .ok (.p d) S := ixK_of (atI_of (by decide) rfl)
theorem ixK_1 {l : List D} {a d : D} : ixK (a :: d :: l) 1 S = .ok (.p d) S := ixK_of (atI_of (by decide) rfl)
theorem ixK_2 {l : List D} {a b d : D} : ixK (a :: b :: d :: l) 2 S = .ok (.p d) S := ixK_of (atI_of (by decide) rfl)
theorem ixK_3 {l : List D} {a b c d : D} : ixK (a :: b :: c :: d :: l) 3 S = .ok (.p d) S := ixK_of (atI_of (by decide) rfl)
/-- x.append(d) -/
def appK (n : Nat) (d : D) (S : Sg) : Option Cell → Res R
  | some (.mu (.lst l)) => if l.length < sizeLine then .ok (.p .non) { S with st := S.st.set n (.mu (.lst (l ++ [d]))) } else .bad
  | _ => .bad
theorem appK_ap {n : Nat} {d : D} {l : List D} (h : l.length < 1000000) : appK n d S (some (.mu (.lst l))) = .ok (.p .non) ⟨S.sl, S.st.set n (.mu (.lst (l ++ [d])))⟩ := if_pos (Nat.lt_of_lt_of_le h (by rw [sizeLine_eq]; decide))
theorem opApp_ap {n : Nat} {y : R} : opApp (.r n) [y] S = (pure1 y S).bnd fun d S => appK n d S S.st[n]? := by
  show (pure1 y >>= _) S = _
  rw [bind_bnd]
  congr 1
theorem isLst_r' {n : Nat} : isLst (.r n) S = (getLK S.st[n]?).isSome := by unfold isLst; rw [getLst_r]
/-- x.pop(i) -/
def popK (n : Nat) (i : Int) (S : Sg) : Option Cell → Res R
  | some (.mu (.lst l)) => (match L2.atI l i with
    | some d => if 0 ≤ i ∧ l.length < 1000000 then .ok (.p d) ⟨S.sl, S.st.set n (.mu (.lst (l.eraseIdx i.toNat)))⟩ else opPopAt (.r n) [.p (.int i)] S
    | none => opPopAt (.r n) [.p (.int i)] S)
  | _ => opPopAt (.r n) [.p (.int i)] S
def popC (n : Nat) (i : Int) (S : Sg) : Option Cell → Res R
  | some (.mu (.lst l)) => if -(2 ^ 63) ≤ i ∧ i < 2 ^ 63 then (match seqIndex? i l.length with
        | some k => match l[k]? with
          | some d => .ok (.p d) { S with st := S.st.set n (.mu (.lst (l.eraseIdx k))) }
          | none => .bad
        | none => .bad) else .bad
  | _ => .bad
theorem opPopAt_ap {n : Nat} : opPopAt (.r n) [.p (.int i)] S = popC n i S S.st[n]? := by
  show (match S.st[n]? with | some (.mu (.lst l)) => _ | _ => _) = _
  cases h : S.st[n]? with
  | none => rfl
  | some c => cases c with
    | mu o => cases o <;> rfl
    | fz l => rfl
    | dead => rfl
theorem popC_of {n : Nat} {l : List D} {d : D} (h0 : 0 ≤ i) (hd : l[i.toNat]? = some d) (hl : l.length < 1000000) : popC n i S (some (.mu (.lst l))) = .ok (.p d) ⟨S.sl, S.st.set n (.mu (.lst (l.eraseIdx i.toNat)))⟩ := by
  have hi := (List.getElem?_eq_some_iff.mp hd).1
  have e : L2.ixN l.length i = some i.toNat := by unfold L2.ixN; rw [if_pos h0, if_pos (by omega)]
  have e2 := (L2.ixN_seq e).1
  unfold popC
  simp only
  rw [if_pos (by omega), e2]
  simp only [hd]
/-- o[i] = d -/
def setK (n : Nat) (i : Int) (d : D) (S : Sg) : Option Cell → Res Unit
  | some (.mu (.lst l)) => match L2.ixN l.length i with
        | some j => .ok () { S with st := S.st.set n (.mu (.lst (l.set j d))) }
        | none => .bad
  | _ => .bad
theorem setAt_ap {n : Nat} {d : D} : setAt (.r n) (.p (.int i)) d S = setK n i d S S.st[n]? := by
  cases h : S.st[n]? with
  | none => simp only [setAt, asI, h, setK]
  | some c => cases c with
    | mu o => cases o <;> (simp only [setAt, asI, h, setK] <;> rfl)
    | fz l => simp only [setAt, asI, h, setK]
    | dead => simp only [setAt, asI, h, setK]
theorem setK_0 {n : Nat} {a d : D} {l : List D} : setK n 0 d S (some (.mu (.lst (a :: l)))) = .ok () ⟨S.sl, S.st.set n (.mu (.lst (d :: l)))⟩ := by
  have e : L2.ixN (a :: l).length 0 = some 0 := by unfold L2.ixN; rw [if_pos (by decide), if_pos (by simp only [List.length_cons]; omega)]; rfl
  unfold setK; simp only [e]; rfl
theorem setK_1 {n : Nat} {a b d : D} {l : List D} : setK n 1 d S (some (.mu (.lst (a :: b :: l)))) = .ok () ⟨S.sl, S.st.set n (.mu (.lst (a :: d :: l)))⟩ := by
  have e : L2.ixN (a :: b :: l).length 1 = some 1 := by unfold L2.ixN; rw [if_pos (by decide), if_pos (by simp only [List.length_cons]; omega)]; rfl
  unfold setK; simp only [e]; rfl
theorem setK_2 {n : Nat} {a b c d : D} {l : List D} : setK n 2 d S (some (.mu (.lst (a :: b :: c :: l)))) = .ok () ⟨S.sl, S.st.set n (.mu (.lst (a :: b :: d :: l)))⟩ := by
  have e : L2.ixN (a :: b :: c :: l).length 2 = some 2 := by unfold L2.ixN; rw [if_pos (by decide), if_pos (by simp only [List.length_cons]; omega)]; rfl
  unfold setK; simp only [e]; rfl
/-! == and other looks at lists -/
def dataK : Option Cell → Option PyData
  | some (.mu (.lst l)) => (toPyL l).map .list
  | some (.fz l) => (toPyL l).map .list
  | _ => none
theorem dataK_mu {l : List D} : dataK (some (.mu (.lst l))) = (toPyL l).map .list := Eq.trans rfl rfl
theorem dataK_fz {l : List D} : dataK (some (.fz l)) = (toPyL l).map .list := Eq.trans rfl rfl
theorem dataR_p {d : D} : dataR (.p d) S = toPy d := Eq.trans rfl rfl
theorem dataR_r {n : Nat} : dataR (.r n) S = dataK S.st[n]? := by
  unfold dataR
  simp only
  rw [getLst_r]
  cases h : S.st[n]? with
  | none => rfl
  | some c => cases c with
    | mu o => cases o with
      | lst l => show (match toPyL l with | some xs => _ | none => _) = (toPyL l).map _; cases toPyL l <;> rfl
      | dct k => rfl
      | obj k f => rfl
    | fz l => show (match toPyL l with | some xs => _ | none => _) = (toPyL l).map _; cases toPyL l <;> rfl
    | dead => rfl
theorem opEqD_of {x y : R} {d e : PyData} (h1 : dataR x S = some d) (h2 : dataR y S = some e) (s1 : SeqAt.shaped d = true) (s2 : SeqAt.shaped e = true) : opEqD x y S = .ok (.p (.bl (PyData.eqv d e))) S := by
  unfold opEqD; simp only [h1, h2, s1, s2, and_self, if_true]
theorem opNeD_of {x y : R} {d e : PyData} (h1 : dataR x S = some d) (h2 : dataR y S = some e) (s1 : SeqAt.shaped d = true) (s2 : SeqAt.shaped e = true) : opNeD x y S = .ok (.p (.bl (!PyData.eqv d e))) S := by
  unfold opNeD; simp only [h1, h2, s1, s2, and_self, if_true]
theorem toPyL_ints : ∀ ns : List Int, toPyL (ns.map D.int) = some (ns.map PyData.int)
  | [] => rfl
  | n :: ns => by
    show toPyL (D.int n :: ns.map D.int) = _
    unfold toPyL
    rw [toPyL_ints ns]
    simp only [toPy]
    rfl
theorem eqvAll_ints : ∀ ns ms : List Int, PyData.eqvAll (ns.map PyData.int) (ms.map PyData.int) = decide (ns = ms)
  | [], [] => rfl
  | [], m :: ms => by simp [PyData.eqvAll]
  | n :: ns, [] => by simp [PyData.eqvAll]
  | n :: ns, m :: ms => by
    show (PyData.eqv (.int n) (.int m) && PyData.eqvAll (ns.map PyData.int) (ms.map PyData.int)) = _
    rw [eqvAll_ints ns ms]
    show (n == m && _) = _
    by_cases h1 : n = m <;> by_cases h2 : ns = ms <;> simp [h1, h2]
theorem canLay_ints : ∀ ns : List Int, PyData.canLayAll0 (ns.map PyData.int) = true
  | [] => rfl
  | n :: ns => by
    show (PyData.canLay0 (.int n) && PyData.canLayAll0 (ns.map PyData.int)) = true
    rw [canLay_ints ns]; rfl
theorem depth_ints : ∀ ns : List Int, PyData.depthAll (ns.map PyData.int) = 0
  | [] => rfl
  | n :: ns => by
    show max (PyData.depth (.int n)) (PyData.depthAll (ns.map PyData.int)) = 0
    rw [depth_ints ns]; rfl
theorem shaped_li (ns : List Int) : SeqAt.shaped (.list (ns.map PyData.int)) = true := by
  show (PyData.canLayAll0 (ns.map PyData.int) && decide (PyData.depthAll (ns.map PyData.int) + 1 ≤ 64)) = true
  rw [canLay_ints, depth_ints]; rfl
theorem shaped_ti (ns : List Int) : SeqAt.shaped (.tuple (ns.map PyData.int)) = true := by
  show (PyData.canLayAll0 (ns.map PyData.int) && decide (PyData.depthAll (ns.map PyData.int) + 1 ≤ 64)) = true
  rw [canLay_ints, depth_ints]; rfl
theorem dataK_ints {ns : List Int} : dataK (some (.mu (.lst (ns.map D.int)))) = some (.list (ns.map PyData.int)) := by rw [dataK_mu, toPyL_ints]; rfl
theorem opEqD_li {x y : R} {ns ms : List Int} (h1 : dataR x S = some (.list (ns.map PyData.int))) (h2 : dataR y S = some (.list (ms.map PyData.int))) : opEqD x y S = .ok (.p (.bl (decide (ns = ms)))) S := by
  rw [opEqD_of h1 h2 (shaped_li _) (shaped_li _)]
  show Res.ok (R.p (.bl (PyData.eqvAll _ _))) S = _
  rw [eqvAll_ints]
def allK : Option (List D) → Sg → Res R
  | some l, S => match blsOf l with
    | some bs => .ok (.p (.bl (bs.all id))) S
    | none => .bad
  | none, _ => .bad
theorem opAll_r {n : Nat} : opAll (.r n) S = allK (getLK S.st[n]?) S := by unfold opAll; rw [getLst_r]; cases getLK S.st[n]? <;> rfl
def sumK : Option (List D) → Sg → Res R
  | some l, S => match intsOf l with
    | some bs => .ok (.p (.int bs.sum)) S
    | none => .bad
  | none, _ => .bad
theorem opSum_r {n : Nat} : opSum (.r n) S = sumK (getLK S.st[n]?) S := by unfold opSum; rw [getLst_r]; cases getLK S.st[n]? <;> rfl
theorem sumK_ints {ns : List Int} : sumK (some (ns.map D.int)) S = .ok (.p (.int ns.sum)) S := by unfold sumK; simp only [intsOf_map]
def sortK : Option (List D) → Sg → Res R
  | some l, S => match intsOf l with
    | some ns => .ok (.r S.st.length) ⟨S.sl, S.st ++ [.mu (.lst ((sortI ns).map .int))]⟩
    | none => .bad
  | none, _ => .bad
theorem opSort_t {l : List D} : opSort (.p (.tup l)) S = sortK (some l) S := Eq.trans rfl rfl
theorem opSort_r {n : Nat} : opSort (.r n) S = sortK (getLK S.st[n]?) S := by unfold opSort; rw [getL_r]; cases getLK S.st[n]? <;> rfl
theorem opTuple_t {l : List D} : opTuple (.p (.tup l)) S = .ok (.p (.tup l)) S := Eq.trans rfl rfl
theorem opTuple_l {l : List D} : opTuple (.p (.lst l)) S = .ok (.p (.tup l)) S := Eq.trans rfl rfl
def tupK : Option (List D) → Sg → Res R
  | some l, S => .ok (.p (.tup l)) S
  | none, _ => .bad
theorem tupK_ap {l : List D} : tupK (some l) S = .ok (.p (.tup l)) S := Eq.trans rfl rfl
theorem opTuple_r {n : Nat} : opTuple (.r n) S = tupK (getLK S.st[n]?) S := by unfold opTuple; simp only; rw [getLst_r]; cases getLK S.st[n]? <;> rfl
theorem wipeS_ap {vs : List Nat} : wipeS S vs = ⟨wipeL S.sl vs, S.st⟩ := Eq.trans rfl rfl
theorem wipeL_nil {sl : List (Option R)} : wipeL sl [] = sl := Eq.trans rfl rfl
theorem wipeL_cons {sl : List (Option R)} {v : Nat} {vs : List Nat} : wipeL sl (v :: vs) = (wipeL sl vs).set v none := Eq.trans rfl rfl
theorem numbered_at : ∀ {l : List D} {k j : Nat} {d : List D}, (numbered k l)[j]? = some d → ∃ d', d = [.int ((k + j : Nat) : Int), d'] ∧ l[j]? = some d'
  | [], k, j, d, h => by simp [numbered] at h
  | x :: l, k, 0, d, h => by
    simp only [numbered, List.getElem?_cons_zero, Option.some.injEq] at h
    exact ⟨x, h.symm, rfl⟩
  | x :: l, k, j + 1, d, h => by
    simp only [numbered, List.getElem?_cons_succ] at h
    obtain ⟨d', e1, e2⟩ := numbered_at h
    exact ⟨d', by rw [e1]; congr 3; omega, e2⟩
theorem numbered_len : ∀ {l : List D} {k : Nat}, (numbered k l).length = l.length
  | [], _ => rfl
  | x :: l, k => by simp only [numbered, List.length_cons, numbered_len]
def rngK1 : List R → Sg → Res (Itm D) := fun xs S => match asI1 xs with
    | some j => if -(2 ^ 62) ≤ j ∧ j < 2 ^ 62 then .ok ⟨fun _ => True, Dd.intsFrom 0 j.toNat⟩ S else .bad
    | none => .bad
theorem itR1_k (g : M (List R)) (S : Sg) : itR1 g S = (g S).bnd rngK1 := itR1_ap g S
theorem rngK1_i (h : -(2 ^ 62) ≤ i ∧ i < 2 ^ 62) : rngK1 [.p (.int i)] S = .ok ⟨fun _ => True, Dd.intsFrom 0 i.toNat⟩ S := if_pos h
theorem rngK1_n {d : Nat} (h : d ≤ 1000000) : rngK1 [.p (.int (d : Int))] S = .ok ⟨fun _ => True, Dd.intsFrom 0 d⟩ S := by
  have hh : -(2 ^ 62) ≤ (d : Int) ∧ (d : Int) < 2 ^ 62 := ⟨by omega, by omega⟩
  exact rngK1_i hh
theorem intsFrom_0 {lo : Int} : Dd.intsFrom lo 0 = [] := Eq.trans rfl rfl
theorem intsFrom_s {lo : Int} {n : Nat} : Dd.intsFrom lo (n + 1) = .int lo :: Dd.intsFrom (lo + 1) n := Eq.trans rfl rfl
/-! comprehensions -/
theorem lcE_ap {α : Type} (own ks : List Nat) (unp : α → Option (List D)) (it : M (Itm α)) (tt : M Bool) (f : M R) (S : Sg) : lcE own ks unp it tt f S = (it S).bnd fun I S => lcFin S (lcL I.ok (lcB own ks unp tt f) I.l [] (wipeS S own)) := by unfold lcE; rw [bind_bnd]
noncomputable def lcK {α : Type} (ok : Sg → Prop) (body : α → M (Option D)) (ds : List α) (acc : List D) : Option D → Sg → Res (List D)
  | none, S => lcL ok body ds acc S
  | some y, S => if acc.length < sizeLine then lcL ok body ds (acc ++ [y]) S else .bad
theorem lcL_nil' {α : Type} {ok : Sg → Prop} {body : α → M (Option D)} {acc : List D} (h : ok S) : lcL ok body [] acc S = .ok acc S := by unfold lcL; rw [if_pos h]
theorem lcL_cons {α : Type} {ok : Sg → Prop} {body : α → M (Option D)} {acc : List D} {d : α} {ds : List α} {S1 : Sg} {o : Option D} (h : ok S) (hb : body d S = .ok o S1) : lcL ok body (d :: ds) acc S = lcK ok body ds acc o S1 := by
  conv => lhs; unfold lcL
  rw [if_pos h, hb]
  cases o <;> rfl
/-- a comprehension whose turns leave the state as it is -/
theorem lcL_map {α : Type} {ok : Sg → Prop} {body : α → M (Option D)} {g : α → D} (hok : ok S) : ∀ (l : List α) (acc : List D), (∀ d ∈ l, body d S = .ok (some (g d)) S) → acc.length + l.length ≤ 1000000 → lcL ok body l acc S = .ok (acc ++ l.map g) S
  | [], acc, h, hl => by rw [lcL_nil' hok, List.map_nil, List.append_nil]
  | d :: ds, acc, h, hl => by
    rw [lcL_cons hok (h d List.mem_cons_self)]
    show (if acc.length < sizeLine then lcL ok body ds (acc ++ [g d]) S else .bad) = _
    rw [List.length_cons] at hl
    rw [if_pos (Nat.lt_of_lt_of_le (by omega : acc.length < 1000000) (by rw [sizeLine_eq]; decide))]
    rw [lcL_map hok ds (acc ++ [g d]) (fun x hx => h x (List.mem_cons_of_mem _ hx)) (by rw [List.length_append]; simp only [List.length_cons, List.length_nil]; omega)]
    rw [List.map_cons, List.append_assoc]; rfl
theorem lcL_mapf {α β : Type} {ok : Sg → Prop} {body : α → M (Option D)} {f : β → α} {g : β → D} (hok : ok S) : ∀ (l : List β) (acc : List D), (∀ d ∈ l, body (f d) S = .ok (some (g d)) S) → acc.length + l.length ≤ 1000000 → lcL ok body (l.map f) acc S = .ok (acc ++ l.map g) S
  | [], acc, h, hl => by rw [List.map_nil, lcL_nil' hok, List.map_nil, List.append_nil]
  | d :: ds, acc, h, hl => by
    rw [List.map_cons, lcL_cons hok (h d List.mem_cons_self)]
    show (if acc.length < sizeLine then lcL ok body (ds.map f) (acc ++ [g d]) S else .bad) = _
    rw [List.length_cons] at hl
    rw [if_pos (Nat.lt_of_lt_of_le (by omega : acc.length < 1000000) (by rw [sizeLine_eq]; decide))]
    rw [lcL_mapf hok ds (acc ++ [g d]) (fun x hx => h x (List.mem_cons_of_mem _ hx)) (by rw [List.length_append]; simp only [List.length_cons, List.length_nil]; omega)]
    rw [List.map_cons, List.append_assoc]; rfl
theorem setS_nil : setS S [] [] = S := Eq.trans rfl rfl
theorem setS_cons {k : Nat} {ks : List Nat} {d : D} {ds : List D} : setS S (k :: ks) (d :: ds) = setS ⟨S.sl.set k (some (.p d)), S.st⟩ ks ds := Eq.trans rfl rfl
theorem lcBT_ap {own ks : List Nat} {f : M R} {ds : List D} (h : ds.length = ks.length) : lcB own ks unpT tYesM f (.tup ds) S = (f (setS S ks ds)).bnd fun x S => (pure1 x S).bnd fun y S => .ok (some y) (wipeS S own) := by
  show (if ds.length = ks.length then _ else _ : Res (Option D)) = _
  rw [if_pos h]
  rfl
theorem lcBW_ap {own ks : List Nat} {f : M R} {ds : List D} (h : ds.length = ks.length) : lcB own ks unpW tYesM f ds S = (f (setS S ks ds)).bnd fun x S => (pure1 x S).bnd fun y S => .ok (some y) (wipeS S own) := by
  show (if ds.length = ks.length then _ else _ : Res (Option D)) = _
  rw [if_pos h]
  rfl
theorem lcFin_ok {S1 S' : Sg} {acc : List D} (h : acc.length ≤ 1000000) : lcFin S1 (.ok acc S') = .ok (.r S'.st.length) ⟨S1.sl, S'.st ++ [.mu (.lst acc)]⟩ := if_pos (Nat.le_trans h (by rw [sizeLine_eq]; decide))
theorem lcB1_ap {own : List Nat} {k : Nat} {f : M R} {x : D} : lcB own [k] unp1 tYesM f x S = (f ⟨S.sl.set k (some (.p x)), S.st⟩).bnd fun x S => (pure1 x S).bnd fun y S => .ok (some y) (wipeS S own) := Eq.trans rfl rfl
/-! bounds -/
theorem cdivw {j : Int} (h0 : 0 < j) (h : j < 2 ^ 1000) : CDivW i j := by
  refine ⟨h0, ?_⟩
  have h1 : j.natAbs < 2 ^ 1000 := by
    have : ((2 : Int) ^ 1000) = ((2 ^ 1000 : Nat) : Int) := by rw [Int.natCast_pow]; rfl
    rw [this] at h
    generalize (2 ^ 1000 : Nat) = z at *
    omega
  have h2 : j.natAbs ≠ 0 := by omega
  exact Nat.lt_trans ((Nat.log2_lt h2).mpr h1) (by decide)
/-- of at most so many bits -/
def Bt (n : Nat) (i : Int) : Prop := i.natAbs < 2 ^ n
theorem Bt.log2 {n : Nat} {i : Int} (h : Bt n i) : i.natAbs.log2 ≤ n := by
  by_cases h0 : i.natAbs = 0
  · rw [h0]; exact Nat.le_trans (by decide) (Nat.zero_le n)
  · exact Nat.le_of_lt ((Nat.log2_lt h0).mpr h)
theorem cmulw {n m : Nat} (h1 : Bt n i) (h2 : Bt m j) (h : n + m < 1000000 := by decide) : CMulW i j := Nat.lt_of_le_of_lt (Nat.add_le_add h1.log2 h2.log2) h
theorem Bt.mul {n m : Nat} (h1 : Bt n i) (h2 : Bt m j) : Bt (n + m) (i * j) := by
  unfold Bt
  rw [Int.natAbs_mul, Nat.pow_add]
  exact Nat.mul_lt_mul'' h1 h2
theorem cpoww {n : Nat} (h : Bt n i) (h0 : 0 ≤ j) (hz : ((n : Int) + 1) * j ≤ 2 ^ 27) : CPowW i j := ⟨h0, by
  have b : Builtin.Int.intBits i ≤ n + 1 := by
    have := h.log2
    unfold Builtin.Int.intBits; split <;> omega
  have : (Builtin.Int.intBits i : Int) * j ≤ ((n : Int) + 1) * j := Int.mul_le_mul_of_nonneg_right (by omega) h0
  omega⟩
theorem Bt.mono {n m : Nat} (h : Bt n i) (hm : n ≤ m) : Bt m i := Nat.lt_of_lt_of_le h (Nat.pow_le_pow_right (by decide) hm)
theorem Bt.of {n : Nat} (h : -(2 ^ n : Nat) < i ∧ i < (2 ^ n : Nat)) : Bt n i := by unfold Bt; omega
theorem cshl1 {j : Int} (h0 : 0 ≤ j) (h : j ≤ 1000000) : CShl 1 j := ⟨h0, by
  have : Builtin.Int.intBits 1 = 1 := by decide
  rw [this]; omega⟩
end
section
variable {st l : Store} {x y : Cell} {k n : Nat}
theorem take_self : st.take st.length = st := List.take_length
theorem take_app : (st ++ l).take st.length = st := List.take_left
theorem take_appk : (st ++ l).take (st.length + k) = st ++ l.take k := by rw [List.take_append, List.take_of_length_le (by omega)]; congr 2; omega
theorem get_app : (st ++ l)[st.length + k]? = l[k]? := by rw [List.getElem?_append_right (by omega)]; congr 1; omega
theorem get_app0 : (st ++ l)[st.length]? = l[0]? := by rw [List.getElem?_append_right (by omega)]; congr 1; omega
theorem set_app : (st ++ l).set (st.length + k) x = st ++ l.set k x := by rw [List.set_append_right _ _ (by omega)]; congr 2; omega
theorem set_app0 : (st ++ l).set st.length x = st ++ l.set 0 x := by rw [List.set_append_right _ _ (by omega)]; congr 2; omega
theorem take_set : (st.set n x).take st.length = st.set n x := by rw [← List.length_set (as := st) (i := n) (a := x)]; exact List.take_length
theorem take_set_app : (st.set n x ++ l).take st.length = st.set n x := by rw [← List.length_set (as := st) (i := n) (a := x)]; exact List.take_left
theorem get_set_app : (st.set n x ++ l)[st.length + k]? = l[k]? := by rw [← List.length_set (as := st) (i := n) (a := x)]; exact get_app
theorem get_set_app0 : (st.set n x ++ l)[st.length]? = l[0]? := by rw [← List.length_set (as := st) (i := n) (a := x)]; exact get_app0
theorem set_set_app : (st.set n x ++ l).set (st.length + k) y = st.set n x ++ l.set k y := by rw [← List.length_set (as := st) (i := n) (a := x)]; exact set_app
theorem set_set_app0 : (st.set n x ++ l).set st.length y = st.set n x ++ l.set 0 y := by rw [← List.length_set (as := st) (i := n) (a := x)]; exact set_app0
theorem get_old (h : st[n]? = some y) : (st ++ l)[n]? = some y := by rw [List.getElem?_append_left (List.getElem?_eq_some_iff.mp h).1]; exact h
theorem set_old (h : n < st.length) : (st ++ l).set n x = st.set n x ++ l := List.set_append_left _ _ h
end
section
variable {S : Sg} {α β : Type}
def augK (g : Int → Int → Int) (i : Nat) (x : Int) : R → Sg → Res Fl
  | .p (.int y), S => .ok .nx ⟨S.sl.set i (some (.p (.int (g x y)))), S.st⟩
  | _, _ => .bad
theorem augK_ap {g : Int → Int → Int} {i : Nat} {x y : Int} : augK g i x (.p (.int y)) S = .ok .nx ⟨S.sl.set i (some (.p (.int (g x y)))), S.st⟩ := Eq.trans rfl rfl
def augS (g : Int → Int → Int) (i : Nat) (f : M R) : Option (Option R) → Sg → Res Fl
  | some (some (.p (.int x))), S => (f S).bnd (augK g i x)
  | _, _ => .bad
theorem augS_ap {g : Int → Int → Int} {i : Nat} {f : M R} {x : Int} : augS g i f (some (some (.p (.int x)))) S = (f S).bnd (augK g i x) := Eq.trans rfl rfl
theorem sAug_ap (g : Int → Int → Int) (i : Nat) (f : M R) (S : Sg) : sAug g i f S = augS g i f S.sl[i]? S := by
  unfold sAug augS
  cases h : S.sl[i]? with
  | none => rfl
  | some o => cases o with
    | none => rfl
    | some r => cases r with
      | r n => rfl
      | p d => cases d with
        | int x =>
          show (match f S with | .ok (.p (.int y)) S1 => _ | .ok _ _ => _ | .exc z S1 => _ | .bad => _) = (f S).bnd _
          cases f S with
          | bad => rfl
          | exc z S1 => rfl
          | ok y S1 => cases y with
            | r n => rfl
            | p d => cases d <;> rfl
        | _ => rfl
theorem itR2L_k (g : M (List R)) (S : Sg) : itR2L g S = (g S).bnd rngL := by unfold itR2L; rw [bind_bnd]
theorem rngL_i {i j : Int} : rngL [.p (.int i), .p (.int j)] S = .ok ⟨fun _ => True, Dd.intsFrom i (j - i).toNat⟩ S := Eq.trans rfl rfl
theorem itR3_k (g : M (List R)) (S : Sg) : itR3 g S = (g S).bnd rng3 := by unfold itR3; rw [bind_bnd]
theorem rng3_n {n : Nat} (h : n ≤ 1000000) : rng3 [.p (.int ((n : Int) - 1)), .p (.int (-1)), .p (.int (-1))] S = .ok ⟨fun _ => True, downFrom ((n : Int) - 1) (-1) n⟩ S := by
  show (if _ then _ else _ : Res (Itm D)) = _
  have b : ((-1 : Int)) = -1 ∧ -(2 ^ 62) ≤ ((n : Int) - 1) ∧ ((n : Int) - 1) < 2 ^ 62 ∧ -(2 ^ 62) ≤ (-1 : Int) ∧ (-1 : Int) < 2 ^ 62 := ⟨rfl, by omega, by omega, by decide, by decide⟩
  rw [if_pos b]
  show Res.ok (⟨fun _ => True, downFrom ((n : Int) - 1) (-1) ((n : Int) - 1 - -1).toNat⟩ : Itm D) S = _
  rw [show ((n : Int) - 1 - -1).toNat = n by omega]
/-- x in l, both worked out -/
def inK (neg : Bool) (v : V) : Option (List D) → Sg → Res R
  | some l, S => (match flatL l with
    | some vs => .ok (.p (.bl (if neg then !inV v vs else inV v vs))) S
    | none => .bad)
  | none, _ => .bad
theorem opInG_i {neg : Bool} {i : Int} {y : R} : opInG neg (.p (.int i)) y S = inK neg (.int i) (getL y S) S := by unfold opInG inK; cases getL y S <;> rfl
theorem opInG_b {neg : Bool} {i : Bool} {y : R} : opInG neg (.p (.bl i)) y S = inK neg (.bl i) (getL y S) S := by unfold opInG inK; cases getL y S <;> rfl
theorem opInG_s {neg : Bool} {i : Str} {y : R} : opInG neg (.p (.str i)) y S = inK neg (.str i) (getL y S) S := by unfold opInG inK; cases getL y S <;> rfl
theorem opInG_n {neg : Bool} {y : R} : opInG neg (.p .non) y S = inK neg .non (getL y S) S := by unfold opInG inK; cases getL y S <;> rfl
theorem inK_ap {neg : Bool} {v : V} {l : List D} {vs : List V} (h : flatL l = some vs) : inK neg v (some l) S = .ok (.p (.bl (if neg then !inV v vs else inV v vs))) S := by unfold inK; simp only [h]
def extK' := @extK
theorem extK_ints {F : List Int → Int} {ns : List Int} (h : 0 < ns.length) : extK F S (some (ns.map D.int)) = .ok (.p (.int (F ns))) S := by
  unfold extK; simp only [intsOf_map]; exact if_pos h
theorem opMaxL_e {x : R} : opMaxL x S = extK maxI S (getLst x S) := Eq.trans rfl rfl
theorem opMinL_e {x : R} : opMinL x S = extK minI S (getLst x S) := Eq.trans rfl rfl
theorem opBxor_i {i j : Int} : opBxor (.p (.int i)) (.p (.int j)) S = .ok (.p (.int (Builtin.bitXor i j))) S := Eq.trans rfl rfl
def starK (g : M (List R)) : Option (List D) → Sg → Res (List R)
  | some l, S => (g S).bnd fun ys S => .ok (ofD l ++ ys) S
  | none, _ => .bad
theorem starK_ap {g : M (List R)} {l : List D} : starK g (some l) S = (g S).bnd fun ys S => .ok (ofD l ++ ys) S := Eq.trans rfl rfl
theorem aS_ap (f : M R) (g : M (List R)) (S : Sg) : aS f g S = (f S).bnd fun x S => starK g (getL x S) S := by
  unfold aS
  rw [bind_bnd]
  refine bnd_ext fun x S1 => ?_
  cases getL x S1 with
  | none => rfl
  | some l => show (match g S1 with | .ok ys S2 => _ | .exc z S2 => _ | .bad => _) = (g S1).bnd _; cases g S1 <;> rfl
theorem pureL_p : ∀ (l : List D) (xs : List R) (S : Sg), pureL (ofD l ++ xs) S = (pureL xs S).bnd fun ds S => .ok (l ++ ds) S
  | [], xs, S => by
    show pureL xs S = _
    cases pureL xs S <;> rfl
  | d :: l, xs, S => by
    show pureL (.p d :: (ofD l ++ xs)) S = _
    rw [pureL_cons, pure1_p, bnd_ok, pureL_p l xs S]
    cases pureL xs S <;> rfl
/-- a while's first turn -/
def whK (t : M Bool) (h : M Fl) (n : Nat) : Fl → Sg → Res Fl
  | .nx, S => whileN t h n S
  | .ct, S => whileN t h n S
  | .bk, S => .ok .nx S
  | .rt x, S => .ok (.rt x) S
theorem whileN_t {t : M Bool} {h : M Fl} {n : Nat} {S S1 : Sg} (e : t S = .ok true S1) : whileN t h (n + 1) S = (h S1).bnd (whK t h n) := by
  show (match t S with | .ok true S1 => _ | .ok false S1 => _ | .exc x S1 => _ | .bad => _) = _
  rw [e]
  show (match h S1 with | .ok .nx S2 => _ | .ok .ct S2 => _ | .ok .bk S2 => _ | .ok (.rt x) S2 => _ | .exc x S2 => _ | .bad => _) = _
  cases h S1 with
  | bad => rfl
  | exc x S2 => rfl
  | ok f S2 => cases f <;> rfl
theorem whileN_f {t : M Bool} {h : M Fl} {n : Nat} {S S1 : Sg} (e : t S = .ok false S1) : whileN t h (n + 1) S = .ok .nx S1 := by
  show (match t S with | .ok true S1 => _ | .ok false S1 => _ | .exc x S1 => _ | .bad => _) = _
  rw [e]
end
end Dd

open Dd in
local macro_rules | `(tactic| simp! [$ls,*]) => `(tactic| simp only [bnd_ok, bnd_exc, bnd_bad, ifK_t, ifK_f, ifK_d, ifK_n, seqK_nx, seqK_rt, seqK_bk, seqK_ct, sSq_ap, sIf_ap, sRt_ap, sRtN_ap, sNx_ap, sBad_ap, sBk_ap, sCt_ap, sEx_ap, sSet_ap, sAsg_ap, sSub_ap, sPar_ap, sParK_ap, sPar3_ap, sParK3_ap, sFor_ap, sFld_ap, vr_ap, getK_ap, ci_ap, cb_ap, cn_ap, cs_ap, cd_ap, bin_ap, uNeg_ap, toB_ap, tst_ap, mNot_ap, mAnd_ap, mOr_ap, eAnd_ap, eOr_ap, eNot_ap, eIf_ap, eChain_ap, aN_ap, aC_ap, pur_ap, pure1_p, pure1_r, pureC_lst, pureC_fz, pureL_nil, pureL_cons, tupE_ap, lstE_ap, allocT_ap, allocL_ap, callM_ap, callK_ap, applyF_val, applyF_new, applyF_if, bnd_if, runF_ap, finish_nx, finish_p, finish_r, finish_if, makeU_ap, opA_ap, op1_ap, methM_ap, attrU_ap, attrK_scr, propU_ap, isB_ap, isC_ap, isCK_scr, itL_ap, itE_ap, itR1_k, rngK1_i, intsFrom_0, intsFrom_s, gN_ap, gsN_ap, gsC_ap, gT_ap, gL_ap, getL_tup, getL_lst, getL_scp, opAdd_i, opSub_i, opMod_i, opShr_i, opBand_i, opLt_i, opLe_i, opGt_i, opGe_i, opEqD_i, opNeD_i, opInt_i, opInt_b, isK_ii, isK_ib, isK_tt, isK_ll, getLK_mu, getLK_fz, getL_r, getLst_r, getLst_lst, getLst_scp, getM_r, getM_lst, opLen_t, opLen_l, opLen_c, opLen_r, lenK_ap, opIx_t, opIx_l, opIx_c, opIx_r, ixK'_ap, ixK_0, ixK_1, ixK_2, ixK_3, appK_ap, opApp_ap, opPopAt_ap, isLst_r', methK, setAt_ap, setK_0, setK_1, setK_2, lcE_ap, wipeS_ap, wipeL_nil, wipeL_cons, lcB1_ap, lcBT_ap, lcBW_ap, setS_nil, setS_cons, opAll_r, opSum_r, sumK_ints, opSort_t, opSort_r, opTuple_t, opTuple_l, opTuple_r, tupK_ap, Option.isSome_some, Int.reduceAdd, Int.reduceSub, Int.reduceMul, Int.reduceLT, Int.reduceLE, Int.reduceNeg, Int.reducePow, Int.reduceDiv, Int.reduceMod, Int.reduceToNat, Nat.reduceEqDiff, Int.cast_ofNat_Int, opAbs_i, opMax2_i, opMin2_i, sAug_ap, augS_ap, augK_ap, itR2L_k, rngL_i, itR3_k, opIn, opNotIn, opInG_i, opInG_b, opInG_s, opInG_n, opMaxL_e, opMinL_e, opBxor_i, aS_ap, starK_ap, pureL_p, List.map_cons, List.map_nil, List.length_cons, List.length_nil, List.cons_append, List.nil_append, List.append_assoc, List.replicate, List.set_cons_zero, List.set_cons_succ, List.set_nil, List.getElem?_cons_zero, List.getElem?_cons_succ, List.getElem?_nil, List.length_append, List.length_set, take_self, take_app, take_appk, List.take_succ_cons, List.take_zero, List.take_nil, get_app, get_app0, set_app, set_app0, take_set, take_set_app, get_set_app, get_set_app0, set_set_app, set_set_app0, List.set_set, Nat.reduceAdd, Nat.reduceSub, Nat.reduceMul, Nat.reduceLeDiff, Nat.reduceLT, Nat.zero_add, Nat.add_zero, Bool.not_true, Bool.not_false, Bool.not_not, if_true, if_false, ite_true, ite_false, eq_self_iff_true, decide_true, decide_false, Bool.true_and, Bool.false_and, Bool.and_true, Bool.and_false, reduceCtorEq, and_self, and_true, true_and, $ls,*])

set_option Elab.async false
set_option linter.all false
set_option maxRecDepth 100000
namespace Dd
open PySem PySem.Spec PyProof.Rows L2
/-! ### what holds behind a run -/
structure PkQ {α β : Type} (Q : α → β → Prop) : Type where
def Wp {α : Type} (r : Res α) (Q : α → Sg → Prop) (u : PkQ Q := ⟨⟩) : Prop := ∃ a S, r = .ok a S ∧ Q a S
def WpF (r : FRes) (Q : FR → Store → Prop) (u : PkQ Q := ⟨⟩) : Prop := ∃ a st, r = .ok a st ∧ Q a st
section
variable {α β : Type} {S : Sg} {Q : α → Sg → Prop} {QF : FR → Store → Prop}
theorem wp_ok {a : α} (h : Q a S) : Wp (.ok a S) Q := ⟨a, S, rfl, h⟩
theorem wp_bnd {r : Res β} {k : β → Sg → Res α} (h : Wp r fun b S => Wp (k b S) Q) : Wp (r.bnd k) Q := by
  obtain ⟨b, S1, e, a, S2, e2, q⟩ := h
  exact ⟨a, S2, by rw [e, bnd_ok, e2], q⟩
theorem wp_imp {r : Res α} {Q' : α → Sg → Prop} (h : Wp r Q) (k : ∀ a S, Q a S → Q' a S) : Wp r Q' := by
  obtain ⟨a, S, e, q⟩ := h
  exact ⟨a, S, e, k a S q⟩
theorem wp_fin {r : Res Fl} {b : Nat} (h : Wp r fun f S => WpF (finish b (.ok f S)) QF) : WpF (finish b r) QF := by
  obtain ⟨f, S, e, q⟩ := h
  rw [e]; exact q
theorem bnd_bnd {γ : Type} {r : Res γ} {k : γ → Sg → Res β} {k' : β → Sg → Res α} : (r.bnd k).bnd k' = r.bnd fun a S => (k a S).bnd k' := by cases r <;> rfl
theorem wpf_bnd {r : Res β} {k : β → Sg → Res Fl} {b : Nat} (h : Wp r fun a S => WpF (finish b (k a S)) QF) : WpF (finish b (r.bnd k)) QF := by
  obtain ⟨a, S, e, q⟩ := h
  rw [e, bnd_ok]; exact q
theorem wpf_ok {a : FR} {st : Store} (h : QF a st) : WpF (.ok a st) QF := ⟨a, st, rfl, h⟩
theorem wpf_if {p : Prop} [Decidable p] {a b : FRes} (h1 : p → WpF a QF) (h2 : ¬ p → WpF b QF) : WpF (if p then a else b) QF := by
  by_cases h : p
  · rw [if_pos h]; exact h1 h
  · rw [if_neg h]; exact h2 h
theorem wp_if {p : Prop} [Decidable p] {a b : Res α} (h1 : p → Wp a Q) (h2 : ¬ p → Wp b Q) : Wp (if p then a else b) Q := by
  by_cases h : p
  · rw [if_pos h]; exact h1 h
  · rw [if_neg h]; exact h2 h
/-- a call -/
theorem wp_call {F : Fn} {n : Nat} {xs : List R} {Q : R → Sg → Prop} (h : xs.length = n) (q : WpF (F xs S.st) fun a st => Wp (applyF S (.ok a st)) Q) : Wp (callK F n xs S) Q := by
  obtain ⟨a, st, e, r, S2, e2, q⟩ := q
  exact ⟨r, S2, by rw [callK_ap h, e, e2], q⟩
/-- a loop by its invariant; an early return by Q -/
theorem wp_loop {ok : Sg → Prop} {body : β → M Fl} {l : List β} {Q : Fl → Sg → Prop} (I : Nat → Sg → Prop) (h0 : I 0 S) (hok : ∀ j S, I j S → ok S)
    (hs : ∀ j d S, l[j]? = some d → I j S → Wp (body d S) fun f S' => match f with
      | .nx => I (j + 1) S'
      | .ct => I (j + 1) S'
      | .bk => Q .nx S'
      | .rt x => Q (.rt x) S')
    (hd : ∀ S, I l.length S → Q .nx S) : Wp (loopL ok body l S) Q := by
  have gen : ∀ (l' : List β) (i : Nat) (S : Sg), i + l'.length = l.length → (∀ j d, l'[j]? = some d → l[i + j]? = some d) → I i S → Wp (loopL ok body l' S) Q := by
    intro l'
    induction l' with
    | nil =>
      intro i S hi hl hI
      refine ⟨.nx, S, loopL_nil (hok _ _ hI), hd S ?_⟩
      rw [← hi]; exact hI
    | cons d ds ih =>
      intro i S hi hl hI
      rw [loop_cons (hok _ _ hI)]
      refine wp_bnd (wp_imp (hs i d S (hl 0 d rfl) hI) fun f S' q => ?_)
      have go : I (i + 1) S' → Wp (loopL ok body ds S') Q := fun q => ih (i + 1) S' (by rw [List.length_cons] at hi; omega) (fun j d' hj => by
        have := hl (j + 1) d' (by simpa using hj)
        rwa [show i + (j + 1) = i + 1 + j by omega] at this) q
      cases f with
      | nx => exact go q
      | ct => exact go q
      | bk => exact wp_ok q
      | rt x => exact wp_ok q
  exact gen l 0 S (by omega) (fun j d hj => by rw [Nat.zero_add]; exact hj) h0
/-- a while by its invariant with a measure -/
theorem wp_while {t : M Bool} {h : M Fl} {Q : Fl → Sg → Prop} (I : Nat → Sg → Prop) (m : Nat) (h0 : I m S)
    (hs : ∀ m S, I m S → Wp (t S) fun b S1 => if b = true then Wp (h S1) (fun f S' => match f with
      | .nx => ∃ m', m' < m ∧ I m' S'
      | .ct => ∃ m', m' < m ∧ I m' S'
      | .bk => Q .nx S'
      | .rt x => Q (.rt x) S') else Q .nx S1) : Wp (sWhile t h S) Q := by
  have gen : ∀ (m : Nat) (S : Sg), I m S → ∃ f S', whileN t h (m + 1) S = .ok f S' ∧ Q f S' := by
    intro m
    induction m using Nat.strongRecOn with
    | ind m ih =>
      intro S hI
      obtain ⟨b, S1, e, q⟩ := hs m S hI
      cases b with
      | false => exact ⟨.nx, S1, whileN_f e, q⟩
      | true =>
        obtain ⟨f, S2, e2, q⟩ : Wp (h S1) _ := q
        have go : (∃ m', m' < m ∧ I m' S2) → ∃ f S', whileN t h m S2 = .ok f S' ∧ Q f S' := fun ⟨m', hm, hI'⟩ => by
          obtain ⟨f, S', e3, q3⟩ := ih m' hm S2 hI'
          exact ⟨f, S', by rw [whileN_mono (n := m' + 1) (by rw [e3]; intro z; cases z) m (by omega)]; exact e3, q3⟩
        rw [whileN_t e, e2, bnd_ok]
        cases f with
        | nx => exact go q
        | ct => exact go q
        | bk => exact ⟨.nx, S2, rfl, q⟩
        | rt x => exact ⟨.rt x, S2, rfl, q⟩
  obtain ⟨f, S', e, q⟩ := gen m S h0
  exact ⟨f, S', sWhile_of e (by intro z; cases z), q⟩
/-- a comprehension -/
theorem wp_lc {ok : Sg → Prop} {body : β → M (Option D)} {l : List β} {Q : List D → Sg → Prop} (I : Nat → List D → Sg → Prop) (h0 : I 0 [] S) (hok : ∀ j acc S, I j acc S → ok S) (hl : l.length ≤ 1000000)
    (hs : ∀ j d acc S, l[j]? = some d → acc.length ≤ j → I j acc S → Wp (body d S) fun o S' => match o with
      | some y => I (j + 1) (acc ++ [y]) S'
      | none => I (j + 1) acc S')
    (hd : ∀ acc S, I l.length acc S → Q acc S) : Wp (lcL ok body l [] S) Q := by
  have gen : ∀ (l' : List β) (i : Nat) (acc : List D) (S : Sg), i + l'.length = l.length → acc.length ≤ i → (∀ j d, l'[j]? = some d → l[i + j]? = some d) → I i acc S → Wp (lcL ok body l' acc S) Q := by
    intro l'
    induction l' with
    | nil =>
      intro i acc S hi ha hl hI
      refine ⟨acc, S, lcL_nil' (hok _ _ _ hI), hd acc S ?_⟩
      rw [← hi]; exact hI
    | cons d ds ih =>
      intro i acc S hi ha hl' hI
      rw [List.length_cons] at hi
      obtain ⟨o, S1, e, q⟩ := hs i d acc S (hl' 0 d rfl) ha hI
      rw [lcL_cons (hok _ _ _ hI) e]
      have nx : ∀ j d', ds[j]? = some d' → l[i + 1 + j]? = some d' := fun j d' hj => by
        have := hl' (j + 1) d' (by simpa using hj)
        rwa [show i + (j + 1) = i + 1 + j by omega] at this
      cases o with
      | none => exact ih (i + 1) acc S1 (by omega) (by omega) nx q
      | some y =>
        show Wp (if acc.length < sizeLine then lcL ok body ds (acc ++ [y]) S1 else .bad) Q
        rw [if_pos (Nat.lt_of_lt_of_le (by omega : acc.length < 1000000 + 1) (by rw [sizeLine_eq]; decide))]
        exact ih (i + 1) (acc ++ [y]) S1 (by omega) (by rw [List.length_append]; simp only [List.length_cons, List.length_nil]; omega) nx q
  exact gen l 0 [] S (by omega) (Nat.le_refl _) (fun j d hj => by rw [Nat.zero_add]; exact hj) h0
theorem wp_lcFin {S1 : Sg} {r : Res (List D)} {Q : R → Sg → Prop} (h : Wp r fun acc S' => acc.length ≤ 1000000 ∧ Q (.r S'.st.length) ⟨S1.sl, S'.st ++ [.mu (.lst acc)]⟩) : Wp (lcFin S1 r) Q := by
  obtain ⟨acc, S', e, hl, q⟩ := h
  exact ⟨_, _, by rw [e, lcFin_ok hl], q⟩
end
end Dd

set_option Elab.async false
set_option linter.all false
set_option maxRecDepth 100000
namespace Dd
open PySem PySem.Spec PyProof.Rows L2
section
variable {X : Cx} {c : Cg} {W : WX} {Γ : Gh} {G : Hp} {o a b e e4 : Expr} {es : List Expr} {f fa fb fc fd : M R} {g : M (List R)} {pos pos' p p' apos : Pos} {S : Sg}
/-! ### list(range(n)) -/
def lrgK (x : R) (S : Sg) : Res R := match x with
  | .p (.int n) => if 0 ≤ n ∧ n ≤ 1000000 then .ok (.r S.st.length) { S with st := S.st ++ [.mu (.lst (intsFrom 0 n.toNat))] } else .bad
  | _ => .bad
def lrg (f : M R) : M R := f >>= lrgK
theorem repL_from : ∀ (n : Nat) (lo : Int), RepL c G (intsFrom lo n) ((List.range n).map fun i => V.int (lo + (i : Nat)))
  | 0, lo => RepL.nil
  | n + 1, lo => by
    rw [List.range_succ_eq_map, List.map_cons, List.map_map]
    refine RepL.cons (Rep.int_iff.mpr (by simp)) ?_
    have h := repL_from n (lo + 1)
    have e : (fun i : Nat => V.int (lo + (i : Nat))) ∘ Nat.succ = fun i : Nat => V.int (lo + 1 + (i : Nat)) := by
      funext i
      show V.int _ = V.int _
      congr 1
      show lo + ((i + 1 : Nat) : Int) = _
      omega
    rw [e]
    exact h
theorem e_listrg (hc : X.calm = true) (hm : X.mg "list" = none) (hm2 : X.mg "range" = none) (ha : PE X a (rdE c W f)) (hg : Gl X "list" := by rfl) (hg2 : Gl X "range" := by rfl)
    (na : starEach [a] X.env = (false, eval a X.env) :: starEach [] X.env := by rfl) (na2 : starEach [.Call (.Name "range" p') [a] [] pos'] X.env = (false, eval (.Call (.Name "range" p') [a] [] pos') X.env) :: starEach [] X.env := by rfl) :
    PE X (.Call (.Name "list" p) [.Call (.Name "range" p') [a] [] pos'] [] pos) (rdE c W (lrg f)) := se_of (pe_listRg hc hg hm (prg_1 hg2 hm2 ha na) na2) fun σ H Q q => by
  obtain ⟨Γ, S, F, P⟩ := q
  refine ⟨Γ, S, F, (Post.bind P).imp fun x S1 Γ1 H1 e1 F1 ⟨_, P1⟩ v hv => ?_⟩
  unfold lrgK at P1
  cases x with
  | r m => exact P1.elim
  | p d =>
    cases d with
    | int n =>
      simp only at P1
      by_cases hz : 0 ≤ n ∧ n ≤ 1000000
      · rw [if_pos hz] at P1
        refine ⟨n, RepR.int hv, RgOk.of_le (Int.le_refl 0) (Int.le_trans hz.2 (by decide)) (by decide) hz.1, fun q hq => ?_⟩
        have r : RepL c Γ1.G _ _ := repL_from n.toNat 0
        have e : ((List.range n.toNat).map fun i => V.int (0 + (i : Nat))) = rgV 0 n := by unfold rgV; rw [Int.sub_zero]
        rw [e] at r
        obtain ⟨Γ3, e3, F3, r3⟩ := newL_ok F1 r hq
        exact P1.ok e3 F3 _ r3
      · rw [if_neg hz] at P1; exact P1.elim
    | _ => exact P1.elim
theorem lrg_ap (f : M R) (S : Sg) : lrg f S = (f S).bnd lrgK := by unfold lrg; rw [bind_bnd]
theorem lrgK_n {n : Nat} (h : n ≤ 1000000) : lrgK (.p (.int (n : Int))) S = .ok (.r S.st.length) ⟨S.sl, S.st ++ [.mu (.lst (intsFrom 0 n))]⟩ := by
  unfold lrgK
  simp only
  rw [if_pos ⟨by omega, by omega⟩, Int.toNat_natCast]
/-! ### a op b op c op d -/
def eChain3 (op op' op'' : R → R → M R) (f g h k : M R) : M R := do
  let x ← f
  let y ← g
  let z ← op x y
  let b ← toB z
  if b = true then do
    let w ← h
    let z' ← op' y w
    let b' ← toB z'
    if b' = true then do
      let u ← k
      op'' w u
    else pure (.p (.bl false))
  else pure (.p (.bl false))
def tChain3 (r r' r'' : R2) (ta tb tc td : TE) : TE := fun σ H Q => ta σ H fun x H1 => tb σ H1 fun y H2 => r x y H2 fun z H3 => ∃ k, z = .bl k ∧
  (if k = true then tc σ H3 fun w H4 => r' y w H4 fun z' H5 => ∃ k', z' = .bl k' ∧ (if k' = true then td σ H5 fun u H6 => r'' w u H6 Q else Q (.bl false) H5) else Q (.bl false) H3)
theorem pe_chain3 {ta tb tc td : TE} {op op' op'' : CmpOp} {r r' r'' : R2} (ho : OpR X (compareOp op) r) (ho' : OpR X (compareOp op') r') (ho'' : OpR X (compareOp op'') r'') (ha : PE X a ta) (hb : PE X b tb) (hc : PE X e tc) (hd : PE X e4 td)
    (hm : lastMarks [op, op', op''] [b, e, e4] = false := by with_unfolding_all rfl) : PE X (.Compare a [op, op', op''] [b, e, e4] pos) (tChain3 r r' r'' ta tb tc td) := by
  refine ⟨fun pins s σ H Q I h => ?_⟩
  refine Compare_chain (thn (ha.run pins s σ H _ I h) fun v s1 ⟨x, H1, I1, r1, q1⟩ => chain_link (thn (hb.run pins s1 σ H1 _ I1 q1) fun u s2 ⟨y, H2, I2, r2, q2⟩ =>
    thn (ho pins s2 σ H2 x y v u _ I2 r1 r2 q2) fun d s3 ⟨z, H3, I3, r3, k, e, q3⟩ => ?_)) hm
  subst e
  cases r3
  refine wpAny_truthy_bool ?_
  cases k with
  | false => exact ite_ff ⟨.bl false, H3, I3, rfl, q3⟩
  | true =>
    refine ite_tt (chain_link (thn (hc.run pins s3 σ H3 _ I3 q3) fun w' s4 ⟨z', H4, I4, r4, q4⟩ => thn (ho' pins s4 σ H4 y z' u w' _ I4 r2 r4 q4) fun d' s5 ⟨z2, H5, I5, r5, k2, e2, q5⟩ => ?_))
    subst e2
    cases r5
    refine wpAny_truthy_bool ?_
    cases k2 with
    | false => exact ite_ff ⟨.bl false, H5, I5, rfl, q5⟩
    | true => exact ite_tt (chain_last (thn (hd.run pins s5 σ H5 _ I5 q5) fun w6 s6 ⟨z6, H6, I6, r6, q6⟩ => ho'' pins s6 σ H6 z' z6 w' w6 Q I6 r4 r6 q6))
theorem pt_chain3 {ta tb tc td : TE} {op op' op'' : CmpOp} {r r' r'' : R2} (ho : OpR X (compareOp op) r) (ho' : OpR X (compareOp op') r') (ho'' : OpR X (compareOp op'') r'') (ha : PE X a ta) (hb : PE X b tb) (hc : PE X e tc) (hd : PE X e4 td)
    (hm : lastMarks [op, op', op''] [b, e, e4] = false := by with_unfolding_all rfl) : PT X (.Compare a [op, op', op''] [b, e, e4] pos) (tTest (tChain3 r r' r'' ta tb tc td)) := by
  refine ⟨fun pins s σ H Q I h => ?_⟩
  refine isTrue_chain (thn (ha.run pins s σ H _ I h) fun v s1 ⟨x, H1, I1, r1, q1⟩ => test_link (thn (hb.run pins s1 σ H1 _ I1 q1) fun u s2 ⟨y, H2, I2, r2, q2⟩ =>
    thn (ho pins s2 σ H2 x y v u _ I2 r1 r2 q2) fun d s3 ⟨z, H3, I3, r3, k, e, q3⟩ => ?_)) hm
  subst e
  cases r3
  refine wpAny_truthy_bool ?_
  cases k with
  | false =>
    obtain ⟨k', e', q'⟩ := q3
    cases e'
    exact ite_ff ⟨H3, I3, q'⟩
  | true =>
    refine ite_tt (test_link (thn (hc.run pins s3 σ H3 _ I3 q3) fun w' s4 ⟨z', H4, I4, r4, q4⟩ => thn (ho' pins s4 σ H4 y z' u w' _ I4 r2 r4 q4) fun d' s5 ⟨z2, H5, I5, r5, k2, e2, q5⟩ => ?_))
    subst e2
    cases r5
    refine wpAny_truthy_bool ?_
    cases k2 with
    | false =>
      obtain ⟨k', e', q'⟩ := q5
      cases e'
      exact ite_ff ⟨H5, I5, q'⟩
    | true =>
      refine ite_tt (test_last (thn (hd.run pins s5 σ H5 _ I5 q5) fun w6 s6 ⟨z6, H6, I6, r6, q6⟩ => thn (ho'' pins s6 σ H6 z' z6 w' w6 _ I6 r4 r6 q6) fun d7 s7 ⟨z7, H7, I7, r7, k7, e7, q7⟩ => ?_))
      subst e7
      cases r7
      exact wpAny_truthy_bool ⟨H7, I7, q7⟩
theorem chain3_read {op op' op'' : R → R → M R} {r r' r'' : R2} (hd : OpD c W op r) (hd' : OpD c W op' r') (hd'' : OpD c W op'' r'') {σ : L2.St} {H : Hp} {Q : VK} (q : rdE c W (eChain3 op op' op'' fa fb fc fd) σ H Q) : tChain3 r r' r'' (rdE c W fa) (rdE c W fb) (rdE c W fc) (rdE c W fd) σ H Q := by
  obtain ⟨Γ, S, F, P⟩ := q
  refine ⟨Γ, S, F, (Post.bind P).imp fun x S1 Γ1 H1 e1 F1 ⟨_, P1⟩ v hv => ?_⟩
  refine ⟨Γ1, S1, F1, (Post.bind P1).imp fun y S2 Γ2 H2 e2 F2 ⟨_, P2⟩ w hw => ?_⟩
  refine hd Γ2 S2 σ H2 x y v w _ F2 (hv.mono e2) hw ((Post.bind P2).imp fun z S3 Γ3 H3 e3 F3 ⟨_, P3⟩ u hu => ?_)
  obtain ⟨k, ek, _, P4⟩ := toB_ok F3 hu (Post.bind P3)
  refine ⟨k, ek, ?_⟩
  cases k with
  | false => exact Post.ok (c := c) (W := W) P4 Gh.le.refl F3 _ ((Rep.bl_iff (c := c) (G := Γ3.G)).mpr rfl)
  | true =>
    refine ⟨Γ3, S3, F3, (Post.bind P4).imp fun y' S4 Γ4 H4 e4 F4 ⟨_, P5⟩ w' hw' => ?_⟩
    refine hd' Γ4 S4 σ H4 y y' w w' _ F4 (hw.mono (e3.trans e4)) hw' ((Post.bind P5).imp fun z5 S5 Γ5 H5 e5 F5 ⟨_, P6⟩ u5 hu5 => ?_)
    obtain ⟨k2, ek2, _, P7⟩ := toB_ok F5 hu5 (Post.bind P6)
    refine ⟨k2, ek2, ?_⟩
    cases k2 with
    | false => exact Post.ok (c := c) (W := W) P7 Gh.le.refl F5 _ ((Rep.bl_iff (c := c) (G := Γ5.G)).mpr rfl)
    | true =>
      refine ⟨Γ5, S5, F5, (Post.bind P7).imp fun y6 S6 Γ6 H6 e6 F6 ⟨_, P8⟩ w6 hw6 => ?_⟩
      exact hd'' Γ6 S6 σ H6 y' y6 w' w6 Q F6 (hw'.mono (e5.trans e6)) hw6 P8
theorem se_chain3 {p1 p2 p3 : CmpOp} {op op' op'' : R → R → M R} {r r' r'' : R2} (ho : OpR X (compareOp p1) r) (ho' : OpR X (compareOp p2) r') (ho'' : OpR X (compareOp p3) r'') (hd : OpD c W op r) (hd' : OpD c W op' r') (hd'' : OpD c W op'' r'') (ha : PE X a (rdE c W fa)) (hb : PE X b (rdE c W fb)) (hc : PE X e (rdE c W fc)) (he : PE X e4 (rdE c W fd))
    (hm : lastMarks [p1, p2, p3] [b, e, e4] = false := by with_unfolding_all rfl) : PE X (.Compare a [p1, p2, p3] [b, e, e4] pos) (rdE c W (eChain3 op op' op'' fa fb fc fd)) :=
  se_of (pe_chain3 ho ho' ho'' ha hb hc he hm) fun σ H Q q => chain3_read hd hd' hd'' q
theorem st_chain3 {p1 p2 p3 : CmpOp} {op op' op'' : R → R → M R} {r r' r'' : R2} (ho : OpR X (compareOp p1) r) (ho' : OpR X (compareOp p2) r') (ho'' : OpR X (compareOp p3) r'') (hd : OpD c W op r) (hd' : OpD c W op' r') (hd'' : OpD c W op'' r'') (ha : PE X a (rdE c W fa)) (hb : PE X b (rdE c W fb)) (hc : PE X e (rdE c W fc)) (he : PE X e4 (rdE c W fd))
    (hm : lastMarks [p1, p2, p3] [b, e, e4] = false := by with_unfolding_all rfl) : PT X (.Compare a [p1, p2, p3] [b, e, e4] pos) (rdT c W (tst (eChain3 op op' op'' fa fb fc fd))) :=
  st_of (pt_chain3 ho ho' ho'' ha hb hc he hm) fun σ H Q q => chain3_read hd hd' hd'' (tst_read q)
theorem eChain3_ap (op op' op'' : R → R → M R) (f g h k : M R) (S : Sg) : eChain3 op op' op'' f g h k S = (f S).bnd fun x S => (g S).bnd fun y S => (op x y S).bnd fun z S => (toB z S).bnd (ifK (fun S => (h S).bnd fun w S => (op' y w S).bnd fun z S => (toB z S).bnd (ifK (fun S => (k S).bnd fun u S => op'' w u S) fun S => .ok (.p (.bl false)) S)) fun S => .ok (.p (.bl false)) S) := by
  unfold eChain3
  rw [bind_bnd]
  refine bnd_ext fun x S1 => ?_
  rw [bind_bnd]
  refine bnd_ext fun y S2 => ?_
  rw [bind_bnd]
  refine bnd_ext fun z S3 => ?_
  rw [bind_bnd]
  refine bnd_ext fun b S4 => ?_
  cases b
  · rfl
  · show (_ >>= _ : M R) S4 = (h S4).bnd _
    rw [bind_bnd]
    refine bnd_ext fun w S5 => ?_
    rw [bind_bnd]
    refine bnd_ext fun z6 S6 => ?_
    rw [bind_bnd]
    refine bnd_ext fun b S7 => ?_
    cases b <;> rfl
/-! ### list.count of ints, list.extend by a list -/
def opCount : R → List R → M R := fun x xs S => match asI1 xs with
  | some k => (match getLst x S with
    | some l => (match intsOf l with
      | some ns => .ok (.p (.int (ns.count k : Nat))) S
      | none => .bad)
    | none => .bad)
  | none => .bad
theorem md_count (hK : X.K = c.K) : MtD c W opCount (rCntI X.K) := by
  intro Γ S σ H x v xs vs Q F hx hxs P
  unfold opCount at P
  cases hi : asI1 xs with
  | none => rw [hi] at P; exact P.elim
  | some k =>
    rw [hi] at P
    have hv := ints1 hxs hi
    subst hv
    simp only at P
    cases q : getLst x S with
    | none => rw [q] at P; exact P.elim
    | some l =>
      rw [q] at P
      simp only at P
      cases q2 : intsOf l with
      | none => rw [q2] at P; exact P.elim
      | some ns =>
        rw [q2] at P
        obtain ⟨a, ws, rfl, h1, h2⟩ := getLst_ok F hx q
        rw [intsOf_some q2] at h2
        rw [h2.ints] at h1
        exact ⟨a, ns, k, rfl, rfl, hK ▸ h1, Post.ok (c := c) (W := W) P Gh.le.refl F _ RepR.mkI⟩
theorem type_lcount : typeOf (.builtin "list.count") = pure (.type "method_descriptor") := by show builtinType _ = _; rw [builtinType_eq_fast]; kernel_rfl
def opExt : R → List R → M R := fun x xs S => match x, xs with
  | .r n, [y] => (match S.st[n]? with
    | some (.mu (.lst l)) => (match y with
      | .r m => (match S.st[m]? with
        | some (.mu (.lst l2)) => if n ≠ m ∧ l.length + l2.length ≤ sizeLine then .ok (.p .non) { S with st := S.st.set n (.mu (.lst (l ++ l2))) } else .bad
        | _ => .bad)
      | _ => .bad)
    | _ => .bad)
  | _, _ => .bad
theorem md_ext : MtD c W opExt rExtend := by
  intro Γ S σ H x v xs vs Q F hx hxs P
  unfold opExt at P
  cases x with
  | p d => exact P.elim
  | r n =>
    cases xs with
    | nil => exact P.elim
    | cons y ys =>
      cases ys with
      | cons z zs => exact P.elim
      | nil =>
        obtain ⟨u, rfl, hu⟩ := one_arg hxs
        simp only at P
        cases hn : S.st[n]? with
        | none => rw [hn] at P; exact P.elim
        | some q =>
          rw [hn] at P
          cases q with
          | dead => exact P.elim
          | fz l => exact P.elim
          | mu o =>
            cases o with
            | dct k => exact P.elim
            | obj k fs => exact P.elim
            | lst l =>
              cases y with
              | p d => exact P.elim
              | r m =>
                simp only at P
                cases hm : S.st[m]? with
                | none => rw [hm] at P; exact P.elim
                | some q =>
                  rw [hm] at P
                  cases q with
                  | dead => exact P.elim
                  | fz l => exact P.elim
                  | mu o =>
                    cases o with
                    | dct k => exact P.elim
                    | obj k fs => exact P.elim
                    | lst l2 =>
                      simp only at P
                      by_cases hz : n ≠ m ∧ l.length + l2.length ≤ sizeLine
                      · rw [if_pos hz] at P
                        obtain ⟨a, ws, rfl, r1, r2, r3, up⟩ := lstC F hx hn
                        obtain ⟨b, ws2, rfl, t1, t2, t3, up2⟩ := lstC F hu hm
                        exact ⟨a, b, ws, ws2, rfl, rfl, r2, t2, by rw [r3.length, t3.length]; exact hz.2, Post.ok (c := c) (W := W) P Gh.le.refl (up _ _ (r3.append t3)) _ RepR.mkN⟩
                      · rw [if_neg hz] at P; exact P.elim
theorem type_ext : typeOf (.builtin "list.extend") = pure (.type "method_descriptor") := by show builtinType _ = _; rw [builtinType_eq_fast]; kernel_rfl
theorem e_count {cpos : Pos} (hK : X.K = c.K) (ho : PE X o (rdE c W f)) (ha : PE X a (rdE c W fa)) (hbase : attributeBase o "count" X.env (eval o X.env) = eval o X.env := by rfl)
    (hfew : ((backTo cpos (starEach [a] X.env)).all (fun x => !x.1) && (backToKw cpos (keywordEach [] X.env)).all (fun x => x.1.isSome) && decide (([a] : List Expr).length + ([] : List Keyword).length + (if ([] : List Keyword).isEmpty then 0 else 1) < 30)) = true := by rfl)
    (hline : (apos.endLine == cpos.line) = true := by rfl) (hs : starEach [a] X.env = (false, eval a X.env) :: starEach [] X.env := by rfl) (hplain : (backTo cpos (starEach [] X.env)).any (·.1) = false := by rfl) :
    PE X (.Call (.Attribute o "count" apos) [a] [] cpos) (rdE c W (methM isLst opCount f (aC fa aN))) := se_bm F.plainAttrs_list F.slot_list_count type_lcount tyOk_V mt_lcount (ty_lst hK) (md_count hK) ho (sa_cons ha sa_nil hs) hbase hfew hline hs hplain
theorem e_ext {cpos : Pos} (hK : X.K = c.K) (ho : PE X o (rdE c W f)) (ha : PE X a (rdE c W fa)) (hbase : attributeBase o "extend" X.env (eval o X.env) = eval o X.env := by rfl)
    (hfew : ((backTo cpos (starEach [a] X.env)).all (fun x => !x.1) && (backToKw cpos (keywordEach [] X.env)).all (fun x => x.1.isSome) && decide (([a] : List Expr).length + ([] : List Keyword).length + (if ([] : List Keyword).isEmpty then 0 else 1) < 30)) = true := by rfl)
    (hline : (apos.endLine == cpos.line) = true := by rfl) (hs : starEach [a] X.env = (false, eval a X.env) :: starEach [] X.env := by rfl) (hplain : (backTo cpos (starEach [] X.env)).any (·.1) = false := by rfl) :
    PE X (.Call (.Attribute o "extend" apos) [a] [] cpos) (rdE c W (methM isLst opExt f (aC fa aN))) := se_bm F.plainAttrs_list F.slot_list_extend type_ext tyOk_V mt_extend (ty_lst hK) md_ext ho (sa_cons ha sa_nil hs) hbase hfew hline hs hplain
/-! ### in a list of data -/
def opInDG (neg : Bool) : R → R → M R := fun x y S => match dataR x S with
  | some d => (match dataR y S with
    | some (.list ds) => if SeqAt.shaped d = true ∧ SeqAt.shaped (.list ds) = true then .ok (.p (.bl (if neg then !ds.any fun z => PyData.eqv z d else ds.any fun z => PyData.eqv z d))) S else .bad
    | _ => .bad)
  | none => .bad
def opInD : R → R → M R := opInDG false
def opNotInD : R → R → M R := opInDG true
theorem od_inDG (hK : X.K = c.K) {neg : Bool} {r : R2} (hr : ∀ x y H Q, (∃ d ds, Dp X.K H x d ∧ Dp X.K H y (.list ds) ∧ SeqAt.shaped d = true ∧ SeqAt.shaped (.list ds) = true ∧ Q (.bl (if neg then !ds.any fun z => PyData.eqv z d else ds.any fun z => PyData.eqv z d)) H) → r x y H Q) : OpD c W (opInDG neg) r := by
  intro Γ S σ H x y v w Q F hx hy P
  unfold opInDG at P
  cases h1 : dataR x S with
  | none => rw [h1] at P; exact P.elim
  | some d =>
    rw [h1] at P
    simp only at P
    cases h2 : dataR y S with
    | none => rw [h2] at P; exact P.elim
    | some e =>
      rw [h2] at P
      cases e with
      | list ds =>
        simp only at P
        by_cases h : SeqAt.shaped d = true ∧ SeqAt.shaped (.list ds) = true
        · rw [if_pos h] at P
          exact hr _ _ _ _ ⟨d, ds, hK ▸ dataR_ok F hx h1, hK ▸ dataR_ok F hy h2, h.1, h.2, Post.ok (c := c) (W := W) P Gh.le.refl F _ RepR.mkB⟩
        · rw [if_neg h] at P; exact P.elim
      | _ => exact P.elim
theorem e_inD {k : Nat} (hr : Room k X.A) (hK : X.K = c.K) (ha : PE X a (rdE c W fa)) (hb : PE X b (rdE c W fb)) (hm : behindInMarks .In b = false := by rfl) : PE X (.Compare a [.In] [b] pos) (rdE c W (bin opInD fa fb)) := se_cmp (op_inD (Nat.lt_of_le_of_lt (by omega) (hu66 hr))) (od_inDG hK fun _ _ _ _ h => h) ha hb hm
theorem t_inD {k : Nat} (hr : Room k X.A) (hK : X.K = c.K) (ha : PE X a (rdE c W fa)) (hb : PE X b (rdE c W fb)) (hm : behindInMarks .In b = false := by rfl) : PT X (.Compare a [.In] [b] pos) (rdT c W (tst (bin opInD fa fb))) := st_cmp (op_inD (Nat.lt_of_le_of_lt (by omega) (hu66 hr))) (od_inDG hK fun _ _ _ _ h => h) ha hb hm
theorem e_notinD {k : Nat} (hr : Room k X.A) (hK : X.K = c.K) (ha : PE X a (rdE c W fa)) (hb : PE X b (rdE c W fb)) (hm : behindInMarks .NotIn b = false := by rfl) : PE X (.Compare a [.NotIn] [b] pos) (rdE c W (bin opNotInD fa fb)) := se_cmp (op_notInD (Nat.lt_of_le_of_lt (by omega) (hu66 hr))) (od_inDG hK fun _ _ _ _ h => h) ha hb hm
theorem t_notinD {k : Nat} (hr : Room k X.A) (hK : X.K = c.K) (ha : PE X a (rdE c W fa)) (hb : PE X b (rdE c W fb)) (hm : behindInMarks .NotIn b = false := by rfl) : PT X (.Compare a [.NotIn] [b] pos) (rdT c W (tst (bin opNotInD fa fb))) := st_cmp (op_notInD (Nat.lt_of_le_of_lt (by omega) (hu66 hr))) (od_inDG hK fun _ _ _ _ h => h) ha hb hm
theorem opInDG_of {neg : Bool} {x y : R} {d : PyData} {ds : List PyData} {S : Sg} (h1 : dataR x S = some d) (h2 : dataR y S = some (.list ds)) (s1 : SeqAt.shaped d = true) (s2 : SeqAt.shaped (.list ds) = true) : opInDG neg x y S = .ok (.p (.bl (if neg then !ds.any fun z => PyData.eqv z d else ds.any fun z => PyData.eqv z d))) S := by
  unfold opInDG
  simp only [h1, h2]
  rw [if_pos ⟨s1, s2⟩]
/-! ### tuples put together -/
def rCatTF (K : PySem.W.Frag) : R2 := fun x y H Q => ∃ a b xs ys, x = .ref a ∧ y = .ref b ∧ SqT K H a xs ∧ SqT K H b ys ∧ xs ≠ [] ∧ ys ≠ [] ∧ xs.length + ys.length ≤ sizeLine ∧ ∀ p o, H p = none → o.dict = none → Q (.ref p) (upd H p (.frz o (.tup (xs ++ ys))))
theorem op_catTF : OpR X (binaryOp .Add) (rCatTF X.K) := by
  intro pins s σ H x y v u Q I rx ry h
  obtain ⟨a, b, xs, ys, rfl, rfl, ha, hb, hx, hy, hz, q⟩ := h
  cases rx
  cases ry
  obtain ⟨its, r1, p1, _⟩ := I.tuple ha
  obtain ⟨its2, r2, p2, _⟩ := I.tuple hb
  refine HT.cat_tup p1 p2 (fun z => hx (r1.nil_iff.mp z)) (fun z => (hy (r2.nil_iff.mp z)).elim) (fun z => ?_) (by rw [← r1.length, ← r2.length]; exact hz)
  refine ⟨.ref s.heap.objs.size, _, I.laid (t' := s.toks) (o := .frz { cls := .type "tuple", data := .seq (its ++ its2).toArray } (.tup (xs ++ ys))) (fun b ob q => Heap.get?_push_of_some _ q) (Nat.le_refl _) ?_, rfl, q _ _ (I.hok.fresh (Nat.le_refl _)) rfl⟩
  exact ⟨Heap.get?_push_size _ rfl, by rw [List.length_append]; exact hz, _, r1.append r2, IsTup.new _ _⟩
def opAddT : R → R → M R := fun x y S => match x with
  | .p (.tup (d :: ds)) => (match y with
    | .p (.tup (e :: es)) => if ds.length + es.length < 1000 then .ok (.p (.tup ((d :: ds) ++ (e :: es)))) S else .bad
    | _ => .bad)
  | _ => .bad
theorem od_addT (hK : X.K = c.K) : OpD c W opAddT (rCatTF X.K) := by
  intro Γ S σ H x y v w Q F hx hy P
  unfold opAddT at P
  cases x with
  | r n => exact P.elim
  | p dx =>
    cases dx with
    | tup l =>
      cases l with
      | nil => exact P.elim
      | cons d ds =>
        cases y with
        | r n => exact P.elim
        | p dy =>
          cases dy with
          | tup l2 =>
            cases l2 with
            | nil => exact P.elim
            | cons e es =>
              simp only at P
              by_cases hz : ds.length + es.length < 1000
              · rw [if_pos hz] at P
                obtain ⟨a, vs, rfl, h1, h2⟩ := Rep.tup_iff.mp (RepR.pure.mp hx)
                obtain ⟨b, ws, rfl, k1, k2⟩ := Rep.tup_iff.mp (RepR.pure.mp hy)
                have l1 := h2.length
                have l2 := k2.length
                rw [List.length_cons] at l1 l2
                refine ⟨a, b, vs, ws, rfl, rfl, hK ▸ (TupS.mono F.s.g h1).sq, hK ▸ (TupS.mono F.s.g k1).sq, ?_, ?_, ?_, fun p o hp ho => ?_⟩
                · intro e; rw [e] at l1; simp at l1
                · intro e; rw [e] at l2; simp at l2
                · rw [sizeLine_eq]; omega
                · obtain ⟨Γ3, e3, F3, r3⟩ := newT_ok F (h2.append k2) hp ho
                  exact P.ok e3 F3 _ r3
              · rw [if_neg hz] at P; exact P.elim
          | _ => exact P.elim
    | _ => exact P.elim
theorem e_addT (hK : X.K = c.K) (ha : PE X a (rdE c W fa)) (hb : PE X b (rdE c W fb)) : PE X (.BinOp a .Add b pos) (rdE c W (bin opAddT fa fb)) := se_bin op_catTF (od_addT hK) ha hb
theorem opAddT_ap {d e : D} {ds es : List D} {S : Sg} (h : ds.length + es.length < 1000) : opAddT (.p (.tup (d :: ds))) (.p (.tup (e :: es))) S = .ok (.p (.tup ((d :: ds) ++ (e :: es)))) S := if_pos h
/-! ### a method of a screen -/
def methK' (m : Str) (F : Fn) (n : Nat) (g : M (List R)) (x : R) (S : Sg) : Res R := match insOf x S with
  | some (k', fs) => if k' = 0 ∧ fs.lookup m = none then (g S).bnd fun xs S => callK F n (x :: xs) S else .bad
  | none => .bad
theorem methU_ap (m : Str) (F : Fn) (n : Nat) (f : M R) (g : M (List R)) (S : Sg) : methU 0 m F n f g S = (f S).bnd (methK' m F n g) := by
  unfold methU
  rw [bind_bnd]
  refine bnd_ext fun x S1 => ?_
  unfold methK'
  cases insOf x S1 with
  | none => rfl
  | some q =>
    obtain ⟨k', fs⟩ := q
    by_cases h : k' = 0 ∧ fs.lookup m = none
    · show (if k' = 0 ∧ fs.lookup m = none then callM F n _ S1 else .bad) = (if k' = 0 ∧ fs.lookup m = none then _ else .bad)
      rw [if_pos h, if_pos h, callM_ap, bind_bnd]
      cases g S1 <;> rfl
    · show (if k' = 0 ∧ fs.lookup m = none then callM F n _ S1 else .bad) = (if k' = 0 ∧ fs.lookup m = none then _ else .bad)
      rw [if_neg h, if_neg h]
theorem methK'_scr {m : Str} {F : Fn} {n : Nat} {g : M (List R)} {l : List D} {S : Sg} (hm : (m == ("own_levels" : Str)) = false) : methK' m F n g (.p (.scr l)) S = (g S).bnd fun xs S => callK F n (.p (.scr l) :: xs) S := by
  have e : List.lookup m [(("own_levels" : Str), D.tup l)] = none := by
    show (match m == ("own_levels" : Str) with | true => _ | false => _) = _
    rw [hm]
    rfl
  show (if (0 : Nat) = 0 ∧ List.lookup m [(("own_levels" : Str), D.tup l)] = none then _ else _) = _
  rw [if_pos ⟨rfl, e⟩]
end
end Dd

set_option Elab.async false
set_option linter.all false
set_option maxRecDepth 100000
namespace Dd
open PySem PySem.Spec PyProof.Rows L2
section
variable {X : Cx} {c : Cg} {W : WX} {a b e o : Expr} {f fa fb : M R} {g : M (List R)} {pos p apos : Pos} {k n : Nat} {F : Fn} {fA : Addr} {fd : FuncData} {ps : List Str}
/-! ### an own == -/
theorem e_eqU (hK : X.K = c.K) (cf : ClsF c.K (c.cls k)) (hm : Meth X.K (c.cls k) "__eq__" fA) (Fk : FnG X.prog X.w X.K X.mg X.base n fA fd ps (spF c 2 F)) (hG : X.A.guards = some []) (hr : Room n X.A) (hb : Binds X.K fd ps [])
    (ha : PE X a (rdE c W fa)) (hb' : PE X b (rdE c W fb)) (hi : behindInMarks .Eq b = false := by rfl) : PE X (.Compare a [.Eq] [b] pos) (rdE c W (bin (opEqU k F) fa fb)) :=
  se_cmp (op_eqU Fk hm.at_ hm.fn hb hG hr) (od_eqU (n := n) hK cf) ha hb' hi
theorem t_eqU (hK : X.K = c.K) (cf : ClsF c.K (c.cls k)) (hm : Meth X.K (c.cls k) "__eq__" fA) (Fk : FnG X.prog X.w X.K X.mg X.base n fA fd ps (spF c 2 F)) (hG : X.A.guards = some []) (hr : Room n X.A) (hb : Binds X.K fd ps [])
    (ha : PE X a (rdE c W fa)) (hb' : PE X b (rdE c W fb)) (hi : behindInMarks .Eq b = false := by rfl) : PT X (.Compare a [.Eq] [b] pos) (rdT c W (tst (bin (opEqU k F) fa fb))) :=
  st_cmp (op_eqU Fk hm.at_ hm.fn hb hG hr) (od_eqU (n := n) hK cf) ha hb' hi
def insC : Option Cell → Option (Nat × List (Str × D))
  | some (.mu (.obj k fs)) => some (k, fs)
  | _ => none
theorem insOf_rC {i : Nat} {S : Sg} : insOf (.r i) S = insC S.st[i]? := by
  unfold insOf insC
  rfl
theorem opEqU_scr {l m : List D} {S : Sg} {b : Bool} {st : Store} (h : F [.p (.scr l), .p (.scr m)] S.st = .ok (.val (.bl b)) st) : opEqU 0 F (.p (.scr l)) (.p (.scr m)) S = .ok (.p (.bl b)) ⟨S.sl, st⟩ := by
  have e1 : insOf (.p (.scr l)) S = some ((0 : Nat), [(("own_levels" : Str), D.tup l)]) := rfl
  have e2 : insOf (.p (.scr m)) S = some ((0 : Nat), [(("own_levels" : Str), D.tup m)]) := rfl
  unfold opEqU
  simp only [e1, e2]
  rw [if_pos ⟨trivial, .inr rfl⟩, h]
theorem opEqU_scrK {l : List D} {d : D} {t : String} {S : Sg} {b : Bool} {st : Store} (hd : kindR (.p d) S = some t) (h : F [.p (.scr l), .p d] S.st = .ok (.val (.bl b)) st) : opEqU 0 F (.p (.scr l)) (.p d) S = .ok (.p (.bl b)) ⟨S.sl, st⟩ := by
  have e1 : insOf (.p (.scr l)) S = some ((0 : Nat), [(("own_levels" : Str), D.tup l)]) := rfl
  unfold opEqU
  simp only [e1]
  rw [if_pos ⟨trivial, .inl (by rw [hd]; rfl)⟩, h]
theorem opEqU_obj {i j : Nat} {fs gs : List (Str × D)} {S : Sg} {b : Bool} {st : Store} (hi : S.st[i]? = some (.mu (.obj k fs))) (hj : S.st[j]? = some (.mu (.obj k gs))) (h : F [.r i, .r j] S.st = .ok (.val (.bl b)) st) : opEqU k F (.r i) (.r j) S = .ok (.p (.bl b)) ⟨S.sl, st⟩ := by
  have e1 : insOf (.r i) S = some (k, fs) := by unfold insOf; simp only [hi]
  have e2 : insOf (.r j) S = some (k, gs) := by unfold insOf; simp only [hj]
  unfold opEqU
  simp only [e1, e2]
  rw [if_pos ⟨trivial, .inr rfl⟩, h]
/-! ### a module's tuple of ints and texts -/
def flatK : D → Value → Prop
  | .int i, u => ∃ t, u = .int i t
  | .str s, u => ∃ t, u = .str s t
  | _, _ => False
def FlatK : List D → List Value → Prop
  | [], us => us = []
  | d :: ds, us => ∃ u r, us = u :: r ∧ flatK d u ∧ FlatK ds r
theorem flatK_ok {G : Hp} {d : D} {u : Value} (h : flatK d u) : ∃ v, RelV v u ∧ Rep c G d v := by
  cases d with
  | int i => obtain ⟨t, rfl⟩ := h; exact ⟨.int i, ⟨t, rfl⟩, Rep.int_iff.mpr rfl⟩
  | str s => obtain ⟨t, rfl⟩ := h; exact ⟨.str s, ⟨t, rfl⟩, Rep.str_iff.mpr rfl⟩
  | _ => exact h.elim
theorem FlatK_ok {G : Hp} : ∀ {ds : List D} {us : List Value}, FlatK ds us → ∃ vs, Vals vs us ∧ RepL c G ds vs
  | [], us, h => by
    have : us = [] := h
    subst this
    exact ⟨[], .nil, RepL.nil⟩
  | d :: ds, us, h => by
    obtain ⟨u, r, rfl, h1, h2⟩ := h
    obtain ⟨v, k1, k2⟩ := flatK_ok (c := c) (G := G) h1
    obtain ⟨vs, k3, k4⟩ := FlatK_ok (G := G) h2
    exact ⟨v :: vs, .cons k1 k3, RepL.cons k2 k4⟩
theorem flatK_uniq {G : Hp} {d : D} {u : Value} {v v' : V} (h : flatK d u) (r : RelV v u) (p : Rep c G d v') : v' = v := by
  cases d with
  | int i =>
    obtain ⟨t, rfl⟩ := h
    rw [Rep.int_iff.mp p]
    cases v with
    | int j => obtain ⟨t', e⟩ := r; cases e; rfl
    | _ => first | (obtain ⟨t', e⟩ := r; cases e) | cases r
  | str s =>
    obtain ⟨t, rfl⟩ := h
    rw [Rep.str_iff.mp p]
    cases v with
    | str j => obtain ⟨t', e⟩ := r; cases e; rfl
    | _ => first | (obtain ⟨t', e⟩ := r; cases e) | cases r
  | _ => exact h.elim
/-- the constant x is a tuple -/
def TupC (K : PySem.W.Frag) (mg : Str → Option Value) (x : Str) (ds : List D) : Prop :=
  ∃ (a : Addr) (o : Obj) (its : Array Value) (n : Nat), mg x = some (.ref a) ∧ K.lookup a = some o ∧ o.cls = .type "tuple" ∧ o.dict = none ∧ o.data = .seq its n ∧ its.size ≤ sizeLine ∧ FlatK ds its.toList
theorem e_gT {x : Str} {ds : List D} (hK : X.K = c.K) (hm : TupC X.K X.mg x ds) (hg : Gl X x := by rfl) (hd : (x == ("__debug__" : Str)) = false := by decide) : PE X (.Name x pos) (rdE c W (cd (.tup ds))) := by
  obtain ⟨a, o, its, n, h1, h2, h3, h4, h5, h6, h7⟩ := hm
  refine se_tC (v := .ref a) (fun G => ?_) (pe_glob hg h1 rfl hd)
  obtain ⟨vs, k1, k2⟩ := FlatK_ok (c := c) (G := G) h7
  exact Rep.tup_iff.mpr ⟨a, vs, rfl, .inr ⟨o, its, n, hK ▸ h2, h3, h4, h5, h6, k1⟩, k2⟩
/-! ### attributes and methods of an object in a cell -/
theorem insOf_r {i : Nat} {fs : List (Str × D)} {S : Sg} (hi : S.st[i]? = some (.mu (.obj k fs))) : insOf (.r i) S = some (k, fs) := by unfold insOf; simp only [hi]
def attrC (k : Nat) (f' : Str) (S : Sg) : Option Cell → Res R
  | some (.mu (.obj k' fs)) => if k' = k then (match fs.lookup f' with
      | some d => .ok (.p d) S
      | none => .bad) else .bad
  | _ => .bad
theorem attrK_r {f' : Str} {i : Nat} {S : Sg} : attrK k f' (.r i) S = attrC k f' S S.st[i]? := by
  unfold attrK
  rw [insOf_rC]
  generalize S.st[i]? = z
  rcases z with _ | ((l | kv | ⟨k', fs⟩) | l | _) <;> rfl
theorem attrC_ap {f' : Str} {fs : List (Str × D)} {d : D} {S : Sg} (h : fs.lookup f' = some d) : attrC k f' S (some (.mu (.obj k fs))) = .ok (.p d) S := by
  unfold attrC
  simp only [if_true, h]
def fldC (k : Nat) (f' : Str) (d : D) (n : Nat) (S : Sg) : Option Cell → Res Fl
  | some (.mu (.obj k' fs)) => if k' = k ∧ fs.length < 900 then .ok .nx { S with st := S.st.set n (.mu (.obj k' (putD f' d fs))) } else .bad
  | _ => .bad
theorem fldK_r {f' : Str} {d : D} {n : Nat} {S : Sg} : fldK k f' d (.r n) S = fldC k f' d n S S.st[n]? := by
  unfold fldK fldC
  rfl
theorem fldC_ap {f' : Str} {d : D} {n : Nat} {fs : List (Str × D)} {S : Sg} (h : fs.length < 900) : fldC k f' d n S (some (.mu (.obj k fs))) = .ok .nx ⟨S.sl, S.st.set n (.mu (.obj k (putD f' d fs)))⟩ := by
  exact if_pos ⟨rfl, h⟩
def methC (k : Nat) (m : Str) (F : Fn) (n : Nat) (g : M (List R)) (x : R) (S : Sg) : Res R := match insOf x S with
  | some (k', fs) => if k' = k ∧ fs.lookup m = none then (g S).bnd fun xs S => callK F n (x :: xs) S else .bad
  | none => .bad
theorem methU_r (k : Nat) (m : Str) (F : Fn) (n : Nat) (f : M R) (g : M (List R)) (S : Sg) : methU k m F n f g S = (f S).bnd (methC k m F n g) := by
  unfold methU
  rw [bind_bnd]
  refine bnd_ext fun x S1 => ?_
  unfold methC
  cases insOf x S1 with
  | none => rfl
  | some q =>
    obtain ⟨k', fs⟩ := q
    by_cases h : k' = k ∧ fs.lookup m = none
    · show (if k' = k ∧ fs.lookup m = none then callM F n _ S1 else .bad) = (if k' = k ∧ fs.lookup m = none then _ else .bad)
      rw [if_pos h, if_pos h, callM_ap, bind_bnd]
      cases g S1 <;> rfl
    · show (if k' = k ∧ fs.lookup m = none then callM F n _ S1 else .bad) = (if k' = k ∧ fs.lookup m = none then _ else .bad)
      rw [if_neg h, if_neg h]
def methCC (k : Nat) (m : Str) (F : Fn) (n : Nat) (g : M (List R)) (i : Nat) (S : Sg) : Option Cell → Res R
  | some (.mu (.obj k' fs)) => if k' = k ∧ fs.lookup m = none then (g S).bnd fun xs S => callK F n (.r i :: xs) S else .bad
  | _ => .bad
theorem methC_r {m : Str} {g : M (List R)} {i : Nat} {S : Sg} : methC k m F n g (.r i) S = methCC k m F n g i S S.st[i]? := by
  unfold methC
  rw [insOf_rC]
  generalize S.st[i]? = z
  rcases z with _ | ((l | kv | ⟨k', fs⟩) | l | _) <;> rfl
theorem methCC_ap {m : Str} {g : M (List R)} {i : Nat} {fs : List (Str × D)} {S : Sg} (h : fs.lookup m = none) : methCC k m F n g i S (some (.mu (.obj k fs))) = (g S).bnd fun xs S => callK F n (.r i :: xs) S := by
  exact if_pos ⟨rfl, h⟩
def propC (k : Nat) (F : Fn) (i : Nat) (S : Sg) : Option Cell → Res R
  | some (.mu (.obj k' _)) => if k' = k then (match F [.r i] S.st with
      | .exc _ _ => .bad
      | r => applyF S r) else .bad
  | _ => .bad
theorem propK_r {i : Nat} {S : Sg} : propK k F (.r i) S = propC k F i S S.st[i]? := by
  unfold propK
  rw [insOf_rC]
  generalize S.st[i]? = z
  rcases z with _ | ((l | kv | ⟨k', fs⟩) | l | _) <;> rfl
def noX : FRes → FRes
  | .exc _ _ => .bad
  | r => r
theorem propC_ap {i : Nat} {fs : List (Str × D)} {S : Sg} : propC k F i S (some (.mu (.obj k fs))) = applyF S (noX (F [.r i] S.st)) := by
  show (if k = k then (match F [.r i] S.st with
      | .exc _ _ => Res.bad
      | r => applyF S r) else Res.bad) = _
  rw [if_pos rfl]
  cases F [.r i] S.st <;> rfl
theorem noX_ok {r : FR} {st : Store} : noX (.ok r st) = .ok r st := Eq.trans rfl rfl
/-! ### {} -/
def edE : M R := fun S => .ok (.r S.st.length) { S with st := S.st ++ [.mu (.dct [])] }
theorem edE_ap (S : Sg) : edE S = .ok (.r S.st.length) ⟨S.sl, S.st ++ [.mu (.dct [])]⟩ := Eq.trans rfl rfl
theorem se_edct : PE X (.Dict [] [] pos) (rdE c W edE) := se_of pe_dnewK fun σ H Q q => by
  obtain ⟨Γ, S, F, P⟩ := q
  intro p hp
  have le : Γ.le { Γ with ρ := Γ.ρ ++ [p] } := ⟨Ext.refl, rfl, [p], rfl⟩
  refine Post.ok (c := c) (W := W) P le (F.of le (F.s.newC hp ⟨rfl, rfl⟩)) _ ⟨p, ?_, rfl⟩
  show (Γ.ρ ++ [p])[S.st.length]? = some p
  rw [F.s.len]; simp
theorem pureC_dct {n : Nat} {S : Sg} : pureC n S (some (.mu (.dct []))) = .ok .edct { S with st := S.st.set n .dead } := Eq.trans rfl rfl
end
end Dd

set_option Elab.async false
set_option linter.all false
set_option maxRecDepth 100000
namespace Dd
open PySem PySem.Spec PyProof.Rows L2
open PySem.W (dataLt minD keyToks keyToksAll AlikeAll alike alikeAll)
/-! ### min of a list of pairs of ints -/
def pairsOf : List D → Option (List (Int × Int))
  | [] => some []
  | .tup [.int a, .int b] :: r => (match pairsOf r with
    | some ps => some ((a, b) :: ps)
    | none => none)
  | _ => none
def ltP (p q : Int × Int) : Bool := decide (p.1 < q.1 ∨ (p.1 = q.1 ∧ p.2 < q.2))
def minP (p : Int × Int) (ps : List (Int × Int)) : Int × Int := ps.foldl (fun a y => if ltP y a then y else a) p
def pdP (p : Int × Int) : PyData := .tuple [.int p.1, .int p.2]
theorem dataLt_pdP (p q : Int × Int) : dataLt (pdP p) (pdP q) = ltP p q := by
  unfold dataLt pdP ltP
  simp only [keyToks, keyToksAll, List.singleton_append, List.cons_append, List.nil_append, PyProof.Rows.lexLt, PyProof.Rows.itemOrd, PyProof.Rows.itemLt]
  by_cases h1 : p.1 < q.1
  · simp [h1]
  · by_cases h2 : p.1 = q.1
    · rw [h2]; simp
    · have : q.1 < p.1 := by omega
      simp [h1, h2, this]
theorem minD_pdP : ∀ (ps : List (Int × Int)) (p : Int × Int), minD (pdP p) (ps.map pdP) = pdP (minP p ps)
  | [], p => rfl
  | q :: ps, p => by
    show minD (if dataLt (pdP q) (pdP p) = true then pdP q else pdP p) (ps.map pdP) = pdP (minP (if ltP q p = true then q else p) ps)
    rw [dataLt_pdP, ← minD_pdP ps]
    split <;> rfl
theorem minP_mem : ∀ (ps : List (Int × Int)) (p : Int × Int), minP p ps ∈ p :: ps
  | [], p => List.mem_cons_self
  | q :: ps, p => by
    have := minP_mem ps (if ltP q p = true then q else p)
    show minP (if ltP q p = true then q else p) ps ∈ _
    rcases List.mem_cons.mp this with h | h
    · rw [h]; split
      · exact List.mem_cons_of_mem _ List.mem_cons_self
      · exact List.mem_cons_self
    · exact List.mem_cons_of_mem _ (List.mem_cons_of_mem _ h)
theorem minP_le : ∀ (ps : List (Int × Int)) (p y : Int × Int), y ∈ p :: ps → ltP y (minP p ps) = false
  | [], p, y, h => by
    rw [List.mem_singleton.mp h]
    show ltP p p = false
    unfold ltP
    exact decide_eq_false (by omega)
  | q :: ps, p, y, h => by
    show ltP y (minP (if ltP q p = true then q else p) ps) = false
    have ih := minP_le ps (if ltP q p = true then q else p)
    have lem : ∀ z : Int × Int, ltP (if ltP q p = true then q else p) z = false → ltP p z = false ∧ ltP q z = false := fun z hz => by
      by_cases c : ltP q p = true
      · rw [if_pos c] at hz
        refine ⟨?_, hz⟩
        unfold ltP at *
        have c := of_decide_eq_true c
        have hz := of_decide_eq_false hz
        exact decide_eq_false (by omega)
      · rw [if_neg c] at hz
        refine ⟨hz, ?_⟩
        unfold ltP at *
        have c : ¬ _ := fun z => c (decide_eq_true z)
        have hz := of_decide_eq_false hz
        exact decide_eq_false (by omega)
    have l0 := lem _ (ih _ List.mem_cons_self)
    rcases List.mem_cons.mp h with rfl | h
    · exact l0.1
    · rcases List.mem_cons.mp h with rfl | h
      · exact l0.2
      · exact ih _ (List.mem_cons_of_mem _ h)
/-- min(xs), xs a list of pairs of ints: the item that is the least -/
def rMinP (K : PySem.W.Frag) : List V → Hp → VK → Prop := fun vs H Q => ∃ (a : Addr) (xs : List V) (p : Int × Int) (ps : List (Int × Int)), vs = [V.ref a] ∧ SqL K H a xs ∧ DpAll K H xs ((p :: ps).map pdP) ∧ ∀ (i : Nat) (y : V), xs[i]? = some y → (p :: ps)[i]? = some (minP p ps) → Q y H
theorem depth_pdP : ∀ ps : List (Int × Int), PyData.depthAll (ps.map pdP) ≤ 1
  | [] => Nat.zero_le _
  | p :: ps => by
    show max (PyData.depth (pdP p)) (PyData.depthAll (ps.map pdP)) ≤ 1
    have := depth_pdP ps
    have e : PyData.depth (pdP p) = 1 := rfl
    omega
theorem alike_pdP (ps : List (Int × Int)) : AlikeAll (ps.map pdP) := by
  constructor
  · intro x hx y hy
    obtain ⟨p, _, rfl⟩ := List.mem_map.mp hx
    obtain ⟨q, _, rfl⟩ := List.mem_map.mp hy
    simp [pdP, alike, alikeAll]
  · intro x hx
    obtain ⟨p, _, rfl⟩ := List.mem_map.mp hx
    simp [pdP]
theorem cr_minP {X : Cx} (hc : X.calm = true) (hu : X.A.units + 66 < cLine) : CallR X (.builtin "min") (rMinP X.K) := by
  intro pins s σ H vs us Q I r h
  obtain ⟨a, xs, p, ps, rfl, hs, hd, q⟩ := h
  obtain ⟨its, rv, hl, _⟩ := I.list hs
  rw [Vals.ref1 r]
  obtain ⟨as, ra⟩ := Dp.readsAll I _ xs its hd rv
  refine PySem.W.min_list_data (x := pdP p) (xs := ps.map pdP) (I.ok.hd hc) hl.isList (by simpa using ra) (alike_pdP (p :: ps)) (by have := depth_pdP (p :: ps); rw [List.map_cons] at this; omega) fun i v h' tk bs hv rd hk => ?_
  have hv' : its[i]? = some v := by simpa using hv
  obtain ⟨bs', r1, hi, _, _⟩ := PySem.W.readsAll_at ra i v hv'
  have e1 := (PyProof.Rows.reads_det (fun b o e _ => hk b o e) r1 rd).1
  rw [minD_pdP] at e1
  have hlen : i < (p :: ps).length := by rw [List.length_map] at hi; exact hi
  have hm : (p :: ps)[i]? = some (minP p ps) := by
    rw [List.getD_eq_getElem?_getD, List.getElem?_map, List.getElem?_eq_getElem hlen] at e1
    rw [List.getElem?_eq_getElem hlen]
    have e2 : pdP (minP p ps) = pdP (p :: ps)[i] := e1
    unfold pdP at e2
    simp only [PyData.tuple.injEq, List.cons.injEq, PyData.int.injEq, and_true] at e2
    exact congrArg some (Prod.ext e2.1.symm e2.2.symm)
  have hx : i < xs.length := by
    have := (List.getElem?_eq_some_iff.mp hv').1
    rw [rv.length] at *
    first | exact this | omega
  have hy : xs[i]? = some xs[i] := List.getElem?_eq_getElem hx
  obtain ⟨u, hu1, hu2⟩ := Vals.get rv hy
  rw [hv'] at hu1
  cases hu1
  exact ⟨xs[i], H, I.kept hk, hu2, q i _ hy hm⟩
theorem pairsOf_py : ∀ {l : List D} {ps : List (Int × Int)}, pairsOf l = some ps → toPyL l = some (ps.map pdP) ∧ ∀ (i : Nat) (p : Int × Int), ps[i]? = some p → l[i]? = some (.tup [.int p.1, .int p.2])
  | [], ps, h => by cases h; exact ⟨rfl, fun i p e => by simp at e⟩
  | d :: r, ps, h => by
    unfold pairsOf at h
    split at h
    · rename_i e; cases e
    · rename_i a b r' e
      cases e
      cases q : pairsOf r with
      | none => rw [q] at h; cases h
      | some qs =>
        rw [q] at h
        cases h
        obtain ⟨h1, h2⟩ := pairsOf_py q
        refine ⟨?_, fun i p e => ?_⟩
        · show toPyL (.tup [.int a, .int b] :: r) = _
          unfold toPyL
          rw [h1]; rfl
        · cases i with
          | zero => cases e; rfl
          | succ i => exact h2 i p (by simpa using e)
    · cases h
def minPK (S : Sg) : Option (List D) → Res R
  | some l => (match pairsOf l with
    | some (p :: ps) => .ok (.p (.tup [.int (minP p ps).1, .int (minP p ps).2])) S
    | _ => .bad)
  | none => .bad
def opMinP : R → M R := fun x S => minPK S (getLst x S)
section
variable {X : Cx} {c : Cg} {W : WX} {a : Expr} {f : M R} {pos p : Pos}
theorem cd_minP (hK : X.K = c.K) : CallD c W (op1 opMinP) (rMinP X.K) :=
  cd_one (r := fun v H Q => rMinP X.K [v] H Q) (by
    intro Γ S σ H x v Q F hv P
    unfold opMinP minPK at P
    cases hl : getLst x S with
    | none => rw [hl] at P; exact P.elim
    | some l =>
      rw [hl] at P
      simp only at P
      cases hb : pairsOf l with
      | none => rw [hb] at P; exact P.elim
      | some qs =>
        rw [hb] at P
        cases qs with
        | nil => exact P.elim
        | cons p ps =>
          simp only at P
          obtain ⟨a, vs, rfl, h1, h2⟩ := getLst_ok F hv hl
          obtain ⟨e1, e2⟩ := pairsOf_py hb
          refine ⟨a, vs, p, ps, rfl, hK ▸ h1, hK ▸ DpAll.mono F.s.g (toPyL_dp e1 h2), fun i y hy hm => ?_⟩
          obtain ⟨y', hy', ry⟩ := RepL.get h2 (e2 i _ hm)
          rw [hy] at hy'
          cases hy'
          exact Post.ok (c := c) (W := W) P Gh.le.refl F _ (RepR.pure.mpr ry)) (fun v H Q h => h)
theorem e_minP {k : Nat} (hr : Room k X.A) (hK : X.K = c.K) (hc : X.calm = true) (hm : X.mg "min" = none) (ha : PE X a (rdE c W f)) (hg : Gl X "min" := by rfl) (he : starEach [a] X.env = (false, eval a X.env) :: starEach [] X.env := by rfl) (hpl : (backTo pos (starEach [] X.env)).any (·.1) = false := by rfl) :
    PE X (.Call (.Name "min" p) [a] [] pos) (rdE c W (opA (op1 opMinP) (aC f aN))) := se_callB (cr_minP hc (hu66 hr)) (cd_minP hK) hg hm (by decide +kernel) (sa_cons ha sa_nil he) (by decide) (by decide) he hpl
end
/-! ### min of a tuple of ints -/
def rMinT (K : PySem.W.Frag) : List V → Hp → VK → Prop := fun vs H Q => ∃ (a : Addr) (n : Int) (ns : List Int), vs = [V.ref a] ∧ SqT K H a ((n :: ns).map V.int) ∧ Q (.int (ns.foldl min n)) H
theorem dpAll_ints {K : PySem.W.Frag} {H : Hp} : ∀ ns : List Int, DpAll K H (ns.map V.int) (ns.map PyData.int)
  | [] => .nil
  | n :: ns => .cons (.int n) (dpAll_ints ns)
theorem depthAll_ints : ∀ ns : List Int, PyData.depthAll (ns.map PyData.int) = 0
  | [] => rfl
  | n :: ns => by
    show max (PyData.depth (.int n)) (PyData.depthAll (ns.map .int)) = 0
    rw [depthAll_ints ns]; rfl
theorem alike_ints (ns : List Int) : AlikeAll (ns.map PyData.int) := by
  constructor
  · intro x hx y hy
    obtain ⟨p, _, rfl⟩ := List.mem_map.mp hx
    obtain ⟨q, _, rfl⟩ := List.mem_map.mp hy
    simp [alike]
  · intro x hx
    obtain ⟨p, _, rfl⟩ := List.mem_map.mp hx
    simp
theorem cr_minT {X : Cx} (hc : X.calm = true) (hu : X.A.units + 66 < cLine) : CallR X (.builtin "min") (rMinT X.K) := by
  intro pins s σ H vs us Q I r h
  obtain ⟨a, n, ns, rfl, hs, q⟩ := h
  obtain ⟨its, rv, hl, _⟩ := I.tuple hs
  rw [Vals.ref1 r]
  obtain ⟨as, ra⟩ := Dp.readsAll I _ _ its (dpAll_ints (n :: ns)) rv
  refine PySem.W.min_tuple_data (x := .int n) (xs := ns.map .int) (I.ok.hd hc) hl (by simpa using ra) (alike_ints (n :: ns)) (by have := depthAll_ints (n :: ns); rw [List.map_cons] at this; omega) fun i v h' tk bs hv rd hk => ?_
  rw [PySem.W.minD_ints] at rd
  cases rd
  exact ⟨.int _, H, I.kept hk, ⟨_, rfl⟩, q⟩
def minTK (S : Sg) : Option (List Int) → Res R
  | some (n :: ns) => .ok (.p (.int (ns.foldl min n))) S
  | _ => .bad
def opMinT : R → M R := fun x S => match x with
  | .p (.tup l) => minTK S (intsOf l)
  | _ => .bad
section
variable {X : Cx} {c : Cg} {W : WX} {a : Expr} {f : M R} {pos p : Pos}
theorem cd_minT (hK : X.K = c.K) : CallD c W (op1 opMinT) (rMinT X.K) :=
  cd_one (r := fun v H Q => rMinT X.K [v] H Q) (by
    intro Γ S σ H x v Q F hv P
    unfold opMinT at P
    cases x with
    | r n => exact P.elim
    | p d =>
      cases d with
      | tup l =>
        unfold minTK at P
        simp only at P
        cases hb : intsOf l with
        | none => rw [hb] at P; exact P.elim
        | some qs =>
          rw [hb] at P
          cases qs with
          | nil => exact P.elim
          | cons n ns =>
            simp only at P
            obtain ⟨a, vs, rfl, h1, h2⟩ := Rep.tup_iff.mp (RepR.pure.mp hv)
            rw [intsOf_some hb] at h2
            rw [h2.ints] at h1
            exact ⟨a, n, ns, rfl, hK ▸ SqT.mono F.s.g h1.sq, Post.ok (c := c) (W := W) P Gh.le.refl F _ RepR.mkI⟩
      | _ => exact P.elim) (fun v H Q h => h)
theorem e_minT {k : Nat} (hr : Room k X.A) (hK : X.K = c.K) (hc : X.calm = true) (hm : X.mg "min" = none) (ha : PE X a (rdE c W f)) (hg : Gl X "min" := by rfl) (he : starEach [a] X.env = (false, eval a X.env) :: starEach [] X.env := by rfl) (hpl : (backTo pos (starEach [] X.env)).any (·.1) = false := by rfl) :
    PE X (.Call (.Name "min" p) [a] [] pos) (rdE c W (opA (op1 opMinT) (aC f aN))) := se_callB (cr_minT hc (hu66 hr)) (cd_minT hK) hg hm (by decide +kernel) (sa_cons ha sa_nil he) (by decide) (by decide) he hpl
end
theorem opMinT_t {l : List D} {S : Sg} : opMinT (.p (.tup l)) S = minTK S (intsOf l) := Eq.trans rfl rfl
/-! ### zip of two lists -/
def zipD (l l2 : List D) : List (List D) := List.zipWith (fun x y => [x, y]) l l2
def zipK (S : Sg) : List R → Res (Itm (List D))
  | [x, y] => (match getLst x S with
    | some l => (match getLst y S with
      | some l2 => .ok ⟨fun S' => getLst x S' = some l ∧ getLst y S' = some l2, zipD l l2⟩ S
      | none => .bad)
    | none => .bad)
  | _ => .bad
def itZ (g : M (List R)) : M (Itm (List D)) := do
  let xs ← g
  fun S => zipK S xs
section
variable {X : Cx} {c : Cg} {W : WX} {e e2 : Expr} {f f2 : M R} {pos p tpos : Pos} {elts : List Expr} {kk : Nat}
theorem zip_ok {Γ0 : Gh} {x y : R} {a b : Addr} {l l2 : List D} (hx : RepR c Γ0 x (.ref a)) (hy : RepR c Γ0 y (.ref b)) : ItOkT c Γ0 ⟨fun S' => getLst x S' = some l ∧ getLst y S' = some l2, zipD l l2⟩ (Itz c.K a b) := by
  intro Γ S σ H i sb F hok
  obtain ⟨o1, o2⟩ := hok
  obtain ⟨a', vs, e1, h1, h2⟩ := getLst_ok F (hx.sub sb) o1
  cases e1
  obtain ⟨b', ws, e1, h3, h4⟩ := getLst_ok F (hy.sub sb) o2
  cases e1
  refine ⟨fun ds hd => ?_, fun hl => ?_⟩
  · unfold zipD at hd
    rw [List.getElem?_zipWith] at hd
    cases q1 : l[i]? with
    | none => rw [q1] at hd; cases hd
    | some d1 =>
      cases q2 : l2[i]? with
      | none => rw [q1, q2] at hd; cases hd
      | some d2 =>
        rw [q1, q2] at hd
        cases hd
        obtain ⟨v, k1, r1⟩ := h2.get q1
        obtain ⟨u, k2, r2⟩ := h4.get q2
        refine ⟨⟨vs, ws, v, u, h1, h3, k1, k2⟩, fun z H' hz => ?_⟩
        obtain ⟨T, x', y', rfl, hT, rfl, z1, z2⟩ := hz
        have z1 := z1 vs h1
        have z2 := z2 ws h3
        rw [k1] at z1; cases z1
        rw [k2] at z2; cases z2
        obtain ⟨Γ', le, F'⟩ := newW_ok (vs := [v, u]) F hT
        exact ⟨Γ', T, _, le, F', rfl, upd_same, RepL.cons (r1.mono le.g) (RepL.one (r2.mono le.g))⟩
  · refine ⟨vs, ws, h1, h3, ?_⟩
    rw [h2.length, h4.length]
    have : (zipD l l2).length = min l.length l2.length := List.length_zipWith
    have hl' : (zipD l l2).length = i := hl
    omega
theorem si_zip {g : M (List R)} (hK : X.K = c.K) (hg : Gl X "zip") (hm : X.mg "zip" = none) (ha : PA X [e, e2] (rdA c W g))
    (hs : starEach [e, e2] X.env = (false, eval e X.env) :: starEach [e2] X.env := by rfl) (hpl : (backTo pos (starEach [e2] X.env)).any (·.1) = false := by rfl) :
    PI X (.Tuple elts kk tpos) (.Call (.Name "zip" p) [e, e2] [] pos) (rdIT c W (itZ g)) :=
  siT_of (pi_zip hg hm ha hs hpl) fun σ H R q => by
    obtain ⟨Γ, S, F, P⟩ := q
    refine ⟨Γ, S, F, ?_⟩
    refine (Post.bind P).imp fun xs S1 Γ1 H1 e1 F1 ⟨_, P1⟩ vs hvs => ?_
    unfold zipK at P1
    match xs, hvs, P1 with
    | [x, y], hvs, P1 =>
      obtain ⟨v, r, rfl, hv, u, r', rfl, hu, hr⟩ := hvs
      have hr : r' = [] := hr
      subst hr
      simp only at P1
      cases q1 : getLst x S1 with
      | none => rw [q1] at P1; exact P1.elim
      | some l =>
        rw [q1] at P1
        simp only at P1
        cases q2 : getLst y S1 with
        | none => rw [q2] at P1; exact P1.elim
        | some l2 =>
          rw [q2] at P1
          have P2 := fun J hJ => Post.ok (c := c) (W := W) P1 Gh.le.refl F1 J hJ
          obtain ⟨a, ws, rfl, h1, _⟩ := getLst_ok F1 hv q1
          obtain ⟨b, ws2, rfl, h3, _⟩ := getLst_ok F1 hu q2
          exact ⟨a, b, ws, ws2, rfl, hK ▸ h1, hK ▸ h3, P2 _ (hK ▸ zip_ok hv hu)⟩
    | [], _, P1 => exact P1.elim
    | [_], _, P1 => exact P1.elim
    | _ :: _ :: _ :: _, _, P1 => exact P1.elim
end
theorem opMinP_e {x : R} {S : Sg} : opMinP x S = minPK S (getLst x S) := Eq.trans rfl rfl
end Dd

set_option Elab.async false
set_option linter.all false
set_option maxRecDepth 100000
namespace Dd
open PySem PySem.Spec PyProof.Rows L2
/-! ### xs[::-1] -/
section
variable {X : Cx} {c : Cg} {W : WX} {e stp : Expr} {f : M R} {s : M (Option Int)} {pos p2 : Pos}
theorem pe_rev {te : TE} {ts : TO} (he : PE X e te) (hs : PO X (some stp) ts) : PE X (.Subscript e (.Slice none none (some stp) p2) pos)
    (fun σ H Q => te σ H fun x H1 => ts σ H1 fun o H2 => o = some (-1) ∧ ∃ a xs, x = .ref a ∧ SqL X.K H2 a xs ∧ ∀ p, H2 p = none → Q (.ref p) (upd H2 p (.lst xs.reverse))) := by
  refine ⟨fun pins s σ H Q I h => ?_⟩
  refine Subscript_ (thn (he.run pins s σ H _ I h) fun v s1 ⟨x, H1, I1, r1, q1⟩ => ?_)
  refine wpAny_Slice ?_
  rw [evalPart_none]
  refine wpAny_pure (wpAny_pure ?_)
  refine thn (hs.run pins s1 σ H1 _ I1 q1) fun vs s2 ⟨o, H2, I2, ps, e1, a, xs, e2, hx, q⟩ => ?_
  subst e1 e2
  cases r1
  have I3 : Inv X pins σ H2 { s2 with heap := s2.heap.push { cls := .type "slice", data := .fields #[.none, .none, vs] } } := I2.kept (t' := s2.toks) fun b ob q => Heap.get?_push_of_some _ q
  obtain ⟨its, r, ht, hz⟩ := I3.list hx
  show wpAny (model X.prog X.w) X.A (subscriptTail e (.Slice none none (some stp) p2) (.ref a) (.ref s2.heap.objs.size)) (EP X pins σ Q) X.xe { s2 with heap := s2.heap.push { cls := .type "slice", data := .fields #[.none, .none, vs] } }
  refine tail_any (ops := [.ref a, .ref s2.heap.objs.size]) ht.isList.typeIs slot_list_getitem.lookup ?_ (by with_unfolding_all rfl)
  have hz2 : its.toArray.size ≤ sizeLine := by rw [List.size_toArray, ← r.length]; exact hz
  refine wpAny_getItem_list_slice ht.isList (Heap.IsSliceOf.new ..) .none .none ps (by simp) ?_ hz2
  rw [PySem.W.krv_pick]
  refine ⟨.ref _, _, I3.laid (t' := s2.toks) (o := .lst xs.reverse) (fun b ob q => Heap.get?_push_of_some _ q) (Nat.le_refl _) ?_, rfl, q _ (I3.hok.fresh (Nat.le_refl _))⟩
  refine ⟨by rw [List.length_reverse]; exact hz, its.reverse, 0, r.reverse, Heap.get?_push_size _ ?_⟩
  rfl
def opRev (x : R) : Option Int → M R
  | some z => fun S => if z = -1 then (match getLst x S with
    | some l => if l.length ≤ sizeLine then .ok (.r S.st.length) { S with st := S.st ++ [.mu (.lst l.reverse)] } else .bad
    | none => .bad) else .bad
  | none => bad
def revE (f : M R) (s : M (Option Int)) : M R := do
  let x ← f
  let o ← s
  opRev x o
theorem RepL.reverse {G : Hp} : ∀ {ds : List D} {vs : List V}, RepL c G ds vs → RepL c G ds.reverse vs.reverse
  | [], vs, h => by rw [RepL.nil_iff.mp h]; exact RepL.nil
  | d :: ds, vs, h => by
    obtain ⟨v, r, rfl, h1, t⟩ := RepL.cons_iff.mp h
    rw [List.reverse_cons, List.reverse_cons]
    exact RepL.append (RepL.reverse t) (RepL.one h1)
theorem se_rev (hK : X.K = c.K) (he : PE X e (rdE c W f)) (hs : PO X (some stp) (rdO c W s)) : PE X (.Subscript e (.Slice none none (some stp) p2) pos) (rdE c W (revE f s)) :=
  se_of (pe_rev he hs) fun σ H Q q => by
    obtain ⟨Γ, S, F, P⟩ := q
    refine ⟨Γ, S, F, (Post.bind P).imp fun x S1 Γ1 H1 e1 F1 ⟨_, P1⟩ v hv => ?_⟩
    refine ⟨Γ1, S1, F1, (Post.bind P1).imp fun o S2 Γ2 H2 e2 F2 ⟨_, P2⟩ => ?_⟩
    cases o with
    | none => exact P2.elim
    | some z =>
      unfold opRev at P2
      simp only at P2
      by_cases hz : z = -1
      · rw [if_pos hz] at P2
        refine ⟨by rw [hz], ?_⟩
        cases hl : getLst x S2 with
        | none => rw [hl] at P2; exact P2.elim
        | some l =>
          rw [hl] at P2
          simp only at P2
          by_cases hn : l.length ≤ sizeLine
          · rw [if_pos hn] at P2
            obtain ⟨a, vs, rfl, h1, h2⟩ := getLst_ok F2 (hv.mono e2) hl
            refine ⟨a, vs, rfl, hK ▸ h1, fun p hp => ?_⟩
            obtain ⟨Γ3, e3, F3, r3⟩ := newL_ok F2 h2.reverse hp
            exact Post.ok (c := c) (W := W) P2 e3 F3 _ r3
          · rw [if_neg hn] at P2; exact P2.elim
      · rw [if_neg hz] at P2; exact P2.elim
theorem revE_ap (f : M R) (s : M (Option Int)) (S : Sg) : revE f s S = (f S).bnd fun x S => (s S).bnd fun o S => opRev x o S := by
  unfold revE
  rw [bind_bnd]
  refine bnd_ext fun x S1 => ?_
  rw [bind_bnd]
def revK : Option (List D) → Sg → Res R
  | some l, S => if l.length ≤ sizeLine then .ok (.r S.st.length) { S with st := S.st ++ [.mu (.lst l.reverse)] } else .bad
  | none, _ => .bad
theorem opRev_ap {x : R} {S : Sg} : opRev x (some (-1)) S = revK (getLst x S) S := by
  unfold opRev revK
  simp only [if_true]
  cases getLst x S <;> rfl
theorem revK_ap {l : List D} {S : Sg} (h : l.length ≤ 1000000) : revK (some l) S = .ok (.r S.st.length) ⟨S.sl, S.st ++ [.mu (.lst l.reverse)]⟩ := if_pos (Nat.le_trans h (by rw [sizeLine_eq]; decide))
end
/-! ### list.count of texts -/
def strsOf : List D → Option (List Str)
  | [] => some []
  | .str s :: r => (match strsOf r with
    | some l => some (s :: l)
    | none => none)
  | _ => none
theorem strsOf_some : ∀ {l : List D} {ss : List Str}, strsOf l = some ss → l = ss.map .str
  | [], ss, h => by cases h; rfl
  | d :: r, ss, h => by
    unfold strsOf at h
    split at h
    · rename_i e; cases e
    · rename_i s r' e
      cases e
      cases q : strsOf r with
      | none => rw [q] at h; cases h
      | some l => rw [q] at h; cases h; rw [strsOf_some q]; rfl
    · cases h
theorem strsOf_map : ∀ ss : List Str, strsOf (ss.map .str) = some ss
  | [] => rfl
  | s :: r => by
    show strsOf (.str s :: r.map .str) = _
    unfold strsOf
    rw [strsOf_map r]
def rCntS (K : PySem.W.Frag) : V → List V → Hp → VK → Prop := fun x xs H Q => ∃ (p : Addr) (ss : List Str) (k : Str), x = .ref p ∧ xs = [.str k] ∧ SqL K H p (ss.map V.str) ∧ Q (.int (ss.count k : Nat)) H
theorem strOf_count {k : Str} : ∀ {vs : List Value} {ys : List Str}, StrsAre vs ys → vs.countP (isStrOf k) = ys.count k
  | _, _, .nil => rfl
  | _, _, .cons n t h => by
    rw [List.countP_cons, List.count_cons, strOf_count h]
    rfl
theorem mt_scount {X : Cx} : MtR X "list.count" (rCntS X.K) := by
  intro pins s σ H x xs v us Q I rx rxs h
  obtain ⟨p, ss, k, rfl, rfl, hs, q⟩ := h
  cases rx
  obtain ⟨u, rfl, ru⟩ := rxs.one
  obtain ⟨t, rfl⟩ := ru
  obtain ⟨its, rv, ⟨⟨cls, dd, data, sl⟩, n, ho, hc, hdn, hd⟩, hlen⟩ := I.list hs
  simp only at hc hd
  subst hc hd
  have hi := Vals.strs rv
  refine call_meets PySem.F.slot_list_count ⟨_, ho, rfl⟩ PySem.F.entry_list_count (PySem.F.args_list_count_2 _ _)
    (SeqAt.list_countAt p its.toArray n dd sl (.str k t) (isStrOf k)) ⟨ho, fun y hy => (eq_isStrOf k t hi y (by simpa using hy)).at _ _, ?_⟩
  have ec : its.toArray.toList.countP (isStrOf k) = ss.count k := strOf_count hi
  refine ⟨.int (ss.count k : Nat), H, I.tok _, ⟨s.toks, ?_⟩, q⟩
  show Value.int ((its.toArray.toList.countP (isStrOf k) : Nat) : Int) s.toks = Value.int ((ss.count k : Nat) : Int) s.toks
  rw [ec]
def cntSK (k : Str) (S : Sg) : Option (List D) → Res R
  | some l => (match strsOf l with
    | some ss => .ok (.p (.int (ss.count k : Nat))) S
    | none => .bad)
  | none => .bad
def opCountS : R → List R → M R := fun x xs S => match xs with
  | [.p (.str k)] => cntSK k S (getLst x S)
  | _ => .bad
section
variable {X : Cx} {c : Cg} {W : WX} {o a : Expr} {f fa : M R} {apos : Pos}
theorem md_countS (hK : X.K = c.K) : MtD c W opCountS (rCntS X.K) := by
  intro Γ S σ H x v xs vs Q F hx hxs P
  unfold opCountS at P
  split at P
  · rename_i k
    obtain ⟨v1, r, rfl, h1, h2⟩ := hxs
    have h2 : r = [] := h2
    subst h2
    have h1 := RepR.str h1
    subst h1
    unfold cntSK at P
    cases q : getLst x S with
    | none => rw [q] at P; exact P.elim
    | some l =>
      rw [q] at P
      simp only at P
      cases q2 : strsOf l with
      | none => rw [q2] at P; exact P.elim
      | some ss =>
        rw [q2] at P
        obtain ⟨a, ws, rfl, h1, h2⟩ := getLst_ok F hx q
        rw [strsOf_some q2] at h2
        rw [h2.strs] at h1
        exact ⟨a, ss, k, rfl, rfl, hK ▸ h1, Post.ok (c := c) (W := W) P Gh.le.refl F _ RepR.mkI⟩
  · exact P.elim
theorem e_countS {cpos : Pos} (hK : X.K = c.K) (ho : PE X o (rdE c W f)) (ha : PE X a (rdE c W fa)) (hbase : attributeBase o "count" X.env (eval o X.env) = eval o X.env := by rfl)
    (hfew : ((backTo cpos (starEach [a] X.env)).all (fun x => !x.1) && (backToKw cpos (keywordEach [] X.env)).all (fun x => x.1.isSome) && decide (([a] : List Expr).length + ([] : List Keyword).length + (if ([] : List Keyword).isEmpty then 0 else 1) < 30)) = true := by rfl)
    (hline : (apos.endLine == cpos.line) = true := by rfl) (hs : starEach [a] X.env = (false, eval a X.env) :: starEach [] X.env := by rfl) (hplain : (backTo cpos (starEach [] X.env)).any (·.1) = false := by rfl) :
    PE X (.Call (.Attribute o "count" apos) [a] [] cpos) (rdE c W (methM isLst opCountS f (aC fa aN))) := se_bm F.plainAttrs_list F.slot_list_count type_lcount tyOk_V mt_scount (ty_lst hK) (md_countS hK) ho (sa_cons ha sa_nil hs) hbase hfew hline hs hplain
theorem opCountS_ap {x : R} {k : Str} {S : Sg} : opCountS x [.p (.str k)] S = cntSK k S (getLst x S) := Eq.trans rfl rfl
end
end Dd

set_option Elab.async false
set_option linter.all false
set_option maxRecDepth 100000
namespace Dd
open PySem PySem.Spec PyProof.Rows L2
/-! ### a thing of one's own, kept aside while others are made -/
section
variable {c : Cg} {W : WX} {Γ : Gh} {S : Sg} {σ : L2.St} {H : Hp} {p : Addr} {o o' : HO}
theorem StOk.dropL {st : Store} {L : Hp} (F : StOk c Γ st H) (e : Ext L Γ.L) : StOk c { Γ with L := L } st H where
  g := F.g
  l := e.trans F.l
  gl := fun a u h => F.gl a u (e _ _ h)
  len := F.len
  cell := fun n x a e1 e2 => by
    have q := F.cell n x a e1 e2
    cases x with
    | mu u =>
      obtain ⟨w, h1, h2, h3, h4⟩ := q
      refine ⟨w, h1, ?_, h3, Ext.none e h4⟩
      cases u with
      | lst l => exact h2
      | dct kvs => exact h2
      | obj k fs => exact h2
    | fz l => exact q
    | dead => trivial
  inj := F.inj
theorem RepR.L {L : Hp} : ∀ {x : R} {v : V}, RepR c { Γ with L := L } x v ↔ RepR c Γ x v
  | .p _, _ => Iff.rfl
  | .r _, _ => Iff.rfl
theorem FrOk.dropL {L : Hp} (F : FrOk c Γ S σ H) (e : Ext L Γ.L) : FrOk c { Γ with L := L } S σ H := ⟨F.s.dropL e, F.len, fun i x h => let ⟨v, h1, h2⟩ := F.sl i x h; ⟨v, h1, RepR.L.mpr h2⟩⟩
/-- a wish, with more kept -/
theorem Post.keep {α : Type} {r : Res α} {K : α → Sg → Gh → Hp → Prop} {L : Hp} (P : Post c W σ Γ r K) (e : Ext Γ.L L) : Post c W σ { Γ with L := L } r fun a S' Γ' H' => Γ'.L = L ∧ K a S' { Γ' with L := Γ.L } H' := by
  cases r with
  | ok a S1 =>
    intro Γ' H' le F
    have hL : Γ'.L = L := le.l
    refine ⟨hL, P { Γ' with L := Γ.L } H' ⟨le.g, rfl, le.r⟩ (F.dropL (by rw [hL]; exact e))⟩
  | exc x S1 => intro Γ' H' cls dd le F q; exact q.elim
  | bad => exact P
theorem Post.keepB {α β : Type} {f : M α} {g : α → M β} {K : β → Sg → Gh → Hp → Prop} {L0 L : Hp} (P : Post c W σ { Γ with L := L0 } ((f >>= g) S) K) (hL : Γ.L = L) (e : Ext L0 L) :
    Post c W σ Γ (f S) fun a S' Γ' H' => Γ'.L = L ∧ Post c W σ { Γ' with L := L0 } (g a S') K := by
  have k := Post.keep (L := L) (Post.bind P) e
  have eG : ({ ({ Γ with L := L0 } : Gh) with L := L } : Gh) = Γ := by rw [← hL]
  rw [eG] at k
  exact k.imp fun a S' Γ' H' le F h => ⟨h.1, h.2.2⟩
end
/-! ### {a: b, c: d}.get(x, y), all ints -/
def ints4 (a b c d : R) : M (Int × Int × Int × Int) := fun S => match asI a, asI b, asI c, asI d with
  | some i, some j, some k, some l => .ok (i, j, k, l) S
  | _, _, _, _ => .bad
def six (q : Int × Int × Int × Int) (x y : R) (S : Sg) : Res R := match asI x, asI y with
  | some x, some y => .ok (.p (.int (if x = q.2.2.1 then q.2.2.2 else if x = q.1 then q.2.1 else y))) S
  | _, _ => .bad
def dGet2E (fa fb fc fd fx fy : M R) : M R := do
  let a ← fa
  let b ← fb
  let c ← fc
  let d ← fd
  let q ← ints4 a b c d
  let x ← fx
  let y ← fy
  six q x y
theorem get2_val (a b c d x : Int) : valV (mergeK [] [((Sum.inl a : Key), V.int b), (Sum.inl c, V.int d)]) (Sum.inl x : Key) = if x = c then some (V.int d) else if x = a then some (V.int b) else none := by
  show valV (putK (putK [] (Sum.inl a) (V.int b)) (Sum.inl c) (V.int d)) (Sum.inl x) = _
  rw [valV_put, valV_put]
  simp only [Sum.inl.injEq, valV_nil]
section
variable {X : Cx} {c : Cg} {W : WX} {k1 v1 k2 v2 e f : Expr} {fa fb fc fd fx fy : M R} {pos cpos apos : Pos} {u1 u2 : Option Expr}
theorem se_dget2 {kk : Nat} (hr : Room kk X.A) (h1 : PE X k1 (rdE c W fa)) (h2 : PE X v1 (rdE c W fb)) (h3 : PE X k2 (rdE c W fc)) (h4 : PE X v2 (rdE c W fd)) (he : PE X e (rdE c W fx)) (hf : PE X f (rdE c W fy))
    (m : M2 X (.Dict [some k1, some k2] [v1, v2] pos) "get" apos e f cpos := by exact ⟨by rfl, by rfl, by rfl, by rfl⟩) :
    PE X (.Call (.Attribute (.Dict [some k1, some k2] [v1, v2] pos) "get" apos) [e, f] [] cpos) (rdE c W (dGet2E fa fb fc fd fx fy)) :=
  se_of (pe_dget2 (by have := hu66 hr; omega) (pe_disp (pps_cons h1 h2 (pps_cons h3 h4 pps_nil)) rfl rfl (by simp) (by show 2 ≤ 15; decide)) he hf m) fun σ H Q q => by
    obtain ⟨Γ, S, F, P⟩ := q
    intro p hp
    have hLp : Γ.L p = none := Ext.none F.s.l hp
    have P0 : Post c W σ { ({ Γ with L := upd Γ.L p (.dK []) } : Gh) with L := Γ.L } (dGet2E fa fb fc fd fx fy S) fun x S' Γ' H' => ∀ v, RepR c Γ' x v → Q v H' := P
    have ex : Ext Γ.L (upd Γ.L p (.dK [])) := Ext.upd hLp
    refine ⟨_, S, F.newL hp, (Post.keepB P0 rfl ex).imp fun a S1 Γ1 H1 e1 F1 ⟨l1, P1⟩ va ha => ?_⟩
    refine ⟨Γ1, S1, F1, (Post.keepB P1 l1 ex).imp fun b S2 Γ2 H2 e2 F2 ⟨l2, P2⟩ vb hb => ?_⟩
    refine ⟨Γ2, S2, F2, (Post.keepB P2 l2 ex).imp fun cc S3 Γ3 H3 e3 F3 ⟨l3, P3⟩ vc hc => ?_⟩
    refine ⟨Γ3, S3, F3, (Post.keepB P3 l3 ex).imp fun d S4 Γ4 H4 e4 F4 ⟨l4, P4⟩ vd hd => ?_⟩
    have hp4 : Γ4.L p = some (.dK []) := by
      have := congrFun l4 p
      rw [this]; exact upd_same
    refine ⟨F4.s.l _ _ hp4, ?_⟩
    have P4 : Post c W σ { Γ4 with L := Γ.L } ((ints4 a b cc d >>= fun q => fx >>= fun x => fy >>= fun y => six q x y) S4) fun x S' Γ' H' => ∀ v, RepR c Γ' x v → Q v H' := P4
    rw [bind_ap] at P4
    cases ia : asI a with
    | none => unfold ints4 at P4; rw [ia] at P4; exact P4.elim
    | some ai =>
      cases ib : asI b with
      | none => unfold ints4 at P4; rw [ia, ib] at P4; exact P4.elim
      | some bi =>
        cases ic : asI cc with
        | none => unfold ints4 at P4; rw [ia, ib, ic] at P4; exact P4.elim
        | some ci =>
          cases id : asI d with
          | none => unfold ints4 at P4; rw [ia, ib, ic, id] at P4; exact P4.elim
          | some di =>
            unfold ints4 at P4
            rw [ia, ib, ic, id] at P4
            have P5 : Post c W σ { Γ4 with L := Γ.L } ((fx >>= fun x => fy >>= fun y => six (ai, bi, ci, di) x y) S4) fun x S' Γ' H' => ∀ v, RepR c Γ' x v → Q v H' := P4
            rw [asI_rep ha ia, asI_rep hb ib, asI_rep hc ic, asI_rep hd id]
            refine ⟨[((Sum.inl ai : Key), V.int bi), (Sum.inl ci, V.int di)], rfl, by simp, p, rfl, .inl ⟨_, .inl upd_same⟩, ?_⟩
            have F5 := F4.setL (u' := .dK (mergeK [] [((Sum.inl ai : Key), V.int bi), (Sum.inl ci, V.int di)])) hp4
            have P6 : Post c W σ { ({ Γ4 with L := upd Γ4.L p (.dK (mergeK [] [((Sum.inl ai : Key), V.int bi), (Sum.inl ci, V.int di)])) } : Gh) with L := Γ.L } ((fx >>= fun x => fy >>= fun y => six (ai, bi, ci, di) x y) S4) fun x S' Γ' H' => ∀ v, RepR c Γ' x v → Q v H' := P5
            have ex2 : Ext Γ.L (upd Γ4.L p (.dK (mergeK [] [((Sum.inl ai : Key), V.int bi), (Sum.inl ci, V.int di)]))) := fun z u e => by
              have hz : z ≠ p := ne_of_none e hLp
              rw [upd_ne hz]
              have := congrFun l4 z
              rw [this]
              show upd Γ.L p (.dK []) z = _
              rw [upd_ne hz]; exact e
            refine ⟨_, S4, F5, (Post.keepB P6 rfl ex2).imp fun x S6 Γ6 H6 e6 F6 ⟨l6, P7⟩ vx hx => ?_⟩
            refine ⟨Γ6, S6, F6, (Post.keepB P7 l6 ex2).imp fun y S7 Γ7 H7 e7 F7 ⟨l7, P8⟩ vy hy => ?_⟩
            unfold six at P8
            cases ix : asI x with
            | none => rw [ix] at P8; exact P8.elim
            | some xi =>
              cases iy : asI y with
              | none => rw [ix, iy] at P8; exact P8.elim
              | some yi =>
                rw [ix, iy] at P8
                have hp7 : H7 p = some (.dK (mergeK [] [((Sum.inl ai : Key), V.int bi), (Sum.inl ci, V.int di)])) := F7.s.l _ _ (by
                  have := congrFun l7 p
                  rw [this]; exact upd_same)
                have F8 := F7.dropL (L := Γ.L) (by rw [l7]; exact ex2)
                rw [asI_rep (hx.mono e7) ix, asI_rep hy iy]
                refine ⟨_, DGet.k (k := (Sum.inl xi : Key)) hp7, ?_⟩
                rw [get2_val]
                have fin := Post.ok (c := c) (W := W) P8 Gh.le.refl F8
                have fin' := fin (.int (if xi = ci then di else if xi = ai then bi else yi)) ((Rep.int_iff (c := c) (G := Γ7.G)).mpr rfl)
                by_cases h1 : xi = ci
                · rw [if_pos h1] at fin' ⊢; exact fin'
                · rw [if_neg h1] at fin' ⊢
                  by_cases h2 : xi = ai
                  · rw [if_pos h2] at fin' ⊢; exact fin'
                  · rw [if_neg h2] at fin' ⊢; exact fin'
theorem dGet2E_ap (fa fb fc fd fx fy : M R) (S : Sg) : dGet2E fa fb fc fd fx fy S = (fa S).bnd fun a S => (fb S).bnd fun b S => (fc S).bnd fun c S => (fd S).bnd fun d S => (ints4 a b c d S).bnd fun q S => (fx S).bnd fun x S => (fy S).bnd fun y S => six q x y S := by
  unfold dGet2E
  rw [bind_bnd]; refine bnd_ext fun a S => ?_
  rw [bind_bnd]; refine bnd_ext fun b S => ?_
  rw [bind_bnd]; refine bnd_ext fun cc S => ?_
  rw [bind_bnd]; refine bnd_ext fun d S => ?_
  rw [bind_bnd]; refine bnd_ext fun q S => ?_
  rw [bind_bnd]; refine bnd_ext fun x S => ?_
  rw [bind_bnd]
theorem ints4_i {i j k l : Int} {S : Sg} : ints4 (.p (.int i)) (.p (.int j)) (.p (.int k)) (.p (.int l)) S = .ok (i, j, k, l) S := Eq.trans rfl rfl
theorem six_i {i j k l x y : Int} {S : Sg} : six (i, j, k, l) (.p (.int x)) (.p (.int y)) S = .ok (.p (.int (if x = k then l else if x = i then j else y))) S := Eq.trans rfl rfl
end
end Dd

set_option Elab.async false
set_option linter.all false
set_option maxRecDepth 100000
namespace Dd
open PySem PySem.Spec PyProof.Rows L2
/-! ### texts: join, split, sorted, int, str, a loop over signs -/
def isStr (x : R) (_ : Sg) : Bool := match x with
  | .p (.str _) => true
  | _ => false
theorem ty_str {c : Cg} : TyD c isStr (fun v _ => ∃ s, v = V.str s) := by
  intro Γ S σ H x v F hx h
  cases x with
  | r n => cases h
  | p d =>
    cases d with
    | str s => exact ⟨s, RepR.str hx⟩
    | _ => cases h
theorem tyOk_S {X : Cx} : TyOk X "str" (fun v _ => ∃ s, v = V.str s) := ⟨fun pins σ H s x v I r e => by
  obtain ⟨z, rfl⟩ := e
  obtain ⟨t, rfl⟩ := r
  exact ⟨typeIs_str _ _ _, fun a e => nomatch e⟩⟩
theorem RepL.of_strs {c : Cg} {G : Hp} : ∀ (ns : List Str), RepL c G (ns.map D.str) (ns.map V.str)
  | [] => RepL.nil
  | n :: ns => RepL.cons (by unfold Rep; rfl) (RepL.of_strs ns)
def joinK (a : Str) (S : Sg) : Option (List D) → Res R
  | some l => (match strsOf l with
    | some ys => if (ys.map (·.length)).sum + ys.length * a.length ≤ 16777216 then .ok (.p (.str (Txt.join a ys))) S else .bad
    | none => .bad)
  | none => .bad
def opJoin : R → List R → M R := fun x xs S => match x, xs with
  | .p (.str a), [y] => joinK a S (getLst y S)
  | _, _ => .bad
def splitK (a b : Str) (S : Sg) : Res R := if (b.length == 0) = false ∧ a.length + 2 ≤ sizeLine then .ok (.r S.st.length) { S with st := S.st ++ [.mu (.lst ((Txt.split a b).map .str))] } else .bad
def opSplit : R → List R → M R := fun x xs S => match x, xs with
  | .p (.str a), [.p (.str b)] => splitK a b S
  | _, _ => .bad
section
variable {X : Cx} {c : Cg} {W : WX} {o a e : Expr} {f fa : M R} {apos pos p : Pos} {tg : Expr}
theorem md_join (hK : X.K = c.K) : MtD c W opJoin (fun x xs H Q => ∃ a p, ∃ ys : List Str, x = .str a ∧ xs = [.ref p] ∧ (SqL X.K H p (ys.map V.str) ∨ SqT X.K H p (ys.map V.str)) ∧
    (ys.map (·.length)).sum + ys.length * a.length ≤ 16777216 ∧ Q (.str (Txt.join a ys)) H) := by
  intro Γ S σ H x v xs vs Q F hx hxs P
  unfold opJoin at P
  split at P
  · rename_i a y
    obtain ⟨v1, rfl, h1⟩ := one_arg hxs
    unfold joinK at P
    cases q : getLst y S with
    | none => rw [q] at P; exact P.elim
    | some l =>
      rw [q] at P
      simp only at P
      cases q2 : strsOf l with
      | none => rw [q2] at P; exact P.elim
      | some ys =>
        rw [q2] at P
        simp only at P
        split at P
        · rename_i hz
          obtain ⟨b, ws, rfl, k1, k2⟩ := getLst_ok F h1 q
          rw [strsOf_some q2] at k2
          rw [k2.strs] at k1
          exact ⟨a, b, ys, RepR.str hx, rfl, .inl (hK ▸ k1), hz, Post.ok (c := c) (W := W) P Gh.le.refl F _ RepR.mkS⟩
        · exact P.elim
  · exact P.elim
theorem md_split : MtD c W opSplit (fun x xs H Q => ∃ a b, x = .str a ∧ xs = [.str b] ∧ (b.length == 0) = false ∧ a.length + 2 ≤ sizeLine ∧ rNewStrs (Txt.split a b) H Q) := by
  intro Γ S σ H x v xs vs Q F hx hxs P
  unfold opSplit at P
  split at P
  · rename_i a b
    obtain ⟨v1, rfl, h1⟩ := one_arg hxs
    have h1 := RepR.str h1
    subst h1
    unfold splitK at P
    split at P
    · rename_i hz
      refine ⟨a, b, RepR.str hx, rfl, hz.1, hz.2, fun p hp => ?_⟩
      obtain ⟨Γ3, e3, F3, r3⟩ := newL_ok F (RepL.of_strs (c := c) (G := Γ.G) (Txt.split a b)) hp
      exact Post.ok (c := c) (W := W) P e3 F3 _ r3
    · exact P.elim
  · exact P.elim
theorem e_join {cpos : Pos} (hK : X.K = c.K) (ho : PE X o (rdE c W f)) (ha : PE X a (rdE c W fa)) (hbase : attributeBase o "join" X.env (eval o X.env) = eval o X.env := by rfl)
    (hfew : ((backTo cpos (starEach [a] X.env)).all (fun x => !x.1) && (backToKw cpos (keywordEach [] X.env)).all (fun x => x.1.isSome) && decide (([a] : List Expr).length + ([] : List Keyword).length + (if ([] : List Keyword).isEmpty then 0 else 1) < 30)) = true := by rfl)
    (hline : (apos.endLine == cpos.line) = true := by rfl) (hs : starEach [a] X.env = (false, eval a X.env) :: starEach [] X.env := by rfl) (hplain : (backTo cpos (starEach [] X.env)).any (·.1) = false := by rfl) :
    PE X (.Call (.Attribute o "join" apos) [a] [] cpos) (rdE c W (methM isStr opJoin f (aC fa aN))) := se_bm F.plainAttrs_str F.slot_str_join F.type_str_join tyOk_S mt_join ty_str (md_join hK) ho (sa_cons ha sa_nil hs) hbase hfew hline hs hplain
theorem e_split {cpos : Pos} (ho : PE X o (rdE c W f)) (ha : PE X a (rdE c W fa)) (hbase : attributeBase o "split" X.env (eval o X.env) = eval o X.env := by rfl)
    (hfew : ((backTo cpos (starEach [a] X.env)).all (fun x => !x.1) && (backToKw cpos (keywordEach [] X.env)).all (fun x => x.1.isSome) && decide (([a] : List Expr).length + ([] : List Keyword).length + (if ([] : List Keyword).isEmpty then 0 else 1) < 30)) = true := by rfl)
    (hline : (apos.endLine == cpos.line) = true := by rfl) (hs : starEach [a] X.env = (false, eval a X.env) :: starEach [] X.env := by rfl) (hplain : (backTo cpos (starEach [] X.env)).any (·.1) = false := by rfl) :
    PE X (.Call (.Attribute o "split" apos) [a] [] cpos) (rdE c W (methM isStr opSplit f (aC fa aN))) := se_bm F.plainAttrs_str F.slot_str_split F.type_str_split tyOk_S mt_split ty_str md_split ho (sa_cons ha sa_nil hs) hbase hfew hline hs hplain
/-- int of a text, str of an int -/
def opIntS : R → M R := fun x S => match x with
  | .p (.str a) => (match PySem.intText? a with
    | some n => if a.length ≤ 640 then .ok (.p (.int n)) S else .bad
    | none => .bad)
  | _ => .bad
theorem cd_intS : CallD c W (op1 opIntS) (fun xs H Q => ∃ a n, xs = [.str a] ∧ PySem.intText? a = some n ∧ a.length ≤ 640 ∧ Q (.int n) H) :=
  cd_one (r := fun v H Q => ∃ a n, v = .str a ∧ PySem.intText? a = some n ∧ a.length ≤ 640 ∧ Q (.int n) H) (by
    intro Γ S σ H x v Q F hv P
    unfold opIntS at P
    split at P
    · rename_i a
      split at P
      · rename_i n hn
        split at P
        · rename_i hz
          exact ⟨a, n, RepR.str hv, hn, hz, Post.ok (c := c) (W := W) P Gh.le.refl F _ RepR.mkI⟩
        · exact P.elim
      · exact P.elim
    · exact P.elim) (fun v H Q h => by
    obtain ⟨a, n, rfl, h⟩ := h
    exact ⟨a, n, rfl, h⟩)
theorem e_intS (hm : X.mg "int" = none) (ha : PE X a (rdE c W f)) (hg : Gl X "int" := by rfl) (he : starEach [a] X.env = (false, eval a X.env) :: starEach [] X.env := by rfl) (hpl : (backTo pos (starEach [] X.env)).any (·.1) = false := by rfl) :
    PE X (.Call (.Name "int" p) [a] [] pos) (rdE c W (opA (op1 opIntS) (aC f aN))) := se_callTy call_int_str cd_intS hg hm (by decide +kernel) (sa_cons ha sa_nil he) (by decide) (by decide) he hpl
def opStrI : R → M R := fun x S => match x with
  | .p (.int i) => if i.natAbs.log2 < 1920 then .ok (.p (.str (toString i))) S else .bad
  | _ => .bad
theorem cd_strI : CallD c W (op1 opStrI) (fun xs H Q => ∃ i : Int, xs = [.int i] ∧ i.natAbs.log2 < 1920 ∧ Q (.str (toString i)) H) :=
  cd_one (r := fun v H Q => ∃ i : Int, v = .int i ∧ i.natAbs.log2 < 1920 ∧ Q (.str (toString i)) H) (by
    intro Γ S σ H x v Q F hv P
    unfold opStrI at P
    split at P
    · rename_i i
      split at P
      · rename_i hz
        exact ⟨i, RepR.int hv, hz, Post.ok (c := c) (W := W) P Gh.le.refl F _ RepR.mkS⟩
      · exact P.elim
    · exact P.elim) (fun v H Q h => by
    obtain ⟨i, rfl, h⟩ := h
    exact ⟨i, rfl, h⟩)
theorem e_strI (hm : X.mg "str" = none) (ha : PE X a (rdE c W f)) (hg : Gl X "str" := by rfl) (he : starEach [a] X.env = (false, eval a X.env) :: starEach [] X.env := by rfl) (hpl : (backTo pos (starEach [] X.env)).any (·.1) = false := by rfl) :
    PE X (.Call (.Name "str" p) [a] [] pos) (rdE c W (opA (op1 opStrI) (aC f aN))) := se_callTy call_str_int cd_strI hg hm (by decide +kernel) (sa_cons ha sa_nil he) (by decide) (by decide) he hpl
/-- the signs of a text -/
def sg1 (n : Nat) : Str := ⟨#[n]⟩
def signsD (z : Str) : List D := z.cps.toList.map fun n => .str (sg1 n)
def itS (f : M R) : M (Itm D) := do
  let x ← f
  fun S => match x with
    | .p (.str z) => .ok ⟨fun _ => True, signsD z⟩ S
    | _ => .bad
theorem si_str (he : PE X e (rdE c W f)) : PI X tg e (rdI c W (itS f)) := si_of (pi_str he) fun σ H R q => by
  obtain ⟨Γ, S, F, P⟩ := q
  refine ⟨Γ, S, F, (Post.bind P).imp fun x S1 Γ1 H1 e1 F1 ⟨_, P1⟩ v hv => ?_⟩
  cases x with
  | r n => exact P1.elim
  | p d =>
    cases d with
    | str z =>
      have P2 := fun J hJ => Post.ok (c := c) (W := W) P1 Gh.le.refl F1 J hJ
      refine ⟨z, RepR.str hv, P2 _ ?_⟩
      intro Γ2 S2 σ2 H2 i sb F2 hok
      refine ⟨fun d hd => ?_, fun hl => ?_⟩
      · have hd : (signsD z)[i]? = some d := hd
        unfold signsD at hd
        rw [List.getElem?_map, Array.getElem?_toList] at hd
        cases q : z.cps[i]? with
        | none => rw [q] at hd; cases hd
        | some n =>
          rw [q] at hd
          cases hd
          refine ⟨(Array.getElem?_eq_some_iff.mp q).1, fun y H' hy => ?_⟩
          obtain ⟨rfl, k, hk, rfl⟩ := hy
          rw [q] at hk; cases hk
          exact ⟨Γ2, Gh.le.refl, F2, Rep.str_iff.mpr rfl⟩
      · have : (signsD z).length = z.cps.size := by unfold signsD; rw [List.length_map, Array.length_toList]
        show z.cps.size ≤ i
        have hl' : (signsD z).length = i := hl
        omega
    | _ => exact P1.elim
end
end Dd

set_option Elab.async false
set_option linter.all false
set_option maxRecDepth 100000
namespace Dd
open PySem PySem.Spec PyProof.Rows L2
/-! ### sorted of a text -/
theorem strsAre_of : ∀ (l : List Nat) (vs : List Value), vs.length = l.length → (∀ (j : Nat) (v : Value), vs[j]? = some v → ∃ c u, l[j]? = some c ∧ v = .str (sg1 c) u) → StrsAre vs (l.map sg1)
  | [], [], _, _ => .nil
  | n :: l, v :: vs, hl, h => by
    obtain ⟨c, u, e1, e2⟩ := h 0 v rfl
    cases e1
    subst e2
    exact .cons _ _ (strsAre_of l vs (by simpa using hl) fun j w hj => h (j + 1) w hj)
theorem sorted_text {prog : Program} {w : World} {A : Around} {E : Value → Shared → Prop} {s : Shared} {x : Str} {t : Tok} {Q : Value → Shared → Prop} (hh : A.handled = none) (h64 : x.cps.size < 64)
    (h : ∀ (h1 h' : Heap) (out : List Value) (ss' : List Str) (e tk : Nat), StrsAre out ss' → ss'.Perm (x.cps.toList.map sg1) → sortedS ss' = true → (∀ b q, s.heap.get? b = some q → h1.get? b = some q) → (∀ b q, h1.get? b = some q → h'.get? b = some q) → h'.get? h1.objs.size = some (seqObj "list" out.toArray e) → Q (.ref h1.objs.size) { s with heap := h', toks := tk }) :
    wpAny (model prog w) A (call (.builtin "sorted") [.str x t]) Q E s := by
  refine Calls.call_function_entry kind_sorted plain_sorted entry_sorted (args_sorted1 _) ?_
  unfold Builtin.«sorted»
  refine wpAny_bind (m := checkCount "sorted" 1 1 _) (wpAny_pure ?_)
  refine wpAny_bind (wpAny_collect_str (by exact hh) x t (fun s' acc hk hg hd hos hacc => ?_) (by rw [sizeLine_eq]; omega))
  obtain ⟨h1, g', d', tk', os'⟩ := s'
  have e1 : g' = s.gens := hg
  have e2 : d' = s.drawn := hd
  have e3 : os' = s.os := hos
  subst e1 e2 e3
  have hlen : acc.toList.length = x.cps.size := by rw [Array.length_toList]; exact hacc.1
  have hS : StrsAre acc.toList (x.cps.toList.map sg1) := strsAre_of _ _ (by rw [hlen, Array.length_toList]) fun j v hj => by
    obtain ⟨c, u, hc, hv⟩ := hacc.2 j v (by rw [← Array.getElem?_toList]; exact hj)
    exact ⟨c, u, by rw [Array.getElem?_toList]; exact hc, hv⟩
  show wpAny _ _ _ _ _ _
  refine wpAny_bind (wpAny_newList (items := acc.toList) ?_ (by rw [hlen, sizeLine_eq]; omega))
  have hoL : (h1.push (seqObj "list" acc.toList.toArray 0)).get? h1.objs.size = some (seqObj "list" acc.toList.toArray 0) := Heap.get?_push_size _ rfl
  have keep : ∀ b q, h1.get? b = some q → b ≠ h1.objs.size ∧ (h1.push (seqObj "list" acc.toList.toArray 0)).get? b = some q := fun b q e =>
    ⟨Nat.ne_of_lt (Heap.lt_size e), Heap.get?_push_of_some _ e⟩
  refine wpAny_bind (wpAny_holding (wpAny_call_entry slot_list_sort ⟨_, hoL, rfl⟩ entry_list_sort (list_sort_treeK strKind_oneLt hoL hS.keysOf (fun v₁ v₂ rest e => keyKind_strs (by rw [← e]; exact hS)) (by rw [hlen]; exact h64) fun st' hp hs => ⟨_, rfl, ?_⟩) (args_list_sort _)))
  obtain ⟨ss', q1, q2, q3⟩ := sorted_out_str hS hp hs
  obtain ⟨e, he⟩ := sortedHeap_at (vs := acc.toList) (out := (arrOf st').map (·.2)) hoL
  refine wpAny_pure ⟨_, rfl, h h1 _ _ ss' e tk' q1 q2 q3 hk (fun b q eb => ?_) (by rw [Array.toArray_toList]; exact he)⟩
  obtain ⟨n1, n2⟩ := keep b q eb
  rw [sortedHeap_old n1 (Heap.lt_size n2)]
  exact n2
/-- the signs of a text, the least ones ahead -/
def sortN (l : List Nat) : List Nat := l.mergeSort (fun a b => decide (a ≤ b))
theorem sg1_inj {a b : Nat} (h : sg1 a = sg1 b) : a = b := by
  have := congrArg (fun z : Str => z.cps.toList) h
  simpa [sg1] using this
theorem perm_sg1 : ∀ {ss : List Str} {l : List Nat}, ss.Perm (l.map sg1) → ∃ l' : List Nat, ss = l'.map sg1 ∧ l'.Perm l := fun {ss l} h => by
  have g : ∀ {a b : List Str}, a.Perm b → ∀ l : List Nat, b = l.map sg1 → ∃ l' : List Nat, a = l'.map sg1 ∧ l'.Perm l := fun {a b} h => by
    intro l e
    have hm : ∀ z ∈ a, ∃ n, z = sg1 n := fun z hz => by
      have := h.mem_iff.mp hz
      rw [e] at this
      obtain ⟨n, _, rfl⟩ := List.mem_map.mp this
      exact ⟨n, rfl⟩
    have ha : ∀ a : List Str, (∀ z ∈ a, ∃ n, z = sg1 n) → ∃ l' : List Nat, a = l'.map sg1 := fun a => by
      induction a with
      | nil => exact fun _ => ⟨[], rfl⟩
      | cons z r ih =>
        intro hz
        obtain ⟨n, rfl⟩ := hz z (by simp)
        obtain ⟨l', e⟩ := ih fun y hy => hz y (by simp [hy])
        exact ⟨n :: l', by rw [e]; rfl⟩
    obtain ⟨l', rfl⟩ := ha a hm
    refine ⟨l', rfl, ?_⟩
    rw [e] at h
    have := h.map (fun z : Str => z.cps.toList.headD 0)
    rw [List.map_map, List.map_map] at this
    have id1 : ((fun z : Str => z.cps.toList.headD 0) ∘ sg1) = id := by funext n; rfl
    rwa [id1, List.map_id, List.map_id] at this
  exact g h l rfl
theorem rising_pw : ∀ (p : Nat) (l : List Nat), risingS (sg1 p) (l.map sg1) = true → (p :: l).Pairwise (· ≤ ·)
  | p, [], _ => by simp
  | p, n :: r, h => by
    have h : (!ltCps (sg1 n).cps.toList (sg1 p).cps.toList && risingS (sg1 n) (r.map sg1)) = true := h
    rw [Bool.and_eq_true] at h
    have ih := rising_pw n r h.2
    have le : p ≤ n := by
      have h1 := h.1
      rw [ltCps_eq] at h1
      have h1 : (!decide (([n] : List Nat) < [p])) = true := h1
      have h1 : ¬ ([n] : List Nat) < [p] := by
        intro z
        rw [decide_eq_true z] at h1
        cases h1
      by_cases c : p ≤ n
      · exact c
      · exact (h1 (List.Lex.rel (by omega))).elim
    refine List.pairwise_cons.mpr ⟨fun q hq => ?_, ih⟩
    rcases List.mem_cons.mp hq with rfl | hq
    · exact le
    · exact Nat.le_trans le ((List.pairwise_cons.mp ih).1 q hq)
theorem sorted_pw : ∀ (l : List Nat), sortedS (l.map sg1) = true → l.Pairwise (· ≤ ·)
  | [], _ => List.Pairwise.nil
  | p :: l, h => rising_pw p l h
theorem sortN_eq {l l' : List Nat} (h1 : l'.Perm l) (h2 : l'.Pairwise (· ≤ ·)) : l' = sortN l := by
  have p : (sortN l).Perm l := List.mergeSort_perm l _
  have q : (sortN l).Pairwise (· ≤ ·) := (List.pairwise_mergeSort (le := fun a b : Nat => decide (a ≤ b)) (fun a b c h1 h2 => by simp at *; omega) (fun a b => by simp; omega) l).imp fun h => by simpa using h
  exact (h1.trans p.symm).eq_of_pairwise (fun a b _ _ h1 h2 => by omega) h2 q
def opSortS : R → M R := fun x S => match x with
  | .p (.str z) => if z.cps.size < 64 then .ok (.r S.st.length) { S with st := S.st ++ [.mu (.lst ((sortN z.cps.toList).map fun n => .str (sg1 n)))] } else .bad
  | _ => .bad
section
variable {X : Cx} {c : Cg} {W : WX} {a : Expr} {f : M R} {p pos : Pos}
def rSortX : List V → Hp → VK → Prop := fun vs H Q => ∃ z : Str, vs = [V.str z] ∧ z.cps.size < 64 ∧ ∀ p, H p = none → Q (.ref p) (upd H p (.lst (((sortN z.cps.toList).map sg1).map V.str)))
theorem cr_sortX (hc : X.calm = true) : CallR X (.builtin "sorted") rSortX := by
  intro pins s σ H vs us Q I r h
  obtain ⟨z, rfl, hz, q⟩ := h
  obtain ⟨u, rfl, ru⟩ := r.one
  obtain ⟨t, rfl⟩ := ru
  refine sorted_text (I.ok.hd hc) hz fun h1 h' out ss' e tk q1 q2 q3 k1 k2 ho => ?_
  obtain ⟨l', rfl, hp⟩ := perm_sg1 q2
  have e' := sortN_eq hp (sorted_pw l' q3)
  subst e'
  have I1 : Inv X pins σ H { s with heap := h1 } := I.kept (t' := s.toks) k1
  have hlen : (((sortN z.cps.toList).map sg1).map V.str).length ≤ sizeLine := by
    rw [List.length_map, List.length_map, hp.length_eq, Array.length_toList, sizeLine_eq]; omega
  exact ⟨.ref h1.objs.size, upd H h1.objs.size (.lst (((sortN z.cps.toList).map sg1).map V.str)), I1.laid (t' := tk) k2 (Nat.le_refl _) ⟨hlen, out, e, vals_of_strs q1, ho⟩, rfl, q _ (I1.hok.fresh (Nat.le_refl _))⟩
theorem cd_sortX : CallD c W (op1 opSortS) rSortX :=
  cd_one (r := fun v H Q => rSortX [v] H Q) (by
    intro Γ S σ H x v Q F hv P
    unfold opSortS at P
    split at P
    · rename_i z
      split at P
      · rename_i hz
        refine ⟨z, by rw [RepR.str hv], hz, fun p hp => ?_⟩
        have h3 : RepL c Γ.G ((sortN z.cps.toList).map fun n => D.str (sg1 n)) (((sortN z.cps.toList).map sg1).map V.str) := by
          have := RepL.of_strs (c := c) (G := Γ.G) ((sortN z.cps.toList).map sg1)
          rwa [List.map_map] at this
        obtain ⟨Γ3, e3, F3, r3⟩ := newL_ok F h3 hp
        exact Post.ok (c := c) (W := W) P e3 F3 _ r3
      · exact P.elim
    · exact P.elim) (fun v H Q h => h)
theorem e_sortedS (hc : X.calm = true) (hm : X.mg "sorted" = none) (ha : PE X a (rdE c W f)) (hg : Gl X "sorted" := by rfl) (he : starEach [a] X.env = (false, eval a X.env) :: starEach [] X.env := by rfl) (hpl : (backTo pos (starEach [] X.env)).any (·.1) = false := by rfl) :
    PE X (.Call (.Name "sorted" p) [a] [] pos) (rdE c W (opA (op1 opSortS) (aC f aN))) := se_callB (cr_sortX hc) cd_sortX hg hm (by decide +kernel) (sa_cons ha sa_nil he) (by decide) (by decide) he hpl
end
end Dd

set_option Elab.async false
set_option linter.all false
set_option maxRecDepth 100000
set_option maxHeartbeats 4000000
namespace Lib
open PySem PySem.Spec PyProof.Rows L2 Dd
noncomputable def b_is_int : M Fl :=
    (sRt (eAnd (isB "int" (vr 0)) (eNot (isB "bool" (vr 0)))))
noncomputable def s_is_int : Fn := runF 1 b_is_int

noncomputable def b_is_level : M Fl :=
    (sSq (sIf (mOr (mNot (tst (isB "tuple" (vr 0)))) (mOr (tst (bin opNeD (opA (op1 opLen) (aC (vr 0) aN)) (ci 4))) (mNot (tst (opA (op1 opAll) (aC (lcE [1] [1] unp1 (itL (vr 0)) tYesM (callM s_is_int 1 (aC (vr 1) aN))) aN)))))) (sRt (cb false)) sNx)
    (sRt (bin opEqD (opA (op1 opSort) (aC (vr 0) aN)) (lstE (aC (ci 0) (aC (ci 1) (aC (ci 2) (aC (ci 3) aN))))))))
noncomputable def s_is_level : Fn := runF 2 b_is_level

noncomputable def b_Screen___init : M Fl :=
    (sSq (sIf (mOr (mNot (tst (isB "list" (vr 1)))) (mNot (tst (eChain opLe opLe (ci 1) (opA (op1 opLen) (aC (vr 1) aN)) (cd (.int 50)))))) sBad sNx)
    (sSq (sFor (itE (vr 1)) (gsC (gN 2) (gsC (gN 3) gsN)) (sIf (mNot (tst (callM s_is_level 1 (aC (vr 3) aN)))) sBad sNx))
    (sFld 0 "own_levels" (vr 0) (opA (op1 opTuple) (aC (vr 1) aN)))))
noncomputable def s_Screen___init : Fn := runF 4 b_Screen___init

noncomputable def b_is_whole : M Fl :=
    (sRt (eAnd (callM s_is_int 1 (aC (vr 0) aN)) (eChain opLe opLe (vr 1) (vr 0) (vr 2))))
noncomputable def s_is_whole : Fn := runF 3 b_is_whole

noncomputable def b_bayer : M Fl :=
    (sSq (sIf (mNot (tst (callM s_is_whole 3 (aC (vr 0) (aC (ci 1) (aC (cd (.int 50)) aN)))))) sBad sNx)
    (sRt (makeU 0 s_Screen___init 2 (aC (pur (lcE [1] [1] unp1 (itR1 (aC (vr 0) aN)) tYesM (cd (.tup [(.int 0), (.int 2), (.int 3), (.int 1)])))) aN))))
noncomputable def s_bayer : Fn := runF 2 b_bayer

noncomputable def b_z_law_bag : M Fl :=
    (sRt (lstE (aC (opA opMax2 (aC (ci 0) (aC (bin opSub (vr 0) (bin opPow (ci 10) (ci 18))) aN))) (aC (vr 0) (aC (ci 0) aN)))))
noncomputable def s_z_law_bag : Fn := runF 1 b_z_law_bag

noncomputable def b_place_of : M Fl :=
    (sSq (sAsg (tupE (aC (ci 0) (aC (ci 0) aN))) (gT 2 (gsC (gN 2) (gsC (gN 3) gsN))))
    (sSq (sFor (itE (vr 0)) (gsC (gN 4) (gsC (gN 5) gsN)) (sSq (sSet 6 (bin opBand (bin opShr (vr 1) (bin opMul (ci 2) (bin opSub (bin opSub (opA (op1 opLen) (aC (vr 0) aN)) (ci 1)) (vr 4)))) (ci 3)))
    (sSq (sSet 7 (methM isTup opTIdx (vr 5) (aC (vr 6) aN)))
    (sPar 2 3 (aC (bin opAdd (vr 2) (bin opShl (bin opBand (vr 7) (ci 1)) (vr 4))) (aC (bin opAdd (vr 3) (bin opShl (bin opShr (vr 7) (ci 1)) (vr 4))) aN))))))
    (sRt (tupE (aC (vr 2) (aC (vr 3) aN))))))
noncomputable def s_place_of : Fn := runF 8 b_place_of

noncomputable def b_Screen_place : M Fl :=
    (sSq (sIf (mNot (tst (callM s_is_whole 3 (aC (vr 1) (aC (ci 0) (aC (bin opSub (bin opShl (ci 1) (bin opMul (ci 2) (opA (op1 opLen) (aC (attrU 0 "own_levels" (vr 0)) aN)))) (ci 1)) aN)))))) sBad sNx)
    (sRt (callM s_place_of 2 (aC (attrU 0 "own_levels" (vr 0)) (aC (vr 1) aN)))))
noncomputable def s_Screen_place : Fn := runF 2 b_Screen_place

noncomputable def b_z_law_pick : M Fl :=
    (sSq (sSub (bin opAdd (bin opIx (vr 0) (ci 2)) (ci 1)) (vr 0) (ci 2))
    (sSq (sIf (tst (bin opGt (bin opIx (vr 0) (ci 0)) (ci 0))) (sSq (sSet 2 (bin opMod (opA (op1 opInt) (aC (bin opIx (vr 0) (ci 0)) aN)) (vr 1)))
    (sSq (sSub (bin opDiv (opA (op1 opInt) (aC (bin opIx (vr 0) (ci 0)) aN)) (vr 1)) (vr 0) (ci 0))
    (sRt (vr 2)))) sNx)
    (sSq (sPar 3 4 (aC (opA (op1 opInt) (aC (bin opIx (vr 0) (ci 1)) aN)) (aC (opA (op1 opInt) (aC (bin opIx (vr 0) (ci 2)) aN)) aN)))
    (sSq (sSet 5 (bin opMod (opA (op1 opInt) (aC (bin opAdd (bin opAdd (bin opMul (bin opMod (vr 3) (ci 2147483629)) (ci 48271)) (bin opMul (vr 4) (ci 69621))) (ci 12345)) aN)) (ci 2147483647)))
    (sSq (sSet 6 (bin opMod (opA (op1 opInt) (aC (bin opAdd (bin opMul (vr 5) (vr 5)) (bin opMul (vr 4) (ci 40692))) aN)) (ci 2147483587)))
    (sSq (sSet 7 (bin opDiv (opA (op1 opInt) (aC (bin opAdd (bin opMul (vr 5) (ci 2147483587)) (vr 6)) aN)) (ci 32)))
    (sSq (sIf (tst (bin opGt (vr 1) (bin opPow (ci 10) (ci 15)))) (sSet 7 (bin opAdd (bin opPow (vr 7) (ci 8)) (vr 6))) sNx)
    (sRt (bin opMod (opA (op1 opInt) (aC (vr 7) aN)) (vr 1))))))))))
noncomputable def s_z_law_pick : Fn := runF 8 b_z_law_pick

noncomputable def b_require_coordinate : M Fl :=
    (sIf (mNot (tst (callM s_is_whole 3 (aC (vr 0) (aC (bin opSub (ci 0) (cd (.int 1000000000000000000000000000000))) (aC (cd (.int 1000000000000000000000000000000)) aN)))))) sBad sNx)
noncomputable def s_require_coordinate : Fn := runF 1 b_require_coordinate

noncomputable def b_require_place : M Fl :=
    (sSq (sEx (callM s_require_coordinate 1 (aC (vr 0) aN)))
    (sEx (callM s_require_coordinate 1 (aC (vr 1) aN))))
noncomputable def s_require_place : Fn := runF 2 b_require_place

noncomputable def b_threshold_at : M Fl :=
    (sSq (sSet 3 (ci 0))
    (sSq (sFor (itE (attrU 0 "own_levels" (vr 0))) (gsC (gN 4) (gsC (gN 5) gsN)) (sSet 3 (bin opAdd (bin opMul (ci 4) (vr 3)) (bin opIx (vr 5) (bin opAdd (bin opBand (bin opShr (vr 1) (vr 4)) (ci 1)) (bin opMul (ci 2) (bin opBand (bin opShr (vr 2) (vr 4)) (ci 1))))))))
    (sRt (vr 3))))
noncomputable def s_threshold_at : Fn := runF 6 b_threshold_at

noncomputable def b_Screen_threshold : M Fl :=
    (sSq (sEx (callM s_require_place 2 (aC (vr 1) (aC (vr 2) aN))))
    (sRt (callM s_threshold_at 3 (aC (vr 0) (aC (vr 1) (aC (vr 2) aN))))))
noncomputable def s_Screen_threshold : Fn := runF 3 b_Screen_threshold

noncomputable def b_z_law_levels : M Fl :=
    (sSq (sSet 2 (lstE aN))
    (sSq (sFor (itR1 (aC (vr 1) aN)) (gN 3) (sSq (sPar 4 5 (aC (lstE (aC (ci 0) (aC (ci 1) (aC (ci 2) (aC (ci 3) aN))))) (aC (lstE aN) aN)))
    (sSq (sFor (itR1 (aC (ci 4) aN)) (gN 6) (sEx (methM isLst opApp (vr 5) (aC (methM isLst opPopAt (vr 4) (aC (callM s_z_law_pick 2 (aC (vr 0) (aC (opA (op1 opLen) (aC (vr 4) aN)) aN))) aN)) aN))))
    (sEx (methM isLst opApp (vr 2) (aC (opA (op1 opTuple) (aC (vr 5) aN)) aN))))))
    (sRt (vr 2))))
noncomputable def s_z_law_levels : Fn := runF 7 b_z_law_levels

noncomputable def b_Screen_levels : M Fl :=
    (sRt (opA (op1 opList) (aC (attrU 0 "own_levels" (vr 0)) aN)))
noncomputable def s_Screen_levels : Fn := runF 1 b_Screen_levels

noncomputable def b_z_law_threshold_v2 : M Fl :=
    (sSq (sPar3 3 4 5 (aC (ci 0) (aC (vr 1) (aC (vr 2) aN))))
    (sSq (sFor (itL (vr 0)) (gN 6) (sSq (sSet 3 (bin opAdd (bin opMul (ci 4) (vr 3)) (bin opIx (vr 6) (bin opAdd (bin opMod (opA (op1 opInt) (aC (vr 4) aN)) (ci 2)) (bin opMul (ci 2) (bin opMod (opA (op1 opInt) (aC (vr 5) aN)) (ci 2)))))))
    (sPar 4 5 (aC (bin opDiv (vr 4) (ci 2)) (aC (bin opDiv (vr 5) (ci 2)) aN)))))
    (sRt (vr 3))))
noncomputable def s_z_law_threshold_v2 : Fn := runF 7 b_z_law_threshold_v2

noncomputable def b_z_law_near : M Fl :=
    (sSq (sSet 2 (lstE (aC (bin opSub (callM s_z_law_pick 2 (aC (vr 0) (aC (ci 40) aN))) (ci 20)) (aC (bin opSub (bin opAdd (bin opMul (vr 1) (bin opSub (callM s_z_law_pick 2 (aC (vr 0) (aC (ci 9) aN))) (ci 4))) (callM s_z_law_pick 2 (aC (vr 0) (aC (ci 5) aN)))) (ci 2)) aN))))
    (sSq (sEx (methM isLst opApp (vr 2) (aC (bin opSub (callM s_z_law_pick 2 (aC (vr 0) (aC (bin opAdd (bin opMul (ci 2) (bin opPow (ci 10) (ci 30))) (ci 1)) aN))) (bin opPow (ci 10) (ci 30))) aN)))
    (sRt (opA opMin2 (aC (bin opPow (ci 10) (ci 30)) (aC (opA opMax2 (aC (bin opSub (ci 0) (bin opPow (ci 10) (ci 30))) (aC (bin opIx (vr 2) (callM s_z_law_pick 2 (aC (vr 0) (aC (ci 3) aN)))) aN))) aN))))))
noncomputable def s_z_law_near : Fn := runF 3 b_z_law_near

noncomputable def b_Screen___eq : M Fl :=
    (sRt (eAnd (isC 0 (vr 1)) (bin opEqD (attrU 0 "own_levels" (vr 0)) (attrU 0 "own_levels" (vr 1)))))
noncomputable def s_Screen___eq : Fn := runF 2 b_Screen___eq

noncomputable def b_Screen_depth : M Fl :=
    (sRt (opA (op1 opLen) (aC (attrU 0 "own_levels" (vr 0)) aN)))
noncomputable def s_Screen_depth : Fn := runF 1 b_Screen_depth

noncomputable def b_Screen_period : M Fl :=
    (sRt (bin opShl (ci 1) (opA (op1 opLen) (aC (attrU 0 "own_levels" (vr 0)) aN))))
noncomputable def s_Screen_period : Fn := runF 1 b_Screen_period

noncomputable def b_Screen_shades : M Fl :=
    (sRt (bin opShl (ci 1) (bin opMul (ci 2) (opA (op1 opLen) (aC (attrU 0 "own_levels" (vr 0)) aN)))))
noncomputable def s_Screen_shades : Fn := runF 1 b_Screen_shades

noncomputable def b_require_screen : M Fl :=
    (sIf (mNot (tst (isC 0 (vr 0)))) sBad sNx)
noncomputable def s_require_screen : Fn := runF 1 b_require_screen

noncomputable def b_rearranged : M Fl :=
    (sRt (makeU 0 s_Screen___init 2 (aC (pur (lcE [2] [2] unp1 (itL (attrU 0 "own_levels" (vr 0))) tYesM (opA (op1 opTuple) (aC (lcE [3] [3] unp1 (itL (vr 1)) tYesM (bin opIx (vr 2) (vr 3))) aN)))) aN)))
noncomputable def s_rearranged : Fn := runF 4 b_rearranged

noncomputable def b_mirrored : M Fl :=
    (sSq (sEx (callM s_require_screen 1 (aC (vr 0) aN)))
    (sRt (callM s_rearranged 2 (aC (vr 0) (aC (tupE (aC (ci 1) (aC (ci 0) (aC (ci 3) (aC (ci 2) aN))))) aN)))))
noncomputable def s_mirrored : Fn := runF 1 b_mirrored

noncomputable def b_flipped : M Fl :=
    (sSq (sEx (callM s_require_screen 1 (aC (vr 0) aN)))
    (sRt (callM s_rearranged 2 (aC (vr 0) (aC (tupE (aC (ci 2) (aC (ci 3) (aC (ci 0) (aC (ci 1) aN))))) aN)))))
noncomputable def s_flipped : Fn := runF 1 b_flipped

noncomputable def b_transposed : M Fl :=
    (sSq (sEx (callM s_require_screen 1 (aC (vr 0) aN)))
    (sRt (callM s_rearranged 2 (aC (vr 0) (aC (tupE (aC (ci 0) (aC (ci 2) (aC (ci 1) (aC (ci 3) aN))))) aN)))))
noncomputable def s_transposed : Fn := runF 1 b_transposed

noncomputable def b_stacked : M Fl :=
    (sSq (sEx (callM s_require_screen 1 (aC (vr 0) aN)))
    (sSq (sEx (callM s_require_screen 1 (aC (vr 1) aN)))
    (sSq (sSet 2 (pur (lstE (aS (attrU 0 "own_levels" (vr 0)) (aS (attrU 0 "own_levels" (vr 1)) aN)))))
    (sSq (sIf (tst (bin opGt (opA (op1 opLen) (aC (vr 2) aN)) (cd (.int 50)))) sBad sNx)
    (sRt (makeU 0 s_Screen___init 2 (aC (vr 2) aN)))))))
noncomputable def s_stacked : Fn := runF 3 b_stacked

noncomputable def b_first_levels : M Fl :=
    (sSq (sEx (callM s_require_screen 1 (aC (vr 0) aN)))
    (sSq (sIf (mNot (tst (callM s_is_whole 3 (aC (vr 1) (aC (ci 1) (aC (opA (op1 opLen) (aC (attrU 0 "own_levels" (vr 0)) aN)) aN)))))) sBad sNx)
    (sRt (makeU 0 s_Screen___init 2 (aC (pur (slE (propU 0 s_Screen_levels (vr 0)) opt0 (opt1 (vr 1)))) aN)))))
noncomputable def s_first_levels : Fn := runF 2 b_first_levels

noncomputable def b_z_law_bad_integers : M Fl :=
    (sSq (sSet 2 (pur (lstE (aC cn (aC (cb true) (aC (cb false) (aC (cs "") (aC (cs "1") (aC (lstE aN) (aC (lstE (aC (vr 0) aN)) (aC (tupE (aC (vr 0) aN)) (aC edE (aC (bin opSub (vr 0) (ci 1)) (aC (bin opAdd (vr 1) (ci 1)) (aC (bin opSub (vr 0) (bin opPow (ci 10) (ci 30))) (aC (bin opAdd (vr 1) (bin opPow (ci 10) (ci 40))) aN))))))))))))))))
    (sRt (bin opAdd (vr 2) (lstE (aC (bin opSub (ci 0) (bin opMul (bin opPow (ci 10) (ci 64)) (bin opPow (ci 10) (ci 30)))) aN)))))
noncomputable def s_z_law_bad_integers : Fn := runF 3 b_z_law_bad_integers

noncomputable def b_is_shade : M Fl :=
    (sRt (callM s_is_whole 3 (aC (vr 1) (aC (ci 0) (aC (bin opShl (ci 1) (bin opMul (ci 2) (opA (op1 opLen) (aC (attrU 0 "own_levels" (vr 0)) aN)))) aN)))))
noncomputable def s_is_shade : Fn := runF 2 b_is_shade

noncomputable def b_require_shade : M Fl :=
    (sIf (mNot (tst (callM s_is_shade 2 (aC (vr 0) (aC (vr 1) aN))))) sBad sNx)
noncomputable def s_require_shade : Fn := runF 2 b_require_shade

noncomputable def b_is_dot : M Fl :=
    (sSq (sEx (callM s_require_screen 1 (aC (vr 0) aN)))
    (sSq (sEx (callM s_require_shade 2 (aC (vr 0) (aC (vr 1) aN))))
    (sSq (sEx (callM s_require_place 2 (aC (vr 2) (aC (vr 3) aN))))
    (sRt (bin opLt (callM s_threshold_at 3 (aC (vr 0) (aC (vr 2) (aC (vr 3) aN)))) (vr 1))))))
noncomputable def s_is_dot : Fn := runF 4 b_is_dot

noncomputable def b_is_window : M Fl :=
    (sSq (sIf (mOr (mNot (tst (isB "tuple" (vr 0)))) (tst (bin opNeD (opA (op1 opLen) (aC (vr 0) aN)) (ci 4)))) (sRt (cb false)) sNx)
    (sSq (sAsg (vr 0) (gT 4 (gsC (gN 1) (gsC (gN 2) (gsC (gN 3) (gsC (gN 4) gsN))))))
    (sSq (sIf (mOr (mNot (tst (callM s_is_whole 3 (aC (vr 1) (aC (bin opSub (ci 0) (cd (.int 1000000000000000000000000000000))) (aC (cd (.int 1000000000000000000000000000000)) aN)))))) (mNot (tst (callM s_is_whole 3 (aC (vr 2) (aC (bin opSub (ci 0) (cd (.int 1000000000000000000000000000000))) (aC (cd (.int 1000000000000000000000000000000)) aN))))))) (sRt (cb false)) sNx)
    (sRt (eAnd (callM s_is_whole 3 (aC (vr 3) (aC (ci 1) (aC (cd (.int 1000000000000000000000000000000)) aN)))) (callM s_is_whole 3 (aC (vr 4) (aC (ci 1) (aC (cd (.int 1000000000000000000000000000000)) aN)))))))))
noncomputable def s_is_window : Fn := runF 5 b_is_window

noncomputable def b_require_window : M Fl :=
    (sIf (mNot (tst (callM s_is_window 1 (aC (vr 0) aN)))) sBad sNx)
noncomputable def s_require_window : Fn := runF 1 b_require_window

noncomputable def b_residues : M Fl :=
    (sRt (bin opSub (bin opShr (bin opSub (bin opSub (bin opAdd (vr 0) (vr 1)) (ci 1)) (vr 2)) (vr 3)) (bin opShr (bin opSub (bin opSub (vr 0) (ci 1)) (vr 2)) (vr 3))))
noncomputable def s_residues : Fn := runF 4 b_residues

noncomputable def b_places_with : M Fl :=
    (sSq (sAsg (vr 0) (gT 4 (gsC (gN 4) (gsC (gN 5) (gsC (gN 6) (gsC (gN 7) gsN))))))
    (sRt (bin opMul (callM s_residues 4 (aC (vr 4) (aC (vr 6) (aC (vr 1) (aC (vr 3) aN))))) (callM s_residues 4 (aC (vr 5) (aC (vr 7) (aC (vr 2) (aC (vr 3) aN))))))))
noncomputable def s_places_with : Fn := runF 8 b_places_with

noncomputable def b_cells_below : M Fl :=
    (sSq (sSet 2 (opA (op1 opLen) (aC (vr 0) aN)))
    (sSq (sIf (tst (bin opEqD (vr 1) (bin opShl (ci 1) (bin opMul (ci 2) (vr 2))))) (sRt (lstE (aC (tupE (aC (ci 0) (aC (ci 0) (aC (ci 0) aN)))) aN))) sNx)
    (sSq (sPar3 3 4 5 (aC (lstE aN) (aC (ci 0) (aC (ci 0) aN))))
    (sSq (sFor (itE (vr 0)) (gsC (gN 6) (gsC (gN 7) gsN)) (sSq (sSet 8 (bin opBand (bin opShr (vr 1) (bin opMul (ci 2) (bin opSub (bin opSub (vr 2) (ci 1)) (vr 6)))) (ci 3)))
    (sSq (sFor (itE (vr 7)) (gsC (gN 9) (gsC (gN 10) gsN)) (sSq (sSet 11 (tupE (aC (bin opAdd (vr 4) (bin opShl (bin opBand (vr 9) (ci 1)) (vr 6))) (aC (bin opAdd (vr 5) (bin opShl (bin opShr (vr 9) (ci 1)) (vr 6))) aN))))
    (sIf (tst (bin opLt (vr 10) (vr 8))) (sEx (methM isLst opApp (vr 3) (aC (tupE (aC (bin opIx (vr 11) (ci 0)) (aC (bin opIx (vr 11) (ci 1)) (aC (bin opAdd (vr 6) (ci 1)) aN)))) aN))) (sIf (tst (bin opEqD (vr 10) (vr 8))) (sSet 12 (vr 11)) sNx))))
    (sAsg (vr 12) (gT 2 (gsC (gN 4) (gsC (gN 5) gsN)))))))
    (sRt (vr 3))))))
noncomputable def s_cells_below : Fn := runF 13 b_cells_below

noncomputable def b_count_of : M Fl :=
    (sRt (opA (op1 opSum) (aC (lcE [3, 4, 5] [3, 4, 5] unpT (itL (callM s_cells_below 2 (aC (vr 0) (aC (vr 1) aN)))) tYesM (callM s_places_with 4 (aC (vr 2) (aC (vr 3) (aC (vr 4) (aC (vr 5) aN)))))) aN)))
noncomputable def s_count_of : Fn := runF 6 b_count_of

noncomputable def b_dots_in : M Fl :=
    (sRt (callM s_count_of 3 (aC (attrU 0 "own_levels" (vr 0)) (aC (vr 1) (aC (vr 2) aN)))))
noncomputable def s_dots_in : Fn := runF 3 b_dots_in

noncomputable def b_dot_count : M Fl :=
    (sSq (sEx (callM s_require_screen 1 (aC (vr 0) aN)))
    (sSq (sEx (callM s_require_shade 2 (aC (vr 0) (aC (vr 1) aN))))
    (sSq (sEx (callM s_require_window 1 (aC (vr 2) aN)))
    (sRt (callM s_dots_in 3 (aC (vr 0) (aC (vr 1) (aC (vr 2) aN))))))))
noncomputable def s_dot_count : Fn := runF 3 b_dot_count

noncomputable def b_z_law_shade : M Fl :=
    (sSq (sSet 2 (bin opShl (ci 1) (bin opMul (ci 2) (vr 1))))
    (sSq (sSet 3 (pur (lstE (aC (callM s_z_law_pick 2 (aC (vr 0) (aC (bin opAdd (vr 2) (ci 1)) aN))) (aC (bin opIx (lstE (aC (ci 0) (aC (ci 1) (aC (bin opSub (vr 2) (ci 1)) (aC (vr 2) aN))))) (callM s_z_law_pick 2 (aC (vr 0) (aC (ci 4) aN)))) (aC (bin opMul (bin opDiv (vr 2) (ci 4)) (callM s_z_law_pick 2 (aC (vr 0) (aC (ci 5) aN)))) aN))))))
    (sRt (opA opMin2 (aC (vr 2) (aC (opA opMax2 (aC (ci 0) (aC (bin opAdd (bin opIx (vr 3) (callM s_z_law_pick 2 (aC (vr 0) (aC (ci 3) aN)))) (bin opIx (lstE (aC (ci 0) (aC (ci 0) (aC (ci 1) (aC (uNeg (ci 1)) aN))))) (callM s_z_law_pick 2 (aC (vr 0) (aC (ci 4) aN))))) aN))) aN))))))
noncomputable def s_z_law_shade : Fn := runF 4 b_z_law_shade

noncomputable def b_z_law_small : M Fl :=
    (sRt (tupE (aC (callM s_z_law_near 2 (aC (vr 0) (aC (vr 1) aN))) (aC (callM s_z_law_near 2 (aC (vr 0) (aC (vr 1) aN))) (aC (bin opAdd (ci 1) (callM s_z_law_pick 2 (aC (vr 0) (aC (vr 2) aN)))) (aC (bin opAdd (ci 1) (callM s_z_law_pick 2 (aC (vr 0) (aC (vr 2) aN)))) aN))))))
noncomputable def s_z_law_small : Fn := runF 3 b_z_law_small

noncomputable def b_z_law_halves : M Fl :=
    (sSq (sSet 3 (bin opSub (ci 0) (bin opDiv (bin opSub (vr 2) (vr 0)) (ci 2))))
    (sRt (tupE (aC (vr 3) (aC (bin opAdd (bin opSub (bin opDiv (bin opSub (bin opSub (bin opAdd (vr 0) (vr 1)) (ci 1)) (vr 2)) (ci 2)) (vr 3)) (ci 1)) aN)))))
noncomputable def s_z_law_halves : Fn := runF 4 b_z_law_halves

noncomputable def b_z_law_count (n : Nat) (self : Fn) : M Fl :=
    (sSq (sAsg (vr 2) (gT 4 (gsC (gN 3) (gsC (gN 4) (gsC (gN 5) (gsC (gN 6) gsN))))))
    (sSq (sIf (mOr (tst (bin opLt (vr 5) (ci 1))) (mOr (tst (bin opLt (vr 6) (ci 1))) (mOr (tst (bin opEqD (vr 1) (ci 0))) (mAnd (tst (bin opEqD (vr 0) (lstE aN))) (tst (bin opLt (vr 1) (ci 1))))))) (sRt (ci 0)) sNx)
    (sSq (sIf (tst (bin opEqD (vr 0) (lstE aN))) (sRt (bin opMul (vr 5) (vr 6))) sNx)
    (sSq (sSet 7 (bin opShl (ci 1) (bin opMul (ci 2) (bin opSub (opA (op1 opLen) (aC (vr 0) aN)) (ci 1)))))
    (sSq (sPar 8 9 (aC (bin opDiv (vr 1) (vr 7)) (aC (ci 0) aN)))
    (sSq (sFor (itE (bin opIx (vr 0) (ci 0))) (gsC (gN 10) (gsC (gN 11) gsN)) (sSq (sPar 12 13 (aC (callM s_z_law_halves 3 (aC (vr 3) (aC (vr 5) (aC (bin opBand (vr 10) (ci 1)) aN)))) (aC (callM s_z_law_halves 3 (aC (vr 4) (aC (vr 6) (aC (bin opShr (vr 10) (ci 1)) aN)))) aN)))
    (sSq (sIf (mAnd (tst (bin opLt (vr 11) (vr 8))) (mAnd (tst (bin opGt (bin opIx (vr 12) (ci 1)) (ci 0))) (tst (bin opGt (bin opIx (vr 13) (ci 1)) (ci 0))))) (sSet 9 (bin opAdd (vr 9) (bin opMul (bin opIx (vr 12) (ci 1)) (bin opIx (vr 13) (ci 1))))) sNx)
    (sIf (tst (bin opEqD (vr 11) (vr 8))) (sSet 9 (bin opAdd (vr 9) (callM self 3 (aC (pur (slE (vr 0) (opt1 (ci 1)) opt0)) (aC (bin opSub (vr 1) (bin opMul (vr 8) (vr 7))) (aC (tupE (aC (bin opIx (vr 12) (ci 0)) (aC (bin opIx (vr 13) (ci 0)) (aC (bin opIx (vr 12) (ci 1)) (aC (bin opIx (vr 13) (ci 1)) aN))))) aN)))))) sNx))))
    (sRt (vr 9))))))))
noncomputable def s_z_law_count : Nat → Fn
  | 0 => fun _ _ => .bad
  | n + 1 => runF 14 (b_z_law_count n (s_z_law_count n))

noncomputable def b_z_law_window : M Fl :=
    (sSq (sSet 3 (lstE aN))
    (sSq (sFor (itR1 (aC (ci 2) aN)) (gN 4) (sSq (sSet 5 (lstE (aC (bin opAdd (ci 1) (callM s_z_law_pick 2 (aC (vr 0) (aC (vr 2) aN)))) (aC (bin opSub (bin opAdd (bin opShl (ci 1) (callM s_z_law_pick 2 (aC (vr 0) (aC (ci 99) aN)))) (callM s_z_law_pick 2 (aC (vr 0) (aC (ci 3) aN)))) (ci 1)) aN))))
    (sSq (sEx (methM isLst opApp (vr 5) (aC (bin opAdd (ci 1) (callM s_z_law_pick 2 (aC (vr 0) (aC (bin opPow (ci 10) (ci 30)) aN)))) aN)))
    (sEx (methM isLst opApp (vr 3) (aC (opA opMax2 (aC (ci 1) (aC (bin opIx (vr 5) (callM s_z_law_pick 2 (aC (vr 0) (aC (ci 3) aN)))) aN))) aN))))))
    (sRt (tupE (aC (callM s_z_law_near 2 (aC (vr 0) (aC (vr 1) aN))) (aC (callM s_z_law_near 2 (aC (vr 0) (aC (vr 1) aN))) (aC (bin opIx (vr 3) (ci 0)) (aC (bin opIx (vr 3) (ci 1)) aN))))))))
noncomputable def s_z_law_window : Fn := runF 6 b_z_law_window

noncomputable def b_nth_of : M Fl :=
    (sSq (sAsg (vr 2) (gT 4 (gsC (gN 4) (gsC (gN 5) (gsC (gN 6) (gsC (gN 7) gsN))))))
    (sSq (sSet 8 (pur (callM s_cells_below 2 (aC (vr 0) (aC (vr 1) aN)))))
    (sSq (sIf (tst (bin opGe (vr 3) (opA (op1 opSum) (aC (lcE [14, 15, 16] [14, 15, 16] unpT (itL (vr 8)) tYesM (callM s_places_with 4 (aC (vr 2) (aC (vr 14) (aC (vr 15) (aC (vr 16) aN)))))) aN)))) (sRt cn) sNx)
    (sSq (sAsg (tupE (aC (ci 0) (aC (bin opSub (vr 7) (ci 1)) aN))) (gT 2 (gsC (gN 9) (gsC (gN 10) gsN))))
    (sSq (sWhile (tst (bin opLt (vr 9) (vr 10))) (sSq (sSet 11 (bin opDiv (bin opAdd (vr 9) (vr 10)) (ci 2)))
    (sIf (tst (bin opGt (opA (op1 opSum) (aC (lcE [14, 15, 16] [14, 15, 16] unpT (itL (vr 8)) tYesM (callM s_places_with 4 (aC (tupE (aC (vr 4) (aC (vr 5) (aC (vr 6) (aC (bin opAdd (vr 11) (ci 1)) aN))))) (aC (vr 14) (aC (vr 15) (aC (vr 16) aN)))))) aN)) (vr 3))) (sSet 10 (vr 11)) (sSet 9 (bin opAdd (vr 11) (ci 1))))))
    (sSq (sAsg (tupE (aC (bin opAdd (vr 5) (vr 9)) (aC (vr 3) aN))) (gT 2 (gsC (gN 12) (gsC (gN 13) gsN))))
    (sSq (sIf (tst (bin opGt (vr 9) (ci 0))) (sSet 13 (bin opSub (vr 3) (opA (op1 opSum) (aC (lcE [14, 15, 16] [14, 15, 16] unpT (itL (vr 8)) tYesM (callM s_places_with 4 (aC (tupE (aC (vr 4) (aC (vr 5) (aC (vr 6) (aC (vr 9) aN))))) (aC (vr 14) (aC (vr 15) (aC (vr 16) aN)))))) aN)))) sNx)
    (sSq (sAsg (tupE (aC (ci 0) (aC (bin opSub (vr 6) (ci 1)) aN))) (gT 2 (gsC (gN 9) (gsC (gN 10) gsN))))
    (sSq (sWhile (tst (bin opLt (vr 9) (vr 10))) (sSq (sSet 11 (bin opDiv (bin opAdd (vr 9) (vr 10)) (ci 2)))
    (sIf (tst (bin opGt (opA (op1 opSum) (aC (lcE [14, 15, 16] [14, 15, 16] unpT (itL (vr 8)) tYesM (callM s_places_with 4 (aC (tupE (aC (vr 4) (aC (vr 12) (aC (bin opAdd (vr 11) (ci 1)) (aC (ci 1) aN))))) (aC (vr 14) (aC (vr 15) (aC (vr 16) aN)))))) aN)) (vr 13))) (sSet 10 (vr 11)) (sSet 9 (bin opAdd (vr 11) (ci 1))))))
    (sRt (tupE (aC (bin opAdd (vr 4) (vr 9)) (aC (vr 12) aN)))))))))))))
noncomputable def s_nth_of : Fn := runF 17 b_nth_of

noncomputable def b_nth_dot : M Fl :=
    (sSq (sEx (callM s_require_screen 1 (aC (vr 0) aN)))
    (sSq (sEx (callM s_require_shade 2 (aC (vr 0) (aC (vr 1) aN))))
    (sSq (sEx (callM s_require_window 1 (aC (vr 2) aN)))
    (sSq (sIf (mOr (mNot (tst (callM s_is_int 1 (aC (vr 3) aN)))) (tst (bin opLt (vr 3) (ci 0)))) sBad sNx)
    (sRt (callM s_nth_of 4 (aC (attrU 0 "own_levels" (vr 0)) (aC (vr 1) (aC (vr 2) (aC (vr 3) aN))))))))))
noncomputable def s_nth_dot : Fn := runF 4 b_nth_dot

noncomputable def b_z_law_bad_screens : M Fl :=
    (sRt (lstE (aC cn (aC (ci 0) (aC (cb true) (aC (cs "") (aC (cs "0231") (aC (lstE aN) (aC (tupE aN) (aC edE (aC (propU 0 s_Screen_levels (vr 0)) (aC (opA (op1 opTuple) (aC (propU 0 s_Screen_levels (vr 0)) aN)) (aC (lstE (aC (vr 0) aN)) (aC (tupE (aC (vr 0) (aC (ci 1) aN))) (aC (bin opPow (ci 10) (ci 40)) aN)))))))))))))))
noncomputable def s_z_law_bad_screens : Fn := runF 1 b_z_law_bad_screens

noncomputable def b_z_law_bad_windows_v1 : M Fl :=
    (sSq (sAsg (vr 0) (gT 4 (gsC (gN 1) (gsC (gN 2) (gsC (gN 3) (gsC (gN 4) gsN))))))
    (sSq (sSet 5 (lstE (aC cn (aC (ci 0) (aC (cb true) (aC (cs "") (aC (cs "0 0 4 4") (aC (tupE aN) (aC edE (aC (lstE aN) (aC (opA (op1 opList) (aC (vr 0) aN)) (aC (lstE (aC (vr 0) aN)) (aC (slE (vr 0) opt0 (opt1 (ci 3))) (aC (bin opAddT (vr 0) (tupE (aC (ci 1) aN))) (aC (tupE (aC (vr 0) aN)) aN)))))))))))))))
    (sSq (sFor (itL (lstE (aC cn (aC (cb true) (aC (cs "1") (aC (lstE (aC (ci 1) aN)) (aC (tupE (aC (ci 1) aN)) (aC (bin opAdd (bin opPow (ci 10) (ci 30)) (ci 1)) (aC (bin opPow (ci 10) (ci 60)) aN))))))))) (gN 6) (sSq (sSet 5 (bin opAdd (vr 5) (lstE (aC (tupE (aC (vr 6) (aC (vr 2) (aC (vr 3) (aC (vr 4) aN))))) (aC (tupE (aC (vr 1) (aC (vr 6) (aC (vr 3) (aC (vr 4) aN))))) (aC (tupE (aC (vr 1) (aC (vr 2) (aC (vr 6) (aC (vr 4) aN))))) aN))))))
    (sEx (methM isLst opApp (vr 5) (aC (tupE (aC (vr 1) (aC (vr 2) (aC (vr 3) (aC (vr 6) aN))))) aN)))))
    (sRt (bin opAdd (vr 5) (lstE (aC (tupE (aC (vr 1) (aC (vr 2) (aC (ci 0) (aC (vr 4) aN))))) (aC (tupE (aC (vr 1) (aC (vr 2) (aC (vr 3) (aC (ci 0) aN))))) (aC (tupE (aC (vr 1) (aC (vr 2) (aC (uNeg (ci 1)) (aC (vr 4) aN))))) (aC (tupE (aC (bin opSub (bin opSub (ci 0) (bin opPow (ci 10) (ci 30))) (ci 1)) (aC (ci 0) (aC (ci 1) (aC (ci 1) aN))))) (aC (tupE (aC (ci 0) (aC (bin opSub (bin opSub (ci 0) (bin opPow (ci 10) (ci 30))) (ci 1)) (aC (ci 1) (aC (ci 1) aN))))) aN)))))))))))
noncomputable def s_z_law_bad_windows_v1 : Fn := runF 7 b_z_law_bad_windows_v1

noncomputable def b_z_law_wound : M Fl :=
    (sSq (sSet 2 (ci 0))
    (sSq (sIf (tst (bin opLt (vr 1) (opA (op1 opLen) (aC (vr 0) aN)))) (sSet 2 (bin opIx (vr 0) (vr 1))) sNx)
    (sRt (lstE (aC (opA opMax2 (aC (ci 0) (aC (bin opSub (vr 2) (bin opPow (ci 10) (ci 18))) aN))) (aC (bin opAdd (bin opAdd (bin opMul (bin opMod (opA (op1 opInt) (aC (vr 2) aN)) (bin opAdd (bin opPow (ci 10) (ci 38)) (ci 133))) (ci 67)) (bin opMul (ci 141650939) (vr 1))) (ci 23)) (aC (ci 0) aN)))))))
noncomputable def s_z_law_wound : Fn := runF 3 b_z_law_wound

noncomputable def b_nth_of_window : M Fl :=
    (sSq (sAsg (tupE (aC (ci 0) (aC (vr 2) (aC (ci 0) (aC (ci 0) aN))))) (gT 4 (gsC (gN 3) (gsC (gN 4) (gsC (gN 5) (gsC (gN 6) gsN))))))
    (sSq (sFor (itE (attrU 0 "own_levels" (vr 0))) (gsC (gN 7) (gsC (gN 8) gsN)) (sSq (sFor (itR1 (aC (ci 4) aN)) (gN 9) (sSq (sSet 10 (methM isTup opTIdx (vr 8) (aC (vr 9) aN)))
    (sSq (sSet 11 (tupE (aC (bin opAdd (vr 5) (bin opShl (bin opBand (vr 10) (ci 1)) (vr 7))) (aC (bin opAdd (vr 6) (bin opShl (bin opShr (vr 10) (ci 1)) (vr 7))) aN))))
    (sSq (sSet 12 (callM s_places_with 4 (aC (vr 1) (aC (bin opIx (vr 11) (ci 0)) (aC (bin opIx (vr 11) (ci 1)) (aC (bin opAdd (vr 7) (ci 1)) aN))))))
    (sSq (sIf (tst (bin opLt (vr 4) (vr 12))) sBk sNx)
    (sAug (fun i j => i - j) 4 (vr 12)))))))
    (sPar3 3 5 6 (aC (bin opAdd (bin opMul (ci 4) (vr 3)) (vr 9)) (aC (bin opIx (vr 11) (ci 0)) (aC (bin opIx (vr 11) (ci 1)) aN))))))
    (sRt (vr 3))))
noncomputable def s_nth_of_window : Fn := runF 13 b_nth_of_window

noncomputable def b_places_of : M Fl :=
    (sRt (bin opMul (bin opIx (vr 0) (ci 2)) (bin opIx (vr 0) (ci 3))))
noncomputable def s_places_of : Fn := runF 1 b_places_of

noncomputable def b_threshold_range : M Fl :=
    (sSq (sEx (callM s_require_screen 1 (aC (vr 0) aN)))
    (sSq (sEx (callM s_require_window 1 (aC (vr 1) aN)))
    (sRt (tupE (aC (callM s_nth_of_window 3 (aC (vr 0) (aC (vr 1) (aC (ci 0) aN)))) (aC (callM s_nth_of_window 3 (aC (vr 0) (aC (vr 1) (aC (bin opSub (callM s_places_of 1 (aC (vr 1) aN)) (ci 1)) aN)))) aN))))))
noncomputable def s_threshold_range : Fn := runF 2 b_threshold_range

noncomputable def b_require_number : M Fl :=
    (sIf (mNot (tst (callM s_is_whole 3 (aC (vr 0) (aC (vr 1) (aC (vr 2) aN)))))) sBad sNx)
noncomputable def s_require_number : Fn := runF 3 b_require_number

noncomputable def b_least_with : M Fl :=
    (sRt (eIf (tst (bin opEqD (vr 2) (ci 0))) (ci 0) (bin opAdd (callM s_nth_of_window 3 (aC (vr 0) (aC (vr 1) (aC (bin opSub (vr 2) (ci 1)) aN)))) (ci 1))))
noncomputable def s_least_with : Fn := runF 3 b_least_with

noncomputable def b_least_shade : M Fl :=
    (sSq (sEx (callM s_require_screen 1 (aC (vr 0) aN)))
    (sSq (sEx (callM s_require_window 1 (aC (vr 1) aN)))
    (sSq (sEx (callM s_require_number 3 (aC (vr 2) (aC (ci 0) (aC (callM s_places_of 1 (aC (vr 1) aN)) aN)))))
    (sRt (callM s_least_with 3 (aC (vr 0) (aC (vr 1) (aC (vr 2) aN))))))))
noncomputable def s_least_shade : Fn := runF 3 b_least_shade

noncomputable def b_stretch_with : M Fl :=
    (sSq (sPar 3 4 (aC (callM s_least_with 3 (aC (vr 0) (aC (vr 1) (aC (vr 2) aN)))) (aC (propU 0 s_Screen_shades (vr 0)) aN)))
    (sSq (sIf (tst (bin opLt (vr 2) (callM s_places_of 1 (aC (vr 1) aN)))) (sSet 4 (callM s_nth_of_window 3 (aC (vr 0) (aC (vr 1) (aC (vr 2) aN))))) sNx)
    (sRt (eIf (tst (bin opLe (vr 3) (vr 4))) (tupE (aC (vr 3) (aC (vr 4) aN))) cn))))
noncomputable def s_stretch_with : Fn := runF 5 b_stretch_with

noncomputable def b_shades_with : M Fl :=
    (sSq (sEx (callM s_require_screen 1 (aC (vr 0) aN)))
    (sSq (sEx (callM s_require_window 1 (aC (vr 1) aN)))
    (sSq (sEx (callM s_require_number 3 (aC (vr 2) (aC (ci 0) (aC (callM s_places_of 1 (aC (vr 1) aN)) aN)))))
    (sRt (callM s_stretch_with 3 (aC (vr 0) (aC (vr 1) (aC (vr 2) aN))))))))
noncomputable def s_shades_with : Fn := runF 3 b_shades_with

noncomputable def b_nth_threshold : M Fl :=
    (sSq (sEx (callM s_require_screen 1 (aC (vr 0) aN)))
    (sSq (sEx (callM s_require_window 1 (aC (vr 1) aN)))
    (sSq (sEx (callM s_require_number 3 (aC (vr 2) (aC (ci 0) (aC (bin opSub (callM s_places_of 1 (aC (vr 1) aN)) (ci 1)) aN)))))
    (sRt (callM s_nth_of_window 3 (aC (vr 0) (aC (vr 1) (aC (vr 2) aN))))))))
noncomputable def s_nth_threshold : Fn := runF 3 b_nth_threshold

noncomputable def b_times_of : M Fl :=
    (sSq (sEx (callM s_require_screen 1 (aC (vr 0) aN)))
    (sSq (sEx (callM s_require_window 1 (aC (vr 1) aN)))
    (sSq (sEx (callM s_require_number 3 (aC (vr 2) (aC (ci 0) (aC (bin opSub (propU 0 s_Screen_shades (vr 0)) (ci 1)) aN)))))
    (sSq (sAsg (callM s_place_of 2 (aC (attrU 0 "own_levels" (vr 0)) (aC (vr 2) aN))) (gT 2 (gsC (gN 3) (gsC (gN 4) gsN))))
    (sRt (callM s_places_with 4 (aC (vr 1) (aC (vr 3) (aC (vr 4) (aC (propU 0 s_Screen_depth (vr 0)) aN))))))))))
noncomputable def s_times_of : Fn := runF 5 b_times_of

noncomputable def b_z_law_spin : M Fl :=
    (sSq (sIf (tst (bin opGt (bin opIx (vr 0) (ci 0)) (ci 0))) (sSq (sSet 2 (bin opMod (opA (op1 opInt) (aC (bin opIx (vr 0) (ci 0)) aN)) (vr 1)))
    (sSq (sSub (bin opDiv (bin opIx (vr 0) (ci 0)) (vr 1)) (vr 0) (ci 0))
    (sRt (vr 2)))) sNx)
    (sSq (sSub (bin opAdd (bin opIx (vr 0) (ci 2)) (ci 1)) (vr 0) (ci 2))
    (sSq (sSet 3 (bin opMod (opA (op1 opInt) (aC (bin opPow (bin opAdd (bin opIx (vr 0) (ci 1)) (bin opMul (ci 86028121) (bin opIx (vr 0) (ci 2)))) (ci 3)) aN)) (bin opAdd (bin opPow (ci 10) (ci 42)) (ci 63))))
    (sSq (sSet 3 (bin opMod (opA (op1 opInt) (aC (bin opPow (bin opAdd (vr 3) (bin opMul (ci 67867967) (bin opIx (vr 0) (ci 2)))) (ci 3)) aN)) (bin opAdd (bin opPow (ci 10) (ci 44)) (ci 57))))
    (sRt (bin opMod (opA (op1 opInt) (aC (bin opDiv (vr 3) (ci 655331)) aN)) (vr 1)))))))
noncomputable def s_z_law_spin : Fn := runF 4 b_z_law_spin

noncomputable def b_z_law_mixed : M Fl :=
    (sSq (sPar 2 3 (aC (opA (op1 opList) (aC (vr 1) aN)) (aC (lstE aN) aN)))
    (sSq (sWhile (tst (bin opNeD (vr 2) (lstE aN))) (sEx (methM isLst opApp (vr 3) (aC (methM isLst opPopAt (vr 2) (aC (callM s_z_law_spin 2 (aC (vr 0) (aC (opA (op1 opLen) (aC (vr 2) aN)) aN))) aN)) aN))))
    (sRt (vr 3))))
noncomputable def s_z_law_mixed : Fn := runF 4 b_z_law_mixed

noncomputable def b_z_law_drawn_levels : M Fl :=
    (sSq (sSet 2 (lstE aN))
    (sSq (sFor (itR1 (aC (bin opAdd (ci 1) (callM s_z_law_spin 2 (aC (vr 0) (aC (vr 1) aN)))) aN)) (gN 3) (sEx (methM isLst opApp (vr 2) (aC (opA (op1 opTuple) (aC (callM s_z_law_mixed 2 (aC (vr 0) (aC (pur (lstE (aC (ci 0) (aC (ci 1) (aC (ci 2) (aC (ci 3) aN)))))) aN))) aN)) aN))))
    (sRt (vr 2))))
noncomputable def s_z_law_drawn_levels : Fn := runF 4 b_z_law_drawn_levels

noncomputable def b_z_law_power : M Fl :=
    (sSq (sSet 1 (ci 1))
    (sSq (sFor (itR1 (aC (vr 0) aN)) (gN 2) (sSet 1 (bin opMul (ci 2) (vr 1))))
    (sRt (vr 1))))
noncomputable def s_z_law_power : Fn := runF 3 b_z_law_power

noncomputable def b_z_law_drawn_window : M Fl :=
    (sSq (sPar 3 4 (aC (bin opSub (callM s_z_law_spin 2 (aC (vr 0) (aC (bin opAdd (bin opMul (ci 2) (vr 1)) (ci 1)) aN))) (vr 1)) (aC (bin opSub (callM s_z_law_spin 2 (aC (vr 0) (aC (bin opAdd (bin opMul (ci 2) (vr 1)) (ci 1)) aN))) (vr 1)) aN)))
    (sRt (tupE (aC (vr 3) (aC (vr 4) (aC (bin opAdd (ci 1) (callM s_z_law_spin 2 (aC (vr 0) (aC (vr 2) aN)))) (aC (bin opAdd (ci 1) (callM s_z_law_spin 2 (aC (vr 0) (aC (vr 2) aN)))) aN)))))))
noncomputable def s_z_law_drawn_window : Fn := runF 5 b_z_law_drawn_window

noncomputable def b_z_law_threshold_at : M Fl :=
    (sSq (sSet 3 (ci 0))
    (sSq (sFor (itL (vr 0)) (gN 4) (sSq (sSet 3 (bin opAdd (bin opMul (ci 4) (vr 3)) (bin opIx (vr 4) (bin opAdd (bin opMod (opA (op1 opInt) (aC (vr 1) aN)) (ci 2)) (bin opMul (ci 2) (bin opMod (opA (op1 opInt) (aC (vr 2) aN)) (ci 2)))))))
    (sPar 1 2 (aC (bin opDiv (vr 1) (ci 2)) (aC (bin opDiv (vr 2) (ci 2)) aN)))))
    (sRt (vr 3))))
noncomputable def s_z_law_threshold_at : Fn := runF 5 b_z_law_threshold_at

noncomputable def b_z_law_listed : M Fl :=
    (sSq (sAsg (vr 1) (gT 4 (gsC (gN 2) (gsC (gN 3) (gsC (gN 4) (gsC (gN 5) gsN))))))
    (sSq (sSet 6 (pur (lstE aN)))
    (sSq (sFor (itR2L (aC (vr 3) (aC (bin opAdd (vr 3) (vr 5)) aN))) (gN 7) (sSet 6 (pur (bin opAdd (vr 6) (lcE [8] [8] unp1 (itR2L (aC (vr 2) (aC (bin opAdd (vr 2) (vr 4)) aN))) tYesM (callM s_z_law_threshold_at 3 (aC (vr 0) (aC (vr 8) (aC (vr 7) aN)))))))))
    (sRt (vr 6)))))
noncomputable def s_z_law_listed : Fn := runF 9 b_z_law_listed

noncomputable def b_z_law_kinds : M Fl :=
    (sSq (sSet 1 (pur (lstE (aC (tupE (aC (cs "levels") (aC (isB "InvalidLevels" (vr 0)) aN))) (aC (tupE (aC (cs "plates") (aC (isB "InvalidPlates" (vr 0)) aN))) aN)))))
    (sSq (sSet 1 (pur (bin opAdd (vr 1) (lstE (aC (tupE (aC (cs "conditions") (aC (isB "InvalidConditions" (vr 0)) aN))) (aC (tupE (aC (cs "seen") (aC (isB "InvalidSeen" (vr 0)) aN))) aN))))))
    (sSq (sSet 1 (pur (bin opAdd (vr 1) (lstE (aC (tupE (aC (cs "text") (aC (isB "InvalidText" (vr 0)) aN))) (aC (tupE (aC (cs "deep") (aC (isB "TooDeep" (vr 0)) aN))) aN))))))
    (sSq (sSet 1 (pur (bin opAdd (vr 1) (lstE (aC (tupE (aC (cs "over") (aC (isB "OverInk" (vr 0)) aN))) (aC (tupE (aC (cs "screen") (aC (isB "InvalidScreen" (vr 0)) aN))) aN))))))
    (sSq (sSet 1 (pur (bin opAdd (vr 1) (lstE (aC (tupE (aC (cs "shade") (aC (isB "InvalidShade" (vr 0)) aN))) (aC (tupE (aC (cs "window") (aC (isB "InvalidWindow" (vr 0)) aN))) aN))))))
    (sSq (sSet 1 (pur (bin opAdd (vr 1) (lstE (aC (tupE (aC (cs "place") (aC (isB "InvalidPlace" (vr 0)) aN))) (aC (tupE (aC (cs "side") (aC (isB "InvalidSide" (vr 0)) aN))) aN))))))
    (sSq (sSet 1 (pur (bin opAdd (vr 1) (lstE (aC (tupE (aC (cs "kind") (aC (isB "InvalidKind" (vr 0)) aN))) (aC (tupE (aC (cs "number") (aC (isB "InvalidNumber" (vr 0)) aN))) aN))))))
    (sSq (sSet 1 (pur (bin opAdd (vr 1) (lstE (aC (tupE (aC (cs "rows") (aC (isB "InvalidRows" (vr 0)) aN))) (aC (tupE (aC (cs "limit") (aC (isB "InvalidLimit" (vr 0)) aN))) aN))))))
    (sSq (sSet 1 (pur (bin opAdd (vr 1) (lstE (aC (tupE (aC (cs "operation") (aC (isB "InvalidOperation" (vr 0)) aN))) (aC (tupE (aC (cs "nothing") (aC (isB "Nothing" (vr 0)) aN))) aN))))))
    (sRt (bin opAdd (vr 1) (lstE (aC (tupE (aC (cs "command") (aC (isB "InvalidCommand" (vr 0)) aN))) aN)))))))))))))
noncomputable def s_z_law_kinds : Fn := runF 2 b_z_law_kinds

noncomputable def b_require_square : M Fl :=
    (sSq (sEx (callM s_require_screen 1 (aC (vr 0) aN)))
    (sSq (sEx (callM s_require_shade 2 (aC (vr 0) (aC (vr 1) aN))))
    (sIf (mNot (tst (callM s_is_whole 3 (aC (vr 2) (aC (ci 0) (aC (propU 0 s_Screen_depth (vr 0)) aN)))))) sBad sNx)))
noncomputable def s_require_square : Fn := runF 3 b_require_square

noncomputable def b_parted_shade : M Fl :=
    (sSq (sSet 3 (bin opMul (ci 2) (bin opSub (propU 0 s_Screen_depth (vr 0)) (vr 2))))
    (sRt (tupE (aC (bin opShr (vr 1) (vr 3)) (aC (bin opBand (vr 1) (bin opSub (bin opShl (ci 1) (vr 3)) (ci 1))) aN)))))
noncomputable def s_parted_shade : Fn := runF 4 b_parted_shade

noncomputable def b_decider : M Fl :=
    (sSq (sAsg (callM s_parted_shade 3 (aC (vr 0) (aC (vr 1) (aC (vr 2) aN)))) (gT 2 (gsC (gN 3) (gsC (gN 4) gsN))))
    (sSq (sIf (tst (bin opEqD (vr 4) (ci 0))) (sRt cn) sNx)
    (sRt (callM s_place_of 2 (aC (pur (slE (attrU 0 "own_levels" (vr 0)) opt0 (opt1 (vr 2)))) (aC (vr 3) aN))))))
noncomputable def s_decider : Fn := runF 5 b_decider

noncomputable def b_spot_behind : M Fl :=
    (sRt (bin opSub (ci 0) (bin opShr (bin opSub (vr 1) (vr 0)) (vr 2))))
noncomputable def s_spot_behind : Fn := runF 3 b_spot_behind

noncomputable def b_is_fuller : M Fl :=
    (sSq (sEx (callM s_require_square 3 (aC (vr 0) (aC (vr 1) (aC (vr 2) aN)))))
    (sSq (sEx (callM s_require_place 2 (aC (vr 3) (aC (vr 4) aN))))
    (sSq (sSet 5 (callM s_decider 3 (aC (vr 0) (aC (vr 1) (aC (vr 2) aN)))))
    (sSq (sIf (tst (isN (vr 5))) (sRt (cb false)) sNx)
    (sSq (sSet 6 (tupE (aC (bin opAdd (bin opIx (vr 5) (ci 0)) (bin opShl (callM s_spot_behind 3 (aC (vr 3) (aC (bin opIx (vr 5) (ci 0)) (aC (vr 2) aN)))) (vr 2))) (aC (bin opAdd (bin opIx (vr 5) (ci 1)) (bin opShl (callM s_spot_behind 3 (aC (vr 4) (aC (bin opIx (vr 5) (ci 1)) (aC (vr 2) aN)))) (vr 2))) aN))))
    (sRt (bin opLt (callM s_threshold_at 3 (aC (vr 0) (aC (bin opIx (vr 6) (ci 0)) (aC (bin opIx (vr 6) (ci 1)) aN)))) (vr 1))))))))
noncomputable def s_is_fuller : Fn := runF 7 b_is_fuller

noncomputable def b_z_law_drawn_shade : M Fl :=
    (sSq (sSet 2 (callM s_z_law_power 1 (aC (bin opMul (ci 2) (opA (op1 opLen) (aC (vr 1) aN))) aN)))
    (sRt (bin opIx (lstE (aC (callM s_z_law_spin 2 (aC (vr 0) (aC (bin opAdd (vr 2) (ci 1)) aN))) (aC (ci 0) (aC (vr 2) (aC (ci 1) (aC (bin opSub (vr 2) (ci 1)) (aC (callM s_z_law_spin 2 (aC (vr 0) (aC (bin opAdd (vr 2) (ci 1)) aN))) aN))))))) (callM s_z_law_spin 2 (aC (vr 0) (aC (ci 6) aN))))))
noncomputable def s_z_law_drawn_shade : Fn := runF 3 b_z_law_drawn_shade

noncomputable def b_even_part : M Fl :=
    (sSq (sEx (callM s_require_square 3 (aC (vr 0) (aC (vr 1) (aC (vr 2) aN)))))
    (sRt (bin opIx (callM s_parted_shade 3 (aC (vr 0) (aC (vr 1) (aC (vr 2) aN)))) (ci 0))))
noncomputable def s_even_part : Fn := runF 3 b_even_part

noncomputable def b_edges_of : M Fl :=
    (sSq (sPar 4 5 (aC (callM s_spot_behind 3 (aC (vr 0) (aC (vr 2) (aC (vr 3) aN)))) (aC (callM s_spot_behind 3 (aC (bin opSub (bin opAdd (vr 0) (vr 1)) (ci 1)) (aC (vr 2) (aC (vr 3) aN)))) aN)))
    (sSq (sIf (tst (bin opEqD (vr 4) (vr 5))) (sRt (tupE (aC (vr 4) (aC (vr 5) (aC (vr 1) (aC (vr 1) aN)))))) sNx)
    (sRt (tupE (aC (vr 4) (aC (vr 5) (aC (bin opAdd (bin opSub (bin opAdd (vr 2) (bin opShl (vr 4) (vr 3))) (vr 0)) (ci 1)) (aC (bin opSub (bin opSub (bin opSub (bin opAdd (vr 0) (vr 1)) (ci 1)) (vr 2)) (bin opShl (bin opSub (vr 5) (ci 1)) (vr 3))) aN))))))))
noncomputable def s_edges_of : Fn := runF 6 b_edges_of

noncomputable def b_parts_of : M Fl :=
    (sSq (sAsg (callM s_edges_of 4 (aC (vr 0) (aC (vr 1) (aC (vr 2) (aC (vr 3) aN))))) (gT 4 (gsC (gN 4) (gsC (gN 5) (gsC (gN 6) (gsC (gN 7) gsN))))))
    (sSq (sIf (tst (bin opEqD (vr 4) (vr 5))) (sRt (lstE (aC (tupE (aC (vr 4) (aC (ci 1) (aC (vr 1) aN)))) aN))) sNx)
    (sSq (sSet 8 (pur (lstE (aC (tupE (aC (vr 4) (aC (ci 1) (aC (vr 6) aN)))) (aC (tupE (aC (vr 5) (aC (ci 1) (aC (vr 7) aN)))) aN)))))
    (sRt (eIf (tst (bin opGt (bin opSub (vr 5) (vr 4)) (ci 1))) (lstE (aS (vr 8) (aC (tupE (aC (bin opAdd (vr 4) (ci 1)) (aC (bin opSub (bin opSub (vr 5) (vr 4)) (ci 1)) (aC (bin opShl (ci 1) (vr 3)) aN)))) aN))) (vr 8))))))
noncomputable def s_parts_of : Fn := runF 9 b_parts_of

noncomputable def b_fuller_count : M Fl :=
    (sSq (sEx (callM s_require_square 3 (aC (vr 0) (aC (vr 1) (aC (vr 2) aN)))))
    (sSq (sEx (callM s_require_window 1 (aC (vr 3) aN)))
    (sSq (sSet 4 (callM s_decider 3 (aC (vr 0) (aC (vr 1) (aC (vr 2) aN)))))
    (sSq (sIf (tst (isN (vr 4))) (sRt (ci 0)) sNx)
    (sSq (sPar 5 6 (aC (pur (slE (attrU 0 "own_levels" (vr 0)) (opt1 (vr 2)) opt0)) (aC (bin opIx (callM s_parted_shade 3 (aC (vr 0) (aC (vr 1) (aC (vr 2) aN)))) (ci 1)) aN)))
    (sSq (sAsg (vr 3) (gT 4 (gsC (gN 7) (gsC (gN 8) (gsC (gN 9) (gsC (gN 10) gsN))))))
    (sSq (sPar 11 12 (aC (pur (callM s_parts_of 4 (aC (vr 8) (aC (vr 10) (aC (bin opIx (vr 4) (ci 1)) (aC (vr 2) aN)))))) (aC (ci 0) aN)))
    (sSq (sFor (itL (callM s_parts_of 4 (aC (vr 7) (aC (vr 9) (aC (bin opIx (vr 4) (ci 0)) (aC (vr 2) aN)))))) (gT 3 (gsC (gN 13) (gsC (gN 14) (gsC (gN 15) gsN)))) (sFor (itL (vr 11)) (gT 3 (gsC (gN 16) (gsC (gN 17) (gsC (gN 18) gsN)))) (sAug (fun i j => i + j) 12 (bin opMul (bin opMul (vr 15) (vr 18)) (callM s_count_of 3 (aC (vr 5) (aC (vr 6) (aC (tupE (aC (vr 13) (aC (vr 16) (aC (vr 14) (aC (vr 17) aN))))) aN))))))))
    (sRt (vr 12))))))))))
noncomputable def s_fuller_count : Fn := runF 19 b_fuller_count

noncomputable def b_first_fuller : M Fl :=
    (sSq (sEx (callM s_require_square 3 (aC (vr 0) (aC (vr 1) (aC (vr 2) aN)))))
    (sSq (sEx (callM s_require_window 1 (aC (vr 3) aN)))
    (sSq (sSet 4 (callM s_decider 3 (aC (vr 0) (aC (vr 1) (aC (vr 2) aN)))))
    (sSq (sIf (tst (isN (vr 4))) (sRt cn) sNx)
    (sSq (sPar 5 6 (aC (pur (slE (attrU 0 "own_levels" (vr 0)) (opt1 (vr 2)) opt0)) (aC (bin opIx (callM s_parted_shade 3 (aC (vr 0) (aC (vr 1) (aC (vr 2) aN)))) (ci 1)) aN)))
    (sSq (sAsg (vr 3) (gT 4 (gsC (gN 7) (gsC (gN 8) (gsC (gN 9) (gsC (gN 10) gsN))))))
    (sSq (sAsg (slE (callM s_edges_of 4 (aC (vr 7) (aC (vr 9) (aC (bin opIx (vr 4) (ci 0)) (aC (vr 2) aN))))) opt0 (opt1 (ci 2))) (gT 2 (gsC (gN 11) (gsC (gN 12) gsN))))
    (sSq (sAsg (slE (callM s_edges_of 4 (aC (vr 8) (aC (vr 10) (aC (bin opIx (vr 4) (ci 1)) (aC (vr 2) aN))))) opt0 (opt1 (ci 2))) (gT 2 (gsC (gN 13) (gsC (gN 14) gsN))))
    (sSq (sSet 15 (callM s_nth_of 4 (aC (vr 5) (aC (vr 6) (aC (tupE (aC (vr 11) (aC (vr 13) (aC (bin opAdd (bin opSub (vr 12) (vr 11)) (ci 1)) (aC (bin opAdd (bin opSub (vr 14) (vr 13)) (ci 1)) aN))))) (aC (ci 0) aN))))))
    (sSq (sIf (tst (isN (vr 15))) (sRt cn) sNx)
    (sRt (tupE (aC (opA opMax2 (aC (vr 7) (aC (bin opAdd (bin opAdd (bin opIx (vr 4) (ci 0)) (bin opShl (bin opSub (bin opIx (vr 15) (ci 0)) (ci 1)) (vr 2))) (ci 1)) aN))) (aC (opA opMax2 (aC (vr 8) (aC (bin opAdd (bin opAdd (bin opIx (vr 4) (ci 1)) (bin opShl (bin opSub (bin opIx (vr 15) (ci 1)) (ci 1)) (vr 2))) (ci 1)) aN))) aN))))))))))))))
noncomputable def s_first_fuller : Fn := runF 16 b_first_fuller

noncomputable def b_require_kind : M Fl :=
    (sIf (mOr (mNot (tst (isB "str" (vr 0)))) (tst (bin opNotIn (vr 0) (cd (.tup [(.str "dot"), (.str "blank")]))))) sBad sNx)
noncomputable def s_require_kind : Fn := runF 1 b_require_kind

noncomputable def b_shade_digits : M Fl :=
    (sSq (sSet 2 (propU 0 s_Screen_depth (vr 0)))
    (sRt (lcE [3] [3] unp1 (itR1 (aC (vr 2) aN)) tYesM (bin opBand (bin opShr (vr 1) (bin opMul (ci 2) (bin opSub (bin opSub (vr 2) (ci 1)) (vr 3)))) (ci 3)))))
noncomputable def s_shade_digits : Fn := runF 4 b_shade_digits

noncomputable def b_joined : M Fl :=
    (sSq (sSet 5 (lstE aN))
    (sSq (sFor (itL (tupE (aC (vr 0) (aC (vr 1) aN)))) (gN 6) (sIf (tst (bin opEqD (vr 6) (vr 2))) (sEx (methM isLst opApp (vr 5) (aC (cs "on") aN))) (sEx (methM isLst opApp (vr 5) (aC (eIf (tst (bin opLt (vr 6) (vr 2))) (cs "dot") (cs "blank")) aN)))))
    (sSq (sIf (tst (bin opEqD (vr 5) (lstE (aC (vr 3) (aC (vr 3) aN))))) (sRt cn) sNx)
    (sSq (sIf (tst (bin opNotIn (cs "on") (vr 5))) (sRt (opA (op1 opInt) (aC (bin opIn (vr 3) (vr 5)) aN))) sNx)
    (sSq (sIf (tst (bin opNotIn (vr 3) (vr 5))) (sRt (eIf (tst (isN (vr 4))) (ci 1) (opA opMin2 (aC (ci 1) (aC (vr 4) aN))))) sNx)
    (sRt (eIf (tst (isN (vr 4))) cn (bin opAdd (bin opMul (ci 2) (vr 4)) (ci 1)))))))))
noncomputable def s_joined : Fn := runF 7 b_joined

noncomputable def b_greater : M Fl :=
    (sRt (eIf (mOr (tst (isN (vr 0))) (tst (isN (vr 1)))) cn (opA opMax2 (aC (vr 0) (aC (vr 1) aN)))))
noncomputable def s_greater : Fn := runF 2 b_greater

noncomputable def b_longest : M Fl :=
    (sSq (sIf (tst (bin opEqD (vr 1) (propU 0 s_Screen_shades (vr 0)))) (sRt (eIf (tst (bin opEqD (vr 2) (cs "dot"))) cn (ci 0))) sNx)
    (sSq (sSet 4 (eIf (tst (bin opEqD (vr 2) (cs "dot"))) (ci 0) cn))
    (sSq (sSet 5 (pur (callM s_shade_digits 2 (aC (vr 0) (aC (vr 1) aN)))))
    (sSq (sFor (itR3 (aC (bin opSub (propU 0 s_Screen_depth (vr 0)) (ci 1)) (aC (uNeg (ci 1)) (aC (uNeg (ci 1)) aN)))) (gN 6) (sSq (sAsg (bin opIx (vr 3) (vr 6)) (gT 2 (gsC (gN 7) (gsC (gN 8) gsN))))
    (sSq (sSq (sSet 9 (lcE [10] [10] unp1 (itL (vr 7)) tYesM (callM s_joined 5 (aC (bin opIx (vr 10) (ci 0)) (aC (bin opIx (vr 10) (ci 1)) (aC (bin opIx (vr 5) (vr 6)) (aC (vr 2) (aC (vr 4) aN)))))))) (sPur 9))
    (sSet 4 (eIf (tst (isN (vr 8))) (callM s_greater 2 (aC (bin opIx (vr 9) (ci 0)) (aC (bin opIx (vr 9) (ci 1)) aN))) (bin opIx (vr 9) (vr 8)))))))
    (sRt (vr 4))))))
noncomputable def s_longest : Fn := runF 11 b_longest

noncomputable def b_rows_of : M Fl :=
    (sSq (sSet 2 (lstE aN))
    (sSq (sFor (itE (attrU 0 "own_levels" (vr 0))) (gsC (gN 3) (gsC (gN 4) gsN)) (sSq (sSet 5 (eIf (tst (isN (vr 1))) cn (bin opBand (bin opShr (vr 1) (vr 3)) (ci 1))))
    (sEx (methM isLst opApp (vr 2) (aC (tupE (aC (tupE (aC (tupE (aC (bin opIx (vr 4) (ci 0)) (aC (bin opIx (vr 4) (ci 1)) aN))) (aC (tupE (aC (bin opIx (vr 4) (ci 2)) (aC (bin opIx (vr 4) (ci 3)) aN))) aN))) (aC (vr 5) aN))) aN)))))
    (sRt (vr 2))))
noncomputable def s_rows_of : Fn := runF 6 b_rows_of

noncomputable def b_longest_in_row : M Fl :=
    (sSq (sEx (callM s_require_screen 1 (aC (vr 0) aN)))
    (sSq (sEx (callM s_require_shade 2 (aC (vr 0) (aC (vr 1) aN))))
    (sSq (sEx (callM s_require_coordinate 1 (aC (vr 2) aN)))
    (sSq (sEx (callM s_require_kind 1 (aC (vr 3) aN)))
    (sRt (callM s_longest 4 (aC (vr 0) (aC (vr 1) (aC (vr 3) (aC (pur (callM s_rows_of 2 (aC (vr 0) (aC (vr 2) aN)))) aN))))))))))
noncomputable def s_longest_in_row : Fn := runF 4 b_longest_in_row

noncomputable def b_columns_of : M Fl :=
    (sSq (sSet 2 (lstE aN))
    (sSq (sFor (itE (attrU 0 "own_levels" (vr 0))) (gsC (gN 3) (gsC (gN 4) gsN)) (sSq (sSet 5 (eIf (tst (isN (vr 1))) cn (bin opBand (bin opShr (vr 1) (vr 3)) (ci 1))))
    (sEx (methM isLst opApp (vr 2) (aC (tupE (aC (tupE (aC (tupE (aC (bin opIx (vr 4) (ci 0)) (aC (bin opIx (vr 4) (ci 2)) aN))) (aC (tupE (aC (bin opIx (vr 4) (ci 1)) (aC (bin opIx (vr 4) (ci 3)) aN))) aN))) (aC (vr 5) aN))) aN)))))
    (sRt (vr 2))))
noncomputable def s_columns_of : Fn := runF 6 b_columns_of

noncomputable def b_longest_in_column : M Fl :=
    (sSq (sEx (callM s_require_screen 1 (aC (vr 0) aN)))
    (sSq (sEx (callM s_require_shade 2 (aC (vr 0) (aC (vr 1) aN))))
    (sSq (sEx (callM s_require_coordinate 1 (aC (vr 2) aN)))
    (sSq (sEx (callM s_require_kind 1 (aC (vr 3) aN)))
    (sRt (callM s_longest 4 (aC (vr 0) (aC (vr 1) (aC (vr 3) (aC (pur (callM s_columns_of 2 (aC (vr 0) (aC (vr 2) aN)))) aN))))))))))
noncomputable def s_longest_in_column : Fn := runF 4 b_longest_in_column

noncomputable def b_z_law_halves_v1 : M Fl :=
    (sSq (sSet 3 (lstE aN))
    (sSq (sFor (itL (vr 0)) (gN 4) (sSq (sPar 5 1 (aC (bin opMod (opA (op1 opInt) (aC (vr 1) aN)) (ci 2)) (aC (bin opDiv (vr 1) (ci 2)) aN)))
    (sIf (tst (vr 2)) (sEx (methM isLst opApp (vr 3) (aC (tupE (aC (bin opIx (vr 4) (bin opMul (ci 2) (vr 5))) (aC (bin opIx (vr 4) (bin opAdd (bin opMul (ci 2) (vr 5)) (ci 1))) aN))) aN))) (sEx (methM isLst opApp (vr 3) (aC (tupE (aC (bin opIx (vr 4) (vr 5)) (aC (bin opIx (vr 4) (bin opAdd (vr 5) (ci 2))) aN))) aN))))))
    (sRt (vr 3))))
noncomputable def s_z_law_halves_v1 : Fn := runF 6 b_z_law_halves_v1

noncomputable def b_longest_across : M Fl :=
    (sSq (sEx (callM s_require_screen 1 (aC (vr 0) aN)))
    (sSq (sEx (callM s_require_shade 2 (aC (vr 0) (aC (vr 1) aN))))
    (sSq (sEx (callM s_require_kind 1 (aC (vr 2) aN)))
    (sRt (callM s_longest 4 (aC (vr 0) (aC (vr 1) (aC (vr 2) (aC (pur (callM s_rows_of 2 (aC (vr 0) (aC cn aN)))) aN)))))))))
noncomputable def s_longest_across : Fn := runF 3 b_longest_across

noncomputable def b_longest_down : M Fl :=
    (sSq (sEx (callM s_require_screen 1 (aC (vr 0) aN)))
    (sSq (sEx (callM s_require_shade 2 (aC (vr 0) (aC (vr 1) aN))))
    (sSq (sEx (callM s_require_kind 1 (aC (vr 2) aN)))
    (sRt (callM s_longest 4 (aC (vr 0) (aC (vr 1) (aC (vr 2) (aC (pur (callM s_columns_of 2 (aC (vr 0) (aC cn aN)))) aN)))))))))
noncomputable def s_longest_down : Fn := runF 3 b_longest_down

noncomputable def b_is_coordinate : M Fl :=
    (sRt (callM s_is_whole 3 (aC (vr 0) (aC (bin opSub (ci 0) (cd (.int 1000000000000000000000000000000))) (aC (cd (.int 1000000000000000000000000000000)) aN)))))
noncomputable def s_is_coordinate : Fn := runF 1 b_is_coordinate

noncomputable def b_is_plate : M Fl :=
    (sSq (sIf (mOr (mNot (tst (isB "tuple" (vr 0)))) (mOr (tst (bin opNeD (opA (op1 opLen) (aC (vr 0) aN)) (ci 4))) (mNot (tst (isC 0 (bin opIx (vr 0) (ci 0))))))) (sRt (cb false)) sNx)
    (sRt (eAnd (callM s_is_shade 2 (aC (bin opIx (vr 0) (ci 0)) (aC (bin opIx (vr 0) (ci 1)) aN))) (eAnd (callM s_is_coordinate 1 (aC (bin opIx (vr 0) (ci 2)) aN)) (callM s_is_coordinate 1 (aC (bin opIx (vr 0) (ci 3)) aN))))))
noncomputable def s_is_plate : Fn := runF 1 b_is_plate

noncomputable def b_require_plates : M Fl :=
    (sSq (sIf (mOr (mNot (tst (isB "list" (vr 0)))) (mNot (tst (eChain opLe opLe (ci 1) (opA (op1 opLen) (aC (vr 0) aN)) (vr 1))))) sBad sNx)
    (sFor (itE (vr 0)) (gsC (gN 2) (gsC (gN 3) gsN)) (sIf (mNot (tst (callM s_is_plate 1 (aC (vr 3) aN)))) sBad sNx)))
noncomputable def s_require_plates : Fn := runF 4 b_require_plates

noncomputable def b_looks_of : M Fl :=
    (sSq (sSet 2 (lstE aN))
    (sSq (sFor (itL (vr 1)) (gT 4 (gsC (gN 3) (gsC (gN 4) (gsC (gN 5) (gsC (gN 6) gsN))))) (sSq (sAsg (bin opIx (vr 0) (vr 3)) (gT 4 (gsC (gN 7) (gsC (gN 8) (gsC (gN 9) (gsC (gN 10) gsN))))))
    (sSq (sSet 11 (propU 0 s_Screen_depth (vr 7)))
    (sSq (sSet 12 (bin opEqD (vr 8) (propU 0 s_Screen_shades (vr 7))))
    (sSq (sSq (sSet 13 (lcE [14] [14] unp1 (itR1 (aC (vr 11) aN)) tYesM (eIf (tst (vr 12)) (ci 4) (bin opBand (bin opShr (vr 8) (bin opMul (ci 2) (bin opSub (bin opSub (vr 11) (ci 1)) (vr 14)))) (ci 3))))) (sPur 13))
    (sEx (methM isLst opApp (vr 2) (aC (tupE (aC (attrU 0 "own_levels" (vr 7)) (aC (vr 13) (aC (bin opSub (vr 4) (vr 9)) (aC (bin opSub (vr 5) (vr 10)) aN))))) aN))))))))
    (sRt (vr 2))))
noncomputable def s_looks_of : Fn := runF 15 b_looks_of

noncomputable def b_bit_of : M Fl :=
    (sRt (bin opBand (bin opShr (vr 0) (vr 1)) (ci 1)))
noncomputable def s_bit_of : Fn := runF 2 b_bit_of

noncomputable def b_may_be : M Fl :=
    (sRt (eOr (isN (vr 1)) (opA (op1 opAll) (aC (lcE [2, 3] [2, 3] unpW (itZ (aC (vr 0) (aC (vr 1) aN))) tYesM (bin opIn (vr 2) (tupE (aC (ci 2) (aC (vr 3) aN))))) aN))))
noncomputable def s_may_be : Fn := runF 4 b_may_be

noncomputable def b_less_so_far : M Fl :=
    (sRt (eIf (tst (bin opEqD (vr 0) (vr 1))) (vr 2) (bin opLt (vr 0) (vr 1))))
noncomputable def s_less_so_far : Fn := runF 3 b_less_so_far

noncomputable def b_z_law_levels_v1 : M Fl :=
    (sSq (sSet 2 (lstE aN))
    (sSq (sFor (itR1 (aC (bin opAdd (ci 1) (callM s_z_law_pick 2 (aC (vr 0) (aC (vr 1) aN)))) aN)) (gN 3) (sSq (sPar 4 5 (aC (lstE (aC (ci 0) (aC (ci 1) (aC (ci 2) (aC (ci 3) aN))))) (aC (lstE aN) aN)))
    (sSq (sWhile (tst (bin opNeD (vr 4) (lstE aN))) (sEx (methM isLst opApp (vr 5) (aC (methM isLst opPopAt (vr 4) (aC (callM s_z_law_pick 2 (aC (vr 0) (aC (opA (op1 opLen) (aC (vr 4) aN)) aN))) aN)) aN))))
    (sEx (methM isLst opApp (vr 2) (aC (opA (op1 opTuple) (aC (vr 5) aN)) aN))))))
    (sRt (vr 2))))
noncomputable def s_z_law_levels_v1 : Fn := runF 6 b_z_law_levels_v1

noncomputable def b_z_law_shade_v1 : M Fl :=
    (sSq (sSet 2 (bin opShl (ci 1) (bin opMul (ci 2) (opA (op1 opLen) (aC (vr 1) aN)))))
    (sSq (sSet 3 (bin opShl (ci 1) (bin opMul (ci 2) (callM s_z_law_pick 2 (aC (vr 0) (aC (bin opAdd (opA (op1 opLen) (aC (vr 1) aN)) (ci 1)) aN))))))
    (sSq (sSet 4 (callM s_z_law_pick 2 (aC (vr 0) (aC (bin opAdd (vr 2) (ci 1)) aN))))
    (sRt (bin opIx (lstE (aC (vr 4) (aC (bin opMul (bin opDiv (vr 4) (vr 3)) (vr 3)) (aC (ci 0) (aC (vr 2) (aC (vr 4) aN)))))) (callM s_z_law_pick 2 (aC (vr 0) (aC (ci 5) aN))))))))
noncomputable def s_z_law_shade_v1 : Fn := runF 5 b_z_law_shade_v1

noncomputable def b_z_law_plates_v1 : M Fl :=
    (sSq (sSet 3 (lstE aN))
    (sSq (sFor (itR1 (aC (vr 1) aN)) (gN 4) (sSq (sSet 5 (pur (callM s_z_law_levels_v1 2 (aC (vr 0) (aC (vr 2) aN)))))
    (sSq (sIf (mAnd (tst (bin opNeD (vr 3) (lstE aN))) (tst (bin opEqD (callM s_z_law_pick 2 (aC (vr 0) (aC (ci 3) aN))) (ci 0)))) (sSet 5 (bin opIx (bin opIx (vr 3) (ci 0)) (ci 0))) sNx)
    (sSq (sSet 6 (bin opIx (lstE (aC (bin opSub (callM s_z_law_pick 2 (aC (vr 0) (aC (ci 7) aN))) (ci 3)) (aC (bin opSub (callM s_z_law_pick 2 (aC (vr 0) (aC (bin opAdd (bin opMul (ci 2) (bin opPow (ci 10) (ci 30))) (ci 1)) aN))) (bin opPow (ci 10) (ci 30))) aN))) (opA (op1 opInt) (aC (bin opEqD (callM s_z_law_pick 2 (aC (vr 0) (aC (ci 4) aN))) (ci 0)) aN))))
    (sEx (methM isLst opApp (vr 3) (aC (tupE (aC (vr 5) (aC (callM s_z_law_shade_v1 2 (aC (vr 0) (aC (vr 5) aN))) (aC (vr 6) (aC (bin opSub (callM s_z_law_pick 2 (aC (vr 0) (aC (ci 7) aN))) (ci 3)) aN))))) aN)))))))
    (sRt (vr 3))))
noncomputable def s_z_law_plates_v1 : Fn := runF 7 b_z_law_plates_v1

noncomputable def b_z_law_window_v1 : M Fl :=
    (sSq (sSet 2 (pur (lstE (aC (bin opSub (callM s_z_law_pick 2 (aC (vr 0) (aC (ci 9) aN))) (ci 4)) (aC (bin opAdd (bin opSub (callM s_z_law_pick 2 (aC (vr 0) (aC (bin opSub (bin opMul (ci 2) (bin opPow (ci 10) (ci 30))) (ci 99)) aN))) (bin opPow (ci 10) (ci 30))) (ci 50)) aN)))))
    (sSq (sSet 3 (pur (lstE (aC (bin opSub (callM s_z_law_pick 2 (aC (vr 0) (aC (ci 9) aN))) (ci 4)) (aC (bin opAdd (bin opSub (callM s_z_law_pick 2 (aC (vr 0) (aC (bin opSub (bin opMul (ci 2) (bin opPow (ci 10) (ci 30))) (ci 99)) aN))) (bin opPow (ci 10) (ci 30))) (ci 50)) aN)))))
    (sSq (sPar 4 5 (aC (bin opIx (vr 2) (opA (op1 opInt) (aC (bin opEqD (callM s_z_law_pick 2 (aC (vr 0) (aC (ci 4) aN))) (ci 0)) aN))) (aC (bin opIx (vr 3) (opA (op1 opInt) (aC (bin opEqD (callM s_z_law_pick 2 (aC (vr 0) (aC (ci 4) aN))) (ci 0)) aN))) aN)))
    (sRt (tupE (aC (vr 4) (aC (vr 5) (aC (bin opAdd (ci 1) (callM s_z_law_pick 2 (aC (vr 0) (aC (vr 1) aN)))) (aC (bin opAdd (ci 1) (callM s_z_law_pick 2 (aC (vr 0) (aC (vr 1) aN)))) aN)))))))))
noncomputable def s_z_law_window_v1 : Fn := runF 6 b_z_law_window_v1

noncomputable def b_z_law_made_v1 : M Fl :=
    (sSq (sPar 1 2 (aC (lstE aN) (aC (lstE aN) aN)))
    (sSq (sFor (itL (vr 0)) (gT 4 (gsC (gN 3) (gsC (gN 4) (gsC (gN 5) (gsC (gN 6) gsN))))) (sSq (sSq (sSet 7 (lcE [8] [8] unp1 (itL (vr 1)) (tst (bin opEqD (propU 0 s_Screen_levels (vr 8)) (vr 3))) (vr 8))) (sPur 7))
    (sSq (sEx (methM isLst opApp (vr 1) (aC (eIf (tst (bin opNeD (vr 7) (lstE aN))) (bin opIx (vr 7) (ci 0)) (makeU 0 s_Screen___init 2 (aC (vr 3) aN))) aN)))
    (sEx (methM isLst opApp (vr 2) (aC (tupE (aC (bin opIx (vr 1) (uNeg (ci 1))) (aC (vr 4) (aC (vr 5) (aC (vr 6) aN))))) aN))))))
    (sRt (vr 2))))
noncomputable def s_z_law_made_v1 : Fn := runF 9 b_z_law_made_v1

noncomputable def b_z_law_places : M Fl :=
    (sSq (sSet 1 (lstE aN))
    (sSq (sFor (itR2L (aC (bin opIx (vr 0) (ci 1)) (aC (bin opAdd (bin opIx (vr 0) (ci 1)) (bin opIx (vr 0) (ci 3))) aN))) (gN 2) (sEx (methM isLst opExt (vr 1) (aC (lcE [3] [3] unp1 (itR2L (aC (bin opIx (vr 0) (ci 0)) (aC (bin opAdd (bin opIx (vr 0) (ci 0)) (bin opIx (vr 0) (ci 2))) aN))) tYesM (tupE (aC (vr 3) (aC (vr 2) aN)))) aN))))
    (sRt (vr 1))))
noncomputable def s_z_law_places : Fn := runF 4 b_z_law_places

noncomputable def b_z_law_threshold_v1 : M Fl :=
    (sSq (sSet 3 (ci 0))
    (sSq (sFor (itE (vr 0)) (gsC (gN 4) (gsC (gN 5) gsN)) (sSet 3 (bin opAdd (bin opMul (ci 4) (vr 3)) (bin opIx (vr 5) (bin opAdd (bin opBand (bin opShr (vr 1) (vr 4)) (ci 1)) (bin opMul (ci 2) (bin opBand (bin opShr (vr 2) (vr 4)) (ci 1))))))))
    (sRt (vr 3))))
noncomputable def s_z_law_threshold_v1 : Fn := runF 6 b_z_law_threshold_v1

noncomputable def b_z_law_great_window : M Fl :=
    (sSq (sSet 1 (lstE aN))
    (sSq (sFor (itR1 (aC (ci 2) aN)) (gN 2) (sSq (sSet 3 (bin opIx (lstE (aC (bin opSub (callM s_z_law_pick 2 (aC (vr 0) (aC (ci 9) aN))) (ci 4)) (aC (bin opSub (callM s_z_law_pick 2 (aC (vr 0) (aC (bin opAdd (bin opMul (ci 2) (bin opPow (ci 10) (ci 30))) (ci 1)) aN))) (bin opPow (ci 10) (ci 30))) (aC (bin opPow (ci 10) (ci 30)) aN)))) (callM s_z_law_pick 2 (aC (vr 0) (aC (ci 3) aN)))))
    (sEx (methM isLst opApp (vr 1) (aC (tupE (aC (vr 3) (aC (bin opAdd (ci 1) (callM s_z_law_pick 2 (aC (vr 0) (aC (bin opIx (lstE (aC (ci 9) (aC (bin opPow (ci 10) (ci 9)) (aC (bin opPow (ci 10) (ci 30)) aN)))) (callM s_z_law_pick 2 (aC (vr 0) (aC (ci 3) aN)))) aN)))) aN))) aN)))))
    (sRt (tupE (aC (bin opIx (bin opIx (vr 1) (ci 0)) (ci 0)) (aC (bin opIx (bin opIx (vr 1) (ci 1)) (ci 0)) (aC (bin opIx (bin opIx (vr 1) (ci 0)) (ci 1)) (aC (bin opIx (bin opIx (vr 1) (ci 1)) (ci 1)) aN))))))))
noncomputable def s_z_law_great_window : Fn := runF 4 b_z_law_great_window

noncomputable def b_z_law_residues : M Fl :=
    (sSq (sSet 4 (bin opShl (ci 1) (vr 3)))
    (sRt (bin opSub (bin opDiv (bin opSub (bin opSub (bin opAdd (vr 0) (vr 1)) (ci 1)) (vr 2)) (vr 4)) (bin opDiv (bin opSub (bin opSub (vr 0) (ci 1)) (vr 2)) (vr 4)))))
noncomputable def s_z_law_residues : Fn := runF 5 b_z_law_residues

noncomputable def b_z_law_dots_v1 : M Fl :=
    (sSq (sAsg (vr 2) (gT 4 (gsC (gN 3) (gsC (gN 4) (gsC (gN 5) (gsC (gN 6) gsN))))))
    (sSq (sIf (tst (bin opGt (bin opShr (vr 1) (bin opMul (ci 2) (opA (op1 opLen) (aC (vr 0) aN)))) (ci 0))) (sRt (bin opMul (vr 5) (vr 6))) sNx)
    (sSq (sAsg (tupE (aC (ci 0) (aC (ci 0) (aC (ci 0) aN)))) (gT 3 (gsC (gN 7) (gsC (gN 8) (gsC (gN 9) gsN)))))
    (sSq (sFor (itE (vr 0)) (gsC (gN 10) (gsC (gN 11) gsN)) (sSq (sPar 12 13 (aC (bin opBand (bin opShr (vr 1) (bin opMul (ci 2) (bin opSub (bin opSub (opA (op1 opLen) (aC (vr 0) aN)) (ci 1)) (vr 10)))) (ci 3)) (aC (ci 0) aN)))
    (sSq (sFor (itR1 (aC (ci 4) aN)) (gN 14) (sSq (sPar 15 16 (aC (bin opAdd (vr 8) (bin opShl (bin opBand (vr 14) (ci 1)) (vr 10))) (aC (bin opAdd (vr 9) (bin opShl (bin opShr (vr 14) (ci 1)) (vr 10))) aN)))
    (sSq (sIf (tst (bin opLt (bin opIx (vr 11) (vr 14)) (vr 12))) (sSq (sSet 17 (callM s_z_law_residues 4 (aC (vr 3) (aC (vr 5) (aC (vr 15) (aC (bin opAdd (vr 10) (ci 1)) aN))))))
    (sSet 7 (bin opAdd (vr 7) (bin opMul (vr 17) (callM s_z_law_residues 4 (aC (vr 4) (aC (vr 6) (aC (vr 16) (aC (bin opAdd (vr 10) (ci 1)) aN))))))))) sNx)
    (sIf (tst (bin opEqD (bin opIx (vr 11) (vr 14)) (vr 12))) (sSet 13 (tupE (aC (vr 15) (aC (vr 16) aN)))) sNx))))
    (sAsg (vr 13) (gT 2 (gsC (gN 8) (gsC (gN 9) gsN)))))))
    (sRt (vr 7))))))
noncomputable def s_z_law_dots_v1 : Fn := runF 18 b_z_law_dots_v1

noncomputable def b_is_condition : M Fl :=
    (sSq (sIf (mOr (mNot (tst (isB "tuple" (vr 0)))) (mOr (tst (bin opNeD (opA (op1 opLen) (aC (vr 0) aN)) (ci 4))) (mNot (tst (callM s_is_whole 3 (aC (bin opIx (vr 0) (ci 0)) (aC (ci 0) (aC (bin opSub (vr 1) (ci 1)) aN)))))))) (sRt (cb false)) sNx)
    (sRt (eAnd (callM s_is_coordinate 1 (aC (bin opIx (vr 0) (ci 1)) aN)) (eAnd (callM s_is_coordinate 1 (aC (bin opIx (vr 0) (ci 2)) aN)) (isB "bool" (bin opIx (vr 0) (ci 3)))))))
noncomputable def s_is_condition : Fn := runF 2 b_is_condition

noncomputable def b_require_conditions : M Fl :=
    (sSq (sIf (mOr (mNot (tst (isB "list" (vr 1)))) (mNot (tst (eChain opLe opLe (ci 1) (opA (op1 opLen) (aC (vr 1) aN)) (cd (.int 5)))))) sBad sNx)
    (sFor (itE (vr 1)) (gsC (gN 2) (gsC (gN 3) gsN)) (sIf (mNot (tst (callM s_is_condition 2 (aC (vr 3) (aC (opA (op1 opLen) (aC (vr 0) aN)) aN))))) sBad sNx)))
noncomputable def s_require_conditions : Fn := runF 4 b_require_conditions

noncomputable def b_is_set : M Fl :=
    (sSq (sAsg (vr 0) (gT 4 (gsC (gN 3) (gsC (gN 4) (gsC (gN 5) (gsC (gN 6) gsN))))))
    (sSq (sFor (itE (vr 3)) (gsC (gN 7) (gsC (gN 8) gsN)) (sSq (sSet 9 (bin opIx (vr 8) (bin opAdd (bin opBand (bin opShr (bin opAdd (vr 1) (vr 5)) (vr 7)) (ci 1)) (bin opMul (ci 2) (bin opBand (bin opShr (bin opAdd (vr 2) (vr 6)) (vr 7)) (ci 1))))))
    (sIf (tst (bin opNeD (vr 9) (bin opIx (vr 4) (vr 7)))) (sRt (bin opLt (vr 9) (bin opIx (vr 4) (vr 7)))) sNx)))
    (sRt (cb false))))
noncomputable def s_is_set : Fn := runF 10 b_is_set

noncomputable def b_matches : M Fl :=
    (sSq (sEx (callM s_require_plates 2 (aC (vr 0) (aC (cd (.int 4)) aN))))
    (sSq (sEx (callM s_require_conditions 2 (aC (vr 0) (aC (vr 1) aN))))
    (sSq (sEx (callM s_require_place 2 (aC (vr 2) (aC (vr 3) aN))))
    (sSq (sSet 4 (pur (callM s_looks_of 2 (aC (vr 0) (aC (vr 1) aN)))))
    (sRt (opA (op1 opAll) (aC (lcE [5, 6] [5, 6] unpW (itZ (aC (vr 4) (aC (vr 1) aN))) tYesM (bin opEqD (callM s_is_set 3 (aC (vr 5) (aC (vr 2) (aC (vr 3) aN)))) (bin opIx (vr 6) (ci 3)))) aN)))))))
noncomputable def s_matches : Fn := runF 7 b_matches

noncomputable def b_z_law_plates : M Fl :=
    (sSq (sSet 3 (lstE aN))
    (sSq (sFor (itR1 (aC (vr 1) aN)) (gN 4) (sSq (sSet 5 (bin opAdd (ci 1) (callM s_z_law_pick 2 (aC (vr 0) (aC (vr 2) aN)))))
    (sSq (sSet 6 (pur (callM s_z_law_levels 2 (aC (vr 0) (aC (vr 5) aN)))))
    (sSq (sIf (mAnd (tst (bin opNeD (vr 3) (lstE aN))) (tst (bin opEqD (callM s_z_law_pick 2 (aC (vr 0) (aC (ci 3) aN))) (ci 0)))) (sSet 6 (bin opIx (bin opIx (vr 3) (uNeg (ci 1))) (ci 0))) sNx)
    (sSq (sSet 7 (callM s_z_law_shade 2 (aC (vr 0) (aC (opA (op1 opLen) (aC (vr 6) aN)) aN))))
    (sEx (methM isLst opApp (vr 3) (aC (tupE (aC (vr 6) (aC (vr 7) (aC (callM s_z_law_near 2 (aC (vr 0) (aC (bin opShl (ci 1) (vr 5)) aN))) (aC (callM s_z_law_near 2 (aC (vr 0) (aC (bin opShl (ci 1) (vr 5)) aN))) aN))))) aN))))))))
    (sRt (vr 3))))
noncomputable def s_z_law_plates : Fn := runF 8 b_z_law_plates

noncomputable def b_z_law_conditions : M Fl :=
    (sSq (sSet 3 (lstE aN))
    (sSq (sFor (itR1 (aC (bin opAdd (ci 1) (callM s_z_law_pick 2 (aC (vr 0) (aC (vr 2) aN)))) aN)) (gN 4) (sSq (sSet 5 (pur (lstE (aC (bin opSub (callM s_z_law_pick 2 (aC (vr 0) (aC (ci 3) aN))) (ci 1)) (aC (bin opSub (callM s_z_law_pick 2 (aC (vr 0) (aC (ci 3) aN))) (ci 1)) aN)))))
    (sSq (sIf (tst (bin opEqD (callM s_z_law_pick 2 (aC (vr 0) (aC (ci 6) aN))) (ci 0))) (sSet 5 (pur (lstE (aC (callM s_z_law_near 2 (aC (vr 0) (aC (ci 8) aN))) (aC (callM s_z_law_near 2 (aC (vr 0) (aC (ci 8) aN))) aN))))) sNx)
    (sEx (methM isLst opApp (vr 3) (aC (tupE (aC (callM s_z_law_pick 2 (aC (vr 0) (aC (vr 1) aN))) (aC (bin opIx (vr 5) (ci 0)) (aC (bin opIx (vr 5) (ci 1)) (aC (bin opEqD (callM s_z_law_pick 2 (aC (vr 0) (aC (ci 2) aN))) (ci 0)) aN))))) aN))))))
    (sRt (vr 3))))
noncomputable def s_z_law_conditions : Fn := runF 6 b_z_law_conditions

noncomputable def b_z_law_made : M Fl :=
    (sSq (sPar 1 2 (aC (lstE aN) (aC (lstE aN) aN)))
    (sSq (sFor (itL (vr 0)) (gT 4 (gsC (gN 3) (gsC (gN 4) (gsC (gN 5) (gsC (gN 6) gsN))))) (sSq (sSq (sSet 7 (lcE [8] [8] unp1 (itL (vr 2)) (tst (bin opEqD (propU 0 s_Screen_levels (vr 8)) (vr 3))) (vr 8))) (sPur 7))
    (sSq (sSet 8 (pur (eIf (tst (bin opNeD (vr 7) (lstE aN))) (bin opIx (vr 7) (ci 0)) (makeU 0 s_Screen___init 2 (aC (vr 3) aN)))))
    (sSq (sEx (methM isLst opApp (vr 2) (aC (vr 8) aN)))
    (sEx (methM isLst opApp (vr 1) (aC (tupE (aC (vr 8) (aC (vr 4) (aC (vr 5) (aC (vr 6) aN))))) aN)))))))
    (sRt (vr 1))))
noncomputable def s_z_law_made : Fn := runF 9 b_z_law_made

noncomputable def b_z_law_has : M Fl :=
    (sSq (sFor (itL (vr 1)) (gT 4 (gsC (gN 4) (gsC (gN 5) (gsC (gN 6) (gsC (gN 7) gsN))))) (sSq (sAsg (bin opIx (vr 0) (vr 4)) (gT 4 (gsC (gN 8) (gsC (gN 9) (gsC (gN 10) (gsC (gN 11) gsN))))))
    (sIf (tst (bin opNeD (bin opLt (callM s_z_law_threshold_v2 3 (aC (vr 8) (aC (bin opSub (bin opAdd (vr 2) (vr 5)) (vr 10)) (aC (bin opSub (bin opAdd (vr 3) (vr 6)) (vr 11)) aN)))) (vr 9)) (vr 7))) (sRt (cb false)) sNx)))
    (sRt (cb true)))
noncomputable def s_z_law_has : Fn := runF 12 b_z_law_has

noncomputable def b_whole_period : M Fl :=
    (sSq (sSet 1 (opA (op1 opMaxL) (aC (lcE [2] [2] unp1 (itL (vr 0)) tYesM (propU 0 s_Screen_period (bin opIx (vr 2) (ci 0)))) aN)))
    (sRt (tupE (aC (ci 0) (aC (ci 0) (aC (vr 1) (aC (vr 1) aN)))))))
noncomputable def s_whole_period : Fn := runF 3 b_whole_period

noncomputable def b_require_picture : M Fl :=
    (sSq (sEx (callM s_require_screen 1 (aC (vr 0) aN)))
    (sEx (callM s_require_shade 2 (aC (vr 0) (aC (vr 1) aN)))))
noncomputable def s_require_picture : Fn := runF 2 b_require_picture

noncomputable def b_Picture___init : M Fl :=
    (sSq (sEx (callM s_require_screen 1 (aC (vr 1) aN)))
    (sSq (sIf (mNot (tst (callM s_is_whole 3 (aC (vr 2) (aC (ci 1) (aC (cd (.int 1000000000000000000000000000000)) aN)))))) sBad sNx)
    (sSq (sFld 1 "own_limit" (vr 0) cn)
    (sSq (sFld 1 "own_screen" (vr 0) (vr 1))
    (sSq (sFld 1 "own_width" (vr 0) (vr 2))
    (sSq (sFld 1 "own_bands" (vr 0) (tupE aN))
    (sSq (sFld 1 "own_calls" (vr 0) (lstE aN))
    (sFld 1 "own_past" (vr 0) (lstE aN)))))))))
noncomputable def s_Picture___init : Fn := runF 3 b_Picture___init

noncomputable def b_z_law_bad_windows : M Fl :=
    (sSq (sSet 0 (pur (lstE (aC cn (aC (ci 0) (aC (cb true) (aC (cs "") (aC (cs "0 0 1 1") (aC (tupE aN) (aC (lstE aN) (aC edE (aC (tupE (aC (ci 0) (aC (ci 0) (aC (ci 1) aN)))) (aC (tupE (aC (ci 0) (aC (ci 0) (aC (ci 1) (aC (ci 1) (aC (ci 1) aN)))))) (aC (lstE (aC (ci 0) (aC (ci 0) (aC (ci 1) (aC (ci 1) aN))))) (aC (bin opPow (ci 10) (ci 40)) aN)))))))))))))))
    (sSq (sFor (itL (tupE (aC cn (aC (cb true) (aC (cs "1") (aC (lstE (aC (ci 1) aN)) (aC (bin opAdd (bin opPow (ci 10) (ci 30)) (ci 1)) (aC (bin opPow (ci 10) (ci 60)) aN)))))))) (gN 1) (sSet 0 (pur (bin opAdd (vr 0) (lstE (aC (tupE (aC (vr 1) (aC (ci 0) (aC (ci 1) (aC (ci 1) aN))))) (aC (tupE (aC (ci 0) (aC (vr 1) (aC (ci 1) (aC (ci 1) aN))))) (aC (tupE (aC (ci 0) (aC (ci 0) (aC (vr 1) (aC (ci 1) aN))))) (aC (tupE (aC (ci 0) (aC (ci 0) (aC (ci 1) (aC (vr 1) aN))))) aN)))))))))
    (sSq (sSet 2 (bin opSub (bin opSub (ci 0) (bin opPow (ci 10) (ci 30))) (ci 1)))
    (sRt (bin opAdd (vr 0) (lstE (aC (tupE (aC (vr 2) (aC (ci 0) (aC (ci 1) (aC (ci 1) aN))))) (aC (tupE (aC (ci 0) (aC (vr 2) (aC (ci 1) (aC (ci 1) aN))))) (aC (tupE (aC (ci 0) (aC (ci 0) (aC (ci 0) (aC (ci 1) aN))))) (aC (tupE (aC (ci 0) (aC (ci 0) (aC (ci 1) (aC (ci 0) aN))))) (aC (tupE (aC (ci 0) (aC (ci 0) (aC (uNeg (ci 1)) (aC (ci 1) aN))))) (aC (tupE (aC (ci 0) (aC (ci 0) (aC (ci 1) (aC (uNeg (ci 1)) aN))))) aN))))))))))))
noncomputable def s_z_law_bad_windows : Fn := runF 3 b_z_law_bad_windows

noncomputable def b_require_pictures : M Fl :=
    (sSq (sEx (callM s_require_screen 1 (aC (vr 0) aN)))
    (sSq (sEx (callM s_require_shade 2 (aC (vr 0) (aC (vr 1) aN))))
    (sSq (sEx (callM s_require_screen 1 (aC (vr 2) aN)))
    (sIf (mNot (tst (callM s_is_shade 2 (aC (vr 2) (aC (vr 3) aN))))) sBad sNx))))
noncomputable def s_require_pictures : Fn := runF 4 b_require_pictures

noncomputable def b_kinds_of : M Fl :=
    (sSq (sIf (tst (bin opGe (vr 2) (opA (op1 opLen) (aC (vr 0) aN)))) (sRt (lstE (aC (ci 0) (aC (ci 0) (aC (ci 0) (aC (ci 0) aN)))))) sNx)
    (sSq (sSet 3 (bin opMul (ci 2) (bin opSub (bin opSub (opA (op1 opLen) (aC (vr 0) aN)) (ci 1)) (vr 2))))
    (sSq (sAsg (tupE (aC (bin opBand (bin opShr (vr 1) (vr 3)) (ci 3)) (aC (bin opBand (vr 1) (bin opSub (bin opShl (ci 1) (vr 3)) (ci 1))) aN))) (gT 2 (gsC (gN 4) (gsC (gN 5) gsN))))
    (sRt (lcE [6] [6] unp1 (itL (bin opIx (vr 0) (vr 2))) tYesM (eIf (mOr (tst (bin opNeD (vr 6) (vr 4))) (tst (bin opEqD (vr 5) (ci 0)))) (opA (op1 opInt) (aC (bin opLt (vr 6) (vr 4)) aN)) (ci 2)))))))
noncomputable def s_kinds_of : Fn := runF 7 b_kinds_of

noncomputable def b_sets_within : M Fl :=
    (sSq (sPar3 4 5 6 (aC (lstE aN) (aC (bin opIx (vr 2) (ci 0)) (aC (bin opIx (vr 2) (ci 1)) aN))))
    (sSq (sFor (itR2L (aC (bin opIx (vr 2) (ci 2)) (aC (opA (op1 opLen) (aC (vr 0) aN)) aN))) (gN 7) (sSq (sPar 8 9 (aC (pur (callM s_kinds_of 3 (aC (vr 0) (aC (vr 1) (aC (vr 7) aN))))) (aC cn aN)))
    (sSq (sFor (itE (vr 8)) (gsC (gN 10) (gsC (gN 11) gsN)) (sSq (sSet 12 (tupE (aC (bin opAdd (vr 5) (bin opShl (bin opBand (vr 10) (ci 1)) (vr 7))) (aC (bin opAdd (vr 6) (bin opShl (bin opShr (vr 10) (ci 1)) (vr 7))) (aC (bin opAdd (vr 7) (ci 1)) aN)))))
    (sIf (tst (bin opEqD (vr 11) (vr 3))) (sEx (methM isLst opApp (vr 4) (aC (vr 12) aN))) (sIf (tst (bin opEqD (vr 11) (ci 2))) (sSet 9 (vr 12)) sNx))))
    (sSq (sIf (tst (isN (vr 9))) (sRt (vr 4)) sNx)
    (sPar 5 6 (aC (bin opIx (vr 9) (ci 0)) (aC (bin opIx (vr 9) (ci 1)) aN)))))))
    (sRt (vr 4))))
noncomputable def s_sets_within : Fn := runF 13 b_sets_within

noncomputable def b_sides_of : M Fl :=
    (sSq (sIf (mAnd (tst (bin opIx (vr 0) (ci 0))) (tst (bin opIx (vr 0) (ci 1)))) (sRt (lstE aN)) sNx)
    (sSq (sAsg (eIf (tst (bin opIx (vr 0) (ci 0))) (tupE (aC (vr 3) (aC (vr 4) aN))) (tupE (aC (vr 1) (aC (vr 2) aN)))) (gT 2 (gsC (gN 5) (gsC (gN 6) gsN))))
    (sRt (callM s_sets_within 4 (aC (vr 5) (aC (vr 6) (aC (tupE (aC (ci 0) (aC (ci 0) (aC (ci 0) aN)))) (aC (ci 0) aN))))))))
noncomputable def s_sides_of : Fn := runF 7 b_sides_of

noncomputable def b_unlike_cells : M Fl :=
    (sSq (sSet 4 (pur (lstE (aC (bin opEqD (vr 1) (bin opShl (ci 1) (bin opMul (ci 2) (opA (op1 opLen) (aC (vr 0) aN))))) (aC (bin opEqD (vr 3) (bin opShl (ci 1) (bin opMul (ci 2) (opA (op1 opLen) (aC (vr 2) aN))))) aN)))))
    (sSq (sIf (mOr (tst (bin opIx (vr 4) (ci 0))) (tst (bin opIx (vr 4) (ci 1)))) (sRt (callM s_sides_of 5 (aC (vr 4) (aC (vr 0) (aC (vr 1) (aC (vr 2) (aC (vr 3) aN))))))) sNx)
    (sSq (sPar3 5 6 7 (aC (lstE aN) (aC (ci 0) (aC (ci 0) aN))))
    (sSq (sFor (itR1 (aC (opA opMax2 (aC (opA (op1 opLen) (aC (vr 0) aN)) (aC (opA (op1 opLen) (aC (vr 2) aN)) aN))) aN)) (gN 8) (sSq (sPar 9 10 (aC (pur (callM s_kinds_of 3 (aC (vr 0) (aC (vr 1) (aC (vr 8) aN))))) (aC (pur (callM s_kinds_of 3 (aC (vr 2) (aC (vr 3) (aC (vr 8) aN))))) aN)))
    (sSq (sSet 11 cn)
    (sSq (sFor (itR1 (aC (ci 4) aN)) (gN 12) (sSq (sSet 13 (tupE (aC (bin opAdd (vr 6) (bin opShl (bin opBand (vr 12) (ci 1)) (vr 8))) (aC (bin opAdd (vr 7) (bin opShl (bin opShr (vr 12) (ci 1)) (vr 8))) (aC (bin opAdd (vr 8) (ci 1)) aN)))))
    (sIf (tst (bin opNotIn (ci 2) (tupE (aC (bin opIx (vr 9) (vr 12)) (aC (bin opIx (vr 10) (vr 12)) aN))))) (sIf (tst (bin opNeD (bin opIx (vr 9) (vr 12)) (bin opIx (vr 10) (vr 12)))) (sEx (methM isLst opApp (vr 5) (aC (vr 13) aN))) sNx) (sIf (tst (bin opEqD (bin opIx (vr 9) (vr 12)) (bin opIx (vr 10) (vr 12)))) (sSet 11 (vr 13)) (sSq (sSet 14 (bin opEqD (bin opIx (vr 9) (vr 12)) (ci 2)))
    (sSq (sAsg (eIf (tst (vr 14)) (tupE (aC (vr 0) (aC (vr 1) aN))) (tupE (aC (vr 2) (aC (vr 3) aN)))) (gT 2 (gsC (gN 15) (gsC (gN 16) gsN))))
    (sSq (sSet 17 (eIf (tst (vr 14)) (bin opIx (vr 10) (vr 12)) (bin opIx (vr 9) (vr 12))))
    (sEx (methM isLst opExt (vr 5) (aC (callM s_sets_within 4 (aC (vr 15) (aC (vr 16) (aC (vr 13) (aC (bin opSub (ci 1) (vr 17)) aN))))) aN))))))))))
    (sSq (sIf (tst (isN (vr 11))) (sRt (vr 5)) sNx)
    (sPar 6 7 (aC (bin opIx (vr 11) (ci 0)) (aC (bin opIx (vr 11) (ci 1)) aN))))))))
    (sRt (vr 5))))))
noncomputable def s_unlike_cells : Fn := runF 18 b_unlike_cells

noncomputable def b_same_dots : M Fl :=
    (sSq (sEx (callM s_require_pictures 4 (aC (vr 0) (aC (vr 1) (aC (vr 2) (aC (vr 3) aN))))))
    (sRt (bin opEqD (callM s_unlike_cells 4 (aC (attrU 0 "own_levels" (vr 0)) (aC (vr 1) (aC (attrU 0 "own_levels" (vr 2)) (aC (vr 3) aN))))) (lstE aN))))
noncomputable def s_same_dots : Fn := runF 4 b_same_dots

noncomputable def b_unlike_count : M Fl :=
    (sSq (sEx (callM s_require_pictures 4 (aC (vr 0) (aC (vr 1) (aC (vr 2) (aC (vr 3) aN))))))
    (sSq (sEx (callM s_require_window 1 (aC (vr 4) aN)))
    (sSq (sSet 5 (pur (callM s_unlike_cells 4 (aC (attrU 0 "own_levels" (vr 0)) (aC (vr 1) (aC (attrU 0 "own_levels" (vr 2)) (aC (vr 3) aN)))))))
    (sRt (opA (op1 opSum) (aC (lcE [6, 7, 8] [6, 7, 8] unpT (itL (vr 5)) tYesM (callM s_places_with 4 (aC (vr 4) (aC (vr 6) (aC (vr 7) (aC (vr 8) aN)))))) aN))))))
noncomputable def s_unlike_count : Fn := runF 9 b_unlike_count

noncomputable def b_first_with : M Fl :=
    (sRt (bin opAdd (vr 0) (bin opBand (bin opSub (vr 1) (vr 0)) (bin opSub (bin opShl (ci 1) (vr 2)) (ci 1)))))
noncomputable def s_first_with : Fn := runF 3 b_first_with

noncomputable def b_first_unlike : M Fl :=
    (sSq (sEx (callM s_require_pictures 4 (aC (vr 0) (aC (vr 1) (aC (vr 2) (aC (vr 3) aN))))))
    (sSq (sEx (callM s_require_window 1 (aC (vr 4) aN)))
    (sSq (sAsg (vr 4) (gT 4 (gsC (gN 5) (gsC (gN 6) (gsC (gN 7) (gsC (gN 8) gsN))))))
    (sSq (sSet 9 (lstE aN))
    (sSq (sFor (itL (callM s_unlike_cells 4 (aC (attrU 0 "own_levels" (vr 0)) (aC (vr 1) (aC (attrU 0 "own_levels" (vr 2)) (aC (vr 3) aN)))))) (gT 3 (gsC (gN 10) (gsC (gN 11) (gsC (gN 12) gsN)))) (sSq (sSet 13 (tupE (aC (callM s_first_with 3 (aC (vr 6) (aC (vr 11) (aC (vr 12) aN)))) (aC (callM s_first_with 3 (aC (vr 5) (aC (vr 10) (aC (vr 12) aN)))) aN))))
    (sIf (mAnd (tst (bin opLt (bin opIx (vr 13) (ci 0)) (bin opAdd (vr 6) (vr 8)))) (tst (bin opLt (bin opIx (vr 13) (ci 1)) (bin opAdd (vr 5) (vr 7))))) (sEx (methM isLst opApp (vr 9) (aC (vr 13) aN))) sNx)))
    (sRt (eIf (tst (bin opNeD (vr 9) (lstE aN))) (tupE (aC (bin opIx (opA (op1 opMinP) (aC (vr 9) aN)) (ci 1)) (aC (bin opIx (opA (op1 opMinP) (aC (vr 9) aN)) (ci 0)) aN))) cn)))))))
noncomputable def s_first_unlike : Fn := runF 14 b_first_unlike

noncomputable def b_moved_levels : M Fl :=
    (sSq (sSet 3 (bin opIx (vr 0) (uNeg (ci 1))))
    (sRt (lstE (aS (slE (vr 0) opt0 (opt1 (uNeg (ci 1)))) (aC (opA (op1 opTuple) (aC (lcE [4] [4] unp1 (itR1 (aC (ci 4) aN)) tYesM (bin opIx (vr 3) (bin opBxor (vr 4) (bin opAdd (vr 1) (bin opMul (ci 2) (vr 2)))))) aN)) aN)))))
noncomputable def s_moved_levels : Fn := runF 5 b_moved_levels

noncomputable def b_moved : M Fl :=
    (sSq (sEx (callM s_require_screen 1 (aC (vr 0) aN)))
    (sSq (sEx (callM s_require_place 2 (aC (vr 1) (aC (vr 2) aN))))
    (sSq (sSet 3 (bin opSub (propU 0 s_Screen_depth (vr 0)) (ci 1)))
    (sSq (sIf (mOr (tst (bin opBand (vr 1) (bin opSub (bin opShl (ci 1) (vr 3)) (ci 1)))) (tst (bin opBand (vr 2) (bin opSub (bin opShl (ci 1) (vr 3)) (ci 1))))) (sRt cn) sNx)
    (sRt (makeU 0 s_Screen___init 2 (aC (pur (callM s_moved_levels 3 (aC (attrU 0 "own_levels" (vr 0)) (aC (bin opBand (bin opShr (vr 1) (vr 3)) (ci 1)) (aC (bin opBand (bin opShr (vr 2) (vr 3)) (ci 1)) aN))))) aN)))))))
noncomputable def s_moved : Fn := runF 4 b_moved

noncomputable def b_shift_between : M Fl :=
    (sSq (sEx (callM s_require_screen 1 (aC (vr 0) aN)))
    (sSq (sEx (callM s_require_screen 1 (aC (vr 1) aN)))
    (sSq (sFor (itL (tupE (aC (ci 0) (aC (ci 1) aN)))) (gN 2) (sFor (itL (tupE (aC (ci 0) (aC (ci 1) aN)))) (gN 3) (sIf (tst (bin opEqD (callM s_moved_levels 3 (aC (attrU 0 "own_levels" (vr 0)) (aC (vr 2) (aC (vr 3) aN)))) (propU 0 s_Screen_levels (vr 1)))) (sRt (tupE (aC (bin opShl (vr 2) (bin opSub (propU 0 s_Screen_depth (vr 0)) (ci 1))) (aC (bin opShl (vr 3) (bin opSub (propU 0 s_Screen_depth (vr 0)) (ci 1))) aN)))) sNx)))
    (sRt cn))))
noncomputable def s_shift_between : Fn := runF 4 b_shift_between

noncomputable def b_z_law_bad_screens_v1 : M Fl :=
    (sRt (lstE (aC cn (aC (ci 0) (aC (cb true) (aC (cs "") (aC (cs "0231") (aC (lstE aN) (aC (tupE aN) (aC edE (aC (vr 0) (aC (opA (op1 opTuple) (aC (vr 0) aN)) (aC (lstE (aC (vr 0) aN)) (aC (tupE (aC (vr 0) (aC (ci 1) aN))) (aC (bin opPow (ci 10) (ci 40)) aN)))))))))))))))
noncomputable def s_z_law_bad_screens_v1 : Fn := runF 1 b_z_law_bad_screens_v1

noncomputable def b_is_seen : M Fl :=
    (sSq (sIf (mOr (mNot (tst (isB "tuple" (vr 0)))) (mOr (tst (bin opNeD (opA (op1 opLen) (aC (vr 0) aN)) (ci 3))) (mNot (tst (isB "bool" (bin opIx (vr 0) (ci 2))))))) (sRt (cb false)) sNx)
    (sRt (eAnd (callM s_is_coordinate 1 (aC (bin opIx (vr 0) (ci 0)) aN)) (callM s_is_coordinate 1 (aC (bin opIx (vr 0) (ci 1)) aN)))))
noncomputable def s_is_seen : Fn := runF 1 b_is_seen

noncomputable def b_require_seen : M Fl :=
    (sSq (sIf (mOr (mNot (tst (isB "list" (vr 0)))) (mNot (tst (eChain opLe opLe (ci 1) (opA (op1 opLen) (aC (vr 0) aN)) (cd (.int 400)))))) sBad sNx)
    (sFor (itE (vr 0)) (gsC (gN 1) (gsC (gN 2) gsN)) (sIf (mNot (tst (callM s_is_seen 1 (aC (vr 2) aN)))) sBad sNx)))
noncomputable def s_require_seen : Fn := runF 3 b_require_seen

noncomputable def b_bounds_of : M Fl :=
    (sSq (sPar3 2 3 4 (aC (ci 0) (aC (propU 0 s_Screen_shades (vr 0)) (aC (lstE aN) aN))))
    (sSq (sFor (itL (vr 1)) (gT 3 (gsC (gN 5) (gsC (gN 6) (gsC (gN 7) gsN)))) (sSq (sSet 8 (callM s_threshold_at 3 (aC (vr 0) (aC (vr 5) (aC (vr 6) aN)))))
    (sSq (sIf (tst (vr 7)) (sSet 2 (opA opMax2 (aC (vr 2) (aC (bin opAdd (vr 8) (ci 1)) aN)))) (sSet 3 (opA opMin2 (aC (vr 3) (aC (vr 8) aN)))))
    (sEx (methM isLst opApp (vr 4) (aC (tupE (aC (vr 2) (aC (vr 3) aN))) aN))))))
    (sRt (vr 4))))
noncomputable def s_bounds_of : Fn := runF 9 b_bounds_of

noncomputable def b_shades_for : M Fl :=
    (sSq (sEx (callM s_require_screen 1 (aC (vr 0) aN)))
    (sSq (sEx (callM s_require_seen 1 (aC (vr 1) aN)))
    (sSq (sAsg (bin opIx (callM s_bounds_of 2 (aC (vr 0) (aC (vr 1) aN))) (uNeg (ci 1))) (gT 2 (gsC (gN 2) (gsC (gN 3) gsN))))
    (sRt (eIf (tst (bin opLe (vr 2) (vr 3))) (tupE (aC (vr 2) (aC (vr 3) aN))) cn)))))
noncomputable def s_shades_for : Fn := runF 4 b_shades_for

noncomputable def b_z_law_seen : M Fl :=
    (sSq (sSet 5 (lstE aN))
    (sSq (sFor (itR1 (aC (bin opAdd (ci 1) (callM s_z_law_pick 2 (aC (vr 0) (aC (vr 3) aN)))) aN)) (gN 6) (sSq (sPar 7 8 (aC (bin opSub (callM s_z_law_pick 2 (aC (vr 0) (aC (bin opAdd (bin opMul (ci 2) (vr 4)) (ci 1)) aN))) (vr 4)) (aC (bin opSub (callM s_z_law_pick 2 (aC (vr 0) (aC (bin opAdd (bin opMul (ci 2) (vr 4)) (ci 1)) aN))) (vr 4)) aN)))
    (sEx (methM isLst opApp (vr 5) (aC (tupE (aC (vr 7) (aC (vr 8) (aC (bin opLt (callM s_z_law_threshold_v1 3 (aC (vr 1) (aC (vr 7) (aC (vr 8) aN)))) (vr 2)) aN)))) aN)))))
    (sSq (sIf (tst (bin opEqD (callM s_z_law_pick 2 (aC (vr 0) (aC (ci 3) aN))) (ci 0))) (sSq (sSet 9 (callM s_z_law_pick 2 (aC (vr 0) (aC (opA (op1 opLen) (aC (vr 5) aN)) aN))))
    (sSub (tupE (aC (bin opIx (bin opIx (vr 5) (vr 9)) (ci 0)) (aC (bin opIx (bin opIx (vr 5) (vr 9)) (ci 1)) (aC (eNot (bin opIx (bin opIx (vr 5) (vr 9)) (ci 2))) aN)))) (vr 5) (vr 9))) sNx)
    (sRt (vr 5)))))
noncomputable def s_z_law_seen : Fn := runF 10 b_z_law_seen

noncomputable def b_deciding : M Fl :=
    (sSq (sEx (callM s_require_screen 1 (aC (vr 0) aN)))
    (sSq (sEx (callM s_require_seen 1 (aC (vr 1) aN)))
    (sSq (sPar 2 3 (aC (lstE aN) (aC (lstE aN) aN)))
    (sSq (sFor (itE (vr 1)) (gsC (gN 4) (gsC (gT 3 (gsC (gN 5) (gsC (gN 6) (gsC (gN 7) gsN)))) gsN)) (sIf (tst (vr 7)) (sEx (methM isLst opApp (vr 2) (aC (tupE (aC (bin opSub (ci 0) (callM s_threshold_at 3 (aC (vr 0) (aC (vr 5) (aC (vr 6) aN))))) (aC (vr 4) aN))) aN))) (sEx (methM isLst opApp (vr 3) (aC (tupE (aC (callM s_threshold_at 3 (aC (vr 0) (aC (vr 5) (aC (vr 6) aN)))) (aC (vr 4) aN))) aN)))))
    (sRt (tupE (aC (eIf (tst (bin opNeD (vr 2) (lstE aN))) (bin opIx (opA (op1 opMinP) (aC (vr 2) aN)) (ci 1)) cn) (aC (eIf (tst (bin opNeD (vr 3) (lstE aN))) (bin opIx (opA (op1 opMinP) (aC (vr 3) aN)) (ci 1)) cn) aN))))))))
noncomputable def s_deciding : Fn := runF 8 b_deciding

noncomputable def b_first_contradiction : M Fl :=
    (sSq (sEx (callM s_require_screen 1 (aC (vr 0) aN)))
    (sSq (sEx (callM s_require_seen 1 (aC (vr 1) aN)))
    (sSq (sFor (itE (callM s_bounds_of 2 (aC (vr 0) (aC (vr 1) aN)))) (gsC (gN 2) (gsC (gT 2 (gsC (gN 3) (gsC (gN 4) gsN))) gsN)) (sIf (tst (bin opGt (vr 3) (vr 4))) (sRt (vr 2)) sNx))
    (sRt cn))))
noncomputable def s_first_contradiction : Fn := runF 5 b_first_contradiction

noncomputable def b_require_counted : M Fl :=
    (sSq (sIf (mOr (mNot (tst (isB "list" (vr 0)))) (mNot (tst (eChain opLe opLe (ci 1) (opA (op1 opLen) (aC (vr 0) aN)) (cd (.int 20)))))) sBad sNx)
    (sFor (itE (vr 0)) (gsC (gN 1) (gsC (gN 2) gsN)) (sSq (sIf (mOr (mNot (tst (isB "tuple" (vr 2)))) (mOr (tst (bin opNeD (opA (op1 opLen) (aC (vr 2) aN)) (ci 2))) (mNot (tst (callM s_is_window 1 (aC (bin opIx (vr 2) (ci 0)) aN)))))) sBad sNx)
    (sIf (mNot (tst (callM s_is_whole 3 (aC (bin opIx (vr 2) (ci 1)) (aC (ci 0) (aC (cd (.int 1000000000000000000000000000000000000000000000000000000000000)) aN)))))) sBad sNx))))
noncomputable def s_require_counted : Fn := runF 3 b_require_counted

noncomputable def b_shades_counted : M Fl :=
    (sSq (sEx (callM s_require_screen 1 (aC (vr 0) aN)))
    (sSq (sEx (callM s_require_counted 1 (aC (vr 1) aN)))
    (sSq (sPar 2 3 (aC (ci 0) (aC (propU 0 s_Screen_shades (vr 0)) aN)))
    (sSq (sFor (itL (vr 1)) (gT 2 (gsC (gN 4) (gsC (gN 5) gsN))) (sSq (sSet 6 (eIf (tst (bin opLe (vr 5) (callM s_places_of 1 (aC (vr 4) aN)))) (callM s_stretch_with 3 (aC (vr 0) (aC (vr 4) (aC (vr 5) aN)))) cn))
    (sSq (sIf (tst (isN (vr 6))) (sRt cn) sNx)
    (sPar 2 3 (aC (opA opMax2 (aC (vr 2) (aC (bin opIx (vr 6) (ci 0)) aN))) (aC (opA opMin2 (aC (vr 3) (aC (bin opIx (vr 6) (ci 1)) aN))) aN))))))
    (sRt (eIf (tst (bin opLe (vr 2) (vr 3))) (tupE (aC (vr 2) (aC (vr 3) aN))) cn))))))
noncomputable def s_shades_counted : Fn := runF 7 b_shades_counted

noncomputable def b_z_law_level : M Fl :=
    (sSq (sPar 1 2 (aC (lstE (aC (ci 0) (aC (ci 1) (aC (ci 2) (aC (ci 3) aN))))) (aC (lstE aN) aN)))
    (sSq (sFor (itR1 (aC (ci 4) aN)) (gN 3) (sEx (methM isLst opApp (vr 2) (aC (methM isLst opPopAt (vr 1) (aC (callM s_z_law_pick 2 (aC (vr 0) (aC (opA (op1 opLen) (aC (vr 1) aN)) aN))) aN)) aN))))
    (sRt (opA (op1 opTuple) (aC (vr 2) aN)))))
noncomputable def s_z_law_level : Fn := runF 4 b_z_law_level

noncomputable def b_z_law_levels_v2 : M Fl :=
    (sRt (lcE [2] [2] unp1 (itR1 (aC (bin opAdd (ci 1) (callM s_z_law_pick 2 (aC (vr 0) (aC (vr 1) aN)))) aN)) tYesM (callM s_z_law_level 1 (aC (vr 0) aN))))
noncomputable def s_z_law_levels_v2 : Fn := runF 3 b_z_law_levels_v2

noncomputable def b_is_dot_at : M Fl :=
    (sSq (sSet 4 (propU 0 s_Screen_period (vr 0)))
    (sRt (callM s_is_dot 4 (aC (vr 0) (aC (vr 1) (aC (bin opMod (vr 2) (vr 4)) (aC (bin opMod (vr 3) (vr 4)) aN)))))))
noncomputable def s_is_dot_at : Fn := runF 5 b_is_dot_at

noncomputable def b_z_law_threshold : M Fl :=
    (sSq (sSet 3 (ci 0))
    (sSq (sFor (itL (vr 0)) (gT 4 (gsC (gN 4) (gsC (gN 5) (gsC (gN 6) (gsC (gN 7) gsN))))) (sSq (sSet 3 (bin opAdd (bin opMul (ci 4) (vr 3)) (bin opIx (bin opIx (lstE (aC (lstE (aC (vr 4) (aC (vr 5) aN))) (aC (lstE (aC (vr 6) (aC (vr 7) aN))) aN))) (bin opMod (vr 2) (ci 2))) (bin opMod (vr 1) (ci 2)))))
    (sPar 1 2 (aC (bin opDiv (vr 1) (ci 2)) (aC (bin opDiv (vr 2) (ci 2)) aN)))))
    (sRt (vr 3))))
noncomputable def s_z_law_threshold : Fn := runF 8 b_z_law_threshold

noncomputable def b_ink_of : M Fl :=
    (sSq (sSet 4 (ci 0))
    (sSq (sFor (itL (vr 2)) (gT 2 (gsC (gN 5) (gsC (gN 6) gsN))) (sSq (sAug (fun i j => i + j) 4 (callM s_dots_in 3 (aC (vr 0) (aC (vr 6) (aC (tupE (aC (ci 0) (aC (vr 3) (aC (vr 1) (aC (vr 5) aN))))) aN)))))
    (sAug (fun i j => i + j) 3 (vr 5))))
    (sRt (vr 4))))
noncomputable def s_ink_of : Fn := runF 7 b_ink_of

noncomputable def b_Picture_ink : M Fl :=
    (sRt (callM s_ink_of 4 (aC (attrU 1 "own_screen" (vr 0)) (aC (attrU 1 "own_width" (vr 0)) (aC (attrU 1 "own_bands" (vr 0)) (aC (ci 0) aN))))))
noncomputable def s_Picture_ink : Fn := runF 1 b_Picture_ink

noncomputable def b_Picture_bands : M Fl :=
    (sRt (opA (op1 opList) (aC (attrU 1 "own_bands" (vr 0)) aN)))
noncomputable def s_Picture_bands : Fn := runF 1 b_Picture_bands

noncomputable def b_merged : M Fl :=
    (sSq (sSet 1 (lstE aN))
    (sSq (sFor (itL (vr 0)) (gT 2 (gsC (gN 2) (gsC (gN 3) gsN))) (sIf (mAnd (tst (bin opNeD (vr 1) (lstE aN))) (tst (bin opEqD (bin opIx (bin opIx (vr 1) (uNeg (ci 1))) (ci 1)) (vr 3)))) (sSub (tupE (aC (bin opAdd (bin opIx (bin opIx (vr 1) (uNeg (ci 1))) (ci 0)) (vr 2)) (aC (vr 3) aN))) (vr 1) (uNeg (ci 1))) (sEx (methM isLst opApp (vr 1) (aC (tupE (aC (vr 2) (aC (vr 3) aN))) aN)))))
    (sRt (opA (op1 opTuple) (aC (vr 1) aN)))))
noncomputable def s_merged : Fn := runF 4 b_merged

noncomputable def b_height_of : M Fl :=
    (sRt (opA (op1 opSum) (aC (lcE [1, 2] [1, 2] unpT (itL (vr 0)) tYesM (vr 1)) aN)))
noncomputable def s_height_of : Fn := runF 3 b_height_of

noncomputable def b_require_rows : M Fl :=
    (sSq (sSet 3 (callM s_height_of 1 (aC (vr 0) aN)))
    (sSq (sIf (mNot (tst (callM s_is_whole 3 (aC (vr 1) (aC (ci 0) (aC (bin opSub (vr 3) (ci 1)) aN)))))) sBad sNx)
    (sIf (mNot (tst (callM s_is_whole 3 (aC (vr 2) (aC (ci 1) (aC (bin opSub (vr 3) (vr 1)) aN)))))) sBad sNx)))
noncomputable def s_require_rows : Fn := runF 4 b_require_rows

noncomputable def b_part_of : M Fl :=
    (sSq (sPar 3 4 (aC (lstE aN) (aC (ci 0) aN)))
    (sSq (sFor (itL (vr 0)) (gT 2 (gsC (gN 5) (gsC (gN 6) gsN))) (sSq (sPar 7 8 (aC (opA opMax2 (aC (vr 1) (aC (vr 4) aN))) (aC (opA opMin2 (aC (vr 2) (aC (bin opAdd (vr 4) (vr 5)) aN))) aN)))
    (sSq (sIf (tst (bin opLt (vr 7) (vr 8))) (sEx (methM isLst opApp (vr 3) (aC (tupE (aC (bin opSub (vr 8) (vr 7)) (aC (vr 6) aN))) aN))) sNx)
    (sAug (fun i j => i + j) 4 (vr 5)))))
    (sRt (vr 3))))
noncomputable def s_part_of : Fn := runF 9 b_part_of

noncomputable def b_changed : M Fl :=
    (sSq (sPar3 3 4 5 (aC (bin opIx (vr 2) (ci 1)) (aC (bin opIx (vr 2) (ci 2)) (aC (callM s_height_of 1 (aC (vr 1) aN)) aN))))
    (sSq (sIf (tst (bin opEqD (bin opIx (vr 2) (ci 0)) (cs "insert"))) (sSq (sIf (mNot (tst (callM s_is_whole 3 (aC (vr 3) (aC (ci 0) (aC (vr 5) aN)))))) sBad sNx)
    (sIf (mNot (tst (callM s_is_whole 3 (aC (vr 4) (aC (ci 1) (aC (cd (.int 1000000000000000000000000000000)) aN)))))) sBad sNx)) (sEx (callM s_require_rows 3 (aC (vr 1) (aC (vr 3) (aC (vr 4) aN))))))
    (sSq (sSet 6 (pur (lstE aN)))
    (sSq (sIf (tst (bin opNeD (bin opIx (vr 2) (ci 0)) (cs "remove"))) (sSq (sIf (mNot (tst (callM s_is_shade 2 (aC (vr 0) (aC (bin opIx (vr 2) (ci 3)) aN))))) sBad sNx)
    (sSet 6 (pur (lstE (aC (tupE (aC (vr 4) (aC (bin opIx (vr 2) (ci 3)) aN))) aN))))) sNx)
    (sSq (sSet 7 (eIf (tst (bin opEqD (bin opIx (vr 2) (ci 0)) (cs "insert"))) (vr 3) (bin opAdd (vr 3) (vr 4))))
    (sRt (callM s_merged 1 (aC (pur (lstE (aS (callM s_part_of 3 (aC (vr 1) (aC (ci 0) (aC (vr 3) aN)))) (aS (vr 6) (aS (callM s_part_of 3 (aC (vr 1) (aC (vr 7) (aC (vr 5) aN)))) aN))))) aN))))))))
noncomputable def s_changed : Fn := runF 8 b_changed

noncomputable def b_Picture_behind : M Fl :=
    (sSq (sSet 3 (pur (callM s_changed 3 (aC (attrU 1 "own_screen" (vr 0)) (aC (vr 1) (aC (vr 2) aN))))))
    (sSq (sIf (tst (notN (attrU 1 "own_limit" (vr 0)))) (sSq (sSet 4 (callM s_ink_of 4 (aC (attrU 1 "own_screen" (vr 0)) (aC (attrU 1 "own_width" (vr 0)) (aC (vr 3) (aC (ci 0) aN))))))
    (sIf (tst (bin opGt (vr 4) (attrU 1 "own_limit" (vr 0)))) sBad sNx)) sNx)
    (sRt (vr 3))))
noncomputable def s_Picture_behind : Fn := runF 5 b_Picture_behind

noncomputable def b_Picture_perform : M Fl :=
    (sSq (sSet 2 (pur (methU 1 "behind" s_Picture_behind 3 (vr 0) (aC (attrU 1 "own_bands" (vr 0)) (aC (vr 1) aN)))))
    (sSq (sEx (methM isLst opApp (attrU 1 "own_past" (vr 0)) (aC (attrU 1 "own_bands" (vr 0)) aN)))
    (sSq (sEx (methM isLst opApp (attrU 1 "own_calls" (vr 0)) (aC (vr 1) aN)))
    (sFld 1 "own_bands" (vr 0) (vr 2)))))
noncomputable def s_Picture_perform : Fn := runF 3 b_Picture_perform

noncomputable def b_Picture_insert : M Fl :=
    (sEx (methU 1 "perform" s_Picture_perform 2 (vr 0) (aC (tupE (aC (cs "insert") (aC (vr 1) (aC (vr 2) (aC (vr 3) aN))))) aN)))
noncomputable def s_Picture_insert : Fn := runF 4 b_Picture_insert

noncomputable def b_Picture_paint : M Fl :=
    (sEx (methU 1 "perform" s_Picture_perform 2 (vr 0) (aC (tupE (aC (cs "paint") (aC (vr 1) (aC (vr 2) (aC (vr 3) aN))))) aN)))
noncomputable def s_Picture_paint : Fn := runF 4 b_Picture_paint

noncomputable def b_Picture_ink_between : M Fl :=
    (sSq (sEx (callM s_require_rows 3 (aC (attrU 1 "own_bands" (vr 0)) (aC (vr 1) (aC (vr 2) aN)))))
    (sRt (callM s_ink_of 4 (aC (attrU 1 "own_screen" (vr 0)) (aC (attrU 1 "own_width" (vr 0)) (aC (pur (callM s_part_of 3 (aC (attrU 1 "own_bands" (vr 0)) (aC (vr 1) (aC (bin opAdd (vr 1) (vr 2)) aN))))) (aC (vr 1) aN)))))))
noncomputable def s_Picture_ink_between : Fn := runF 3 b_Picture_ink_between

noncomputable def b_z_law_small_shade : M Fl :=
    (sSq (sSet 2 (ci 1))
    (sSq (sFor (itL (vr 1)) (gN 3) (sSet 2 (bin opMul (ci 4) (vr 2))))
    (sRt (bin opIx (lstE (aC (ci 0) (aC (vr 2) (aC (callM s_z_law_pick 2 (aC (vr 0) (aC (bin opAdd (vr 2) (ci 1)) aN))) (aC (callM s_z_law_pick 2 (aC (vr 0) (aC (bin opAdd (vr 2) (ci 1)) aN))) aN))))) (callM s_z_law_pick 2 (aC (vr 0) (aC (ci 4) aN)))))))
noncomputable def s_z_law_small_shade : Fn := runF 4 b_z_law_small_shade

noncomputable def b_z_law_step : M Fl :=
    (sSq (sPar 3 4 (aC (opA (op1 opLen) (aC (vr 2) aN)) (aC (callM s_z_law_pick 2 (aC (vr 0) (aC (ci 3) aN))) aN)))
    (sSq (sSet 5 (bin opIx (lstE (aC (callM s_z_law_small_shade 2 (aC (vr 0) (aC (vr 1) aN))) (aC (bin opIx (bin opAdd (vr 2) (lstE (aC (ci 0) aN))) (ci 0)) (aC (ci 1) aN)))) (callM s_z_law_pick 2 (aC (vr 0) (aC (ci 3) aN)))))
    (sSq (sIf (mOr (tst (bin opEqD (vr 3) (ci 0))) (mAnd (tst (bin opEqD (vr 4) (ci 0))) (tst (bin opLt (vr 3) (ci 30))))) (sRt (tupE (aC (cs "insert") (aC (callM s_z_law_pick 2 (aC (vr 0) (aC (bin opAdd (vr 3) (ci 1)) aN))) (aC (bin opAdd (ci 1) (callM s_z_law_pick 2 (aC (vr 0) (aC (ci 6) aN)))) (aC (vr 5) aN)))))) sNx)
    (sSq (sSet 6 (callM s_z_law_pick 2 (aC (vr 0) (aC (vr 3) aN))))
    (sSq (sSet 7 (bin opAdd (ci 1) (callM s_z_law_pick 2 (aC (vr 0) (aC (bin opSub (vr 3) (vr 6)) aN)))))
    (sRt (eIf (tst (bin opEqD (vr 4) (ci 1))) (tupE (aC (cs "remove") (aC (vr 6) (aC (vr 7) aN)))) (tupE (aC (cs "paint") (aC (vr 6) (aC (vr 7) (aC (vr 5) aN))))))))))))
noncomputable def s_z_law_step : Fn := runF 8 b_z_law_step

noncomputable def b_z_law_behind : M Fl :=
    (sSq (sIf (tst (bin opEqD (bin opIx (vr 1) (ci 0)) (cs "insert"))) (sRt (bin opAdd (bin opAdd (slE (vr 0) opt0 (opt1 (bin opIx (vr 1) (ci 1)))) (bin opMul (lstE (aC (bin opIx (vr 1) (ci 3)) aN)) (bin opIx (vr 1) (ci 2)))) (slE (vr 0) (opt1 (bin opIx (vr 1) (ci 1))) opt0))) sNx)
    (sSq (sIf (tst (bin opEqD (bin opIx (vr 1) (ci 0)) (cs "remove"))) (sRt (bin opAdd (slE (vr 0) opt0 (opt1 (bin opIx (vr 1) (ci 1)))) (slE (vr 0) (opt1 (bin opAdd (bin opIx (vr 1) (ci 1)) (bin opIx (vr 1) (ci 2)))) opt0))) sNx)
    (sSq (sSet 2 (bin opAdd (bin opIx (vr 1) (ci 1)) (bin opIx (vr 1) (ci 2))))
    (sRt (bin opAdd (bin opAdd (slE (vr 0) opt0 (opt1 (bin opIx (vr 1) (ci 1)))) (bin opMul (lstE (aC (bin opIx (vr 1) (ci 3)) aN)) (bin opIx (vr 1) (ci 2)))) (slE (vr 0) (opt1 (vr 2)) opt0))))))
noncomputable def s_z_law_behind : Fn := runF 3 b_z_law_behind

noncomputable def b_Picture_remove : M Fl :=
    (sEx (methU 1 "perform" s_Picture_perform 2 (vr 0) (aC (tupE (aC (cs "remove") (aC (vr 1) (aC (vr 2) aN)))) aN)))
noncomputable def s_Picture_remove : Fn := runF 3 b_Picture_remove

noncomputable def b_z_law_called : M Fl :=
    (sSq (sIf (tst (bin opEqD (bin opIx (vr 1) (ci 0)) (cs "insert"))) (sRt (methU 1 "insert" s_Picture_insert 4 (vr 0) (aC (bin opIx (vr 1) (ci 1)) (aC (bin opIx (vr 1) (ci 2)) (aC (bin opIx (vr 1) (ci 3)) aN))))) sNx)
    (sSq (sIf (tst (bin opEqD (bin opIx (vr 1) (ci 0)) (cs "remove"))) (sRt (methU 1 "remove" s_Picture_remove 3 (vr 0) (aC (bin opIx (vr 1) (ci 1)) (aC (bin opIx (vr 1) (ci 2)) aN)))) sNx)
    (sRt (methU 1 "paint" s_Picture_paint 4 (vr 0) (aC (bin opIx (vr 1) (ci 1)) (aC (bin opIx (vr 1) (ci 2)) (aC (bin opIx (vr 1) (ci 3)) aN)))))))
noncomputable def s_z_law_called : Fn := runF 2 b_z_law_called

noncomputable def b_Picture_screen : M Fl :=
    (sRt (attrU 1 "own_screen" (vr 0)))
noncomputable def s_Picture_screen : Fn := runF 1 b_Picture_screen

noncomputable def b_Picture_width : M Fl :=
    (sRt (attrU 1 "own_width" (vr 0)))
noncomputable def s_Picture_width : Fn := runF 1 b_Picture_width

noncomputable def b_z_law_bands : M Fl :=
    (sSq (sSet 1 (lstE aN))
    (sSq (sFor (itL (vr 0)) (gN 2) (sIf (mAnd (tst (bin opNeD (vr 1) (lstE aN))) (tst (bin opEqD (bin opIx (bin opIx (vr 1) (uNeg (ci 1))) (ci 1)) (vr 2)))) (sSub (tupE (aC (bin opAdd (bin opIx (bin opIx (vr 1) (uNeg (ci 1))) (ci 0)) (ci 1)) (aC (vr 2) aN))) (vr 1) (uNeg (ci 1))) (sEx (methM isLst opApp (vr 1) (aC (tupE (aC (ci 1) (aC (vr 2) aN))) aN)))))
    (sRt (vr 1))))
noncomputable def s_z_law_bands : Fn := runF 3 b_z_law_bands

noncomputable def b_Picture_height : M Fl :=
    (sRt (callM s_height_of 1 (aC (attrU 1 "own_bands" (vr 0)) aN)))
noncomputable def s_Picture_height : Fn := runF 1 b_Picture_height

noncomputable def b_z_law_dots : M Fl :=
    (sSq (sAsg (vr 2) (gT 4 (gsC (gN 3) (gsC (gN 4) (gsC (gN 5) (gsC (gN 6) gsN))))))
    (sSq (sSet 7 (ci 0))
    (sSq (sFor (itR2L (aC (vr 4) (aC (bin opAdd (vr 4) (vr 6)) aN))) (gN 8) (sFor (itR2L (aC (vr 3) (aC (bin opAdd (vr 3) (vr 5)) aN))) (gN 9) (sSet 7 (bin opAdd (vr 7) (opA (op1 opInt) (aC (bin opLt (callM s_z_law_threshold 3 (aC (vr 0) (aC (vr 9) (aC (vr 8) aN)))) (vr 1)) aN))))))
    (sRt (vr 7)))))
noncomputable def s_z_law_dots : Fn := runF 10 b_z_law_dots

noncomputable def b_z_law_ink : M Fl :=
    (sSq (sSet 3 (ci 0))
    (sSq (sFor (itE (vr 2)) (gsC (gN 4) (gsC (gN 5) gsN)) (sSet 3 (bin opAdd (vr 3) (callM s_z_law_dots 3 (aC (vr 0) (aC (vr 5) (aC (tupE (aC (ci 0) (aC (vr 4) (aC (vr 1) (aC (ci 1) aN))))) aN)))))))
    (sRt (vr 3))))
noncomputable def s_z_law_ink : Fn := runF 6 b_z_law_ink

noncomputable def b_Picture___eq : M Fl :=
    (sSq (sIf (mOr (mNot (tst (isC 1 (vr 1)))) (tst (bin opNeD (attrU 1 "own_limit" (vr 0)) (attrU 1 "own_limit" (vr 1))))) (sRt (cb false)) sNx)
    (sSq (sIf (mOr (tst (bin opNeD (attrU 1 "own_width" (vr 0)) (attrU 1 "own_width" (vr 1)))) (tst (bin opNeD (attrU 1 "own_bands" (vr 0)) (attrU 1 "own_bands" (vr 1))))) (sRt (cb false)) sNx)
    (sRt (bin (opEqU 0 s_Screen___eq) (attrU 1 "own_screen" (vr 0)) (attrU 1 "own_screen" (vr 1))))))
noncomputable def s_Picture___eq : Fn := runF 2 b_Picture___eq

noncomputable def b_Picture_undo : M Fl :=
    (sSq (sIf (tst (bin opEqD (attrU 1 "own_past" (vr 0)) (lstE aN))) sBad sNx)
    (sSq (sFld 1 "own_bands" (vr 0) (methM isLst opPop (attrU 1 "own_past" (vr 0)) aN))
    (sEx (methM isLst opPop (attrU 1 "own_calls" (vr 0)) aN))))
noncomputable def s_Picture_undo : Fn := runF 1 b_Picture_undo

noncomputable def b_Picture_log : M Fl :=
    (sRt (opA (op1 opList) (aC (attrU 1 "own_calls" (vr 0)) aN)))
noncomputable def s_Picture_log : Fn := runF 1 b_Picture_log

noncomputable def b_number_in : M Fl :=
    (sSq (sSet 1 (pur (eIf (tst (bin opEqD (slE (vr 0) opt0 (opt1 (ci 1))) (cs "-"))) (slE (vr 0) (opt1 (ci 1)) opt0) (vr 0))))
    (sSq (sIf (mOr (tst (bin opEqD (vr 1) (cs ""))) (mOr (tst (bin opGt (opA (op1 opLen) (aC (vr 1) aN)) (cd (.int 100)))) (mNot (tst (opA (op1 opAll) (aC (lcE [2] [2] unp1 (itL (vr 1)) tYesM (bin opIn (vr 2) (cs "0123456789"))) aN)))))) (sRt cn) sNx)
    (sSq (sIf (mAnd (tst (bin opEqD (bin opIx (vr 1) (ci 0)) (cs "0"))) (tst (bin opNeD (vr 0) (cs "0")))) (sRt cn) sNx)
    (sRt (opA (op1 opInt) (aC (vr 0) aN))))))
noncomputable def s_number_in : Fn := runF 3 b_number_in

noncomputable def b_Console___init : M Fl :=
    (sFld 2 "own_picture" (vr 0) (makeU 1 s_Picture___init 3 (aC (pur (callM s_bayer 1 (aC (ci 1) aN))) (aC (ci 2) aN))))
noncomputable def s_Console___init : Fn := runF 1 b_Console___init

noncomputable def b_z_law_cup : M Fl :=
    (sSq (sSet 2 (ci 0))
    (sSq (sIf (tst (bin opLt (vr 1) (opA (op1 opLen) (aC (vr 0) aN)))) (sSet 2 (bin opIx (vr 0) (vr 1))) sNx)
    (sRt (lstE (aC (opA opMax2 (aC (ci 0) (aC (bin opSub (vr 2) (bin opPow (ci 10) (ci 18))) aN))) (aC (bin opAdd (bin opMul (bin opMod (opA (op1 opAbs) (aC (vr 2) aN)) (bin opAdd (bin opPow (ci 10) (ci 36)) (ci 67))) (ci 512)) (vr 1)) (aC (ci 0) aN)))))))
noncomputable def s_z_law_cup : Fn := runF 3 b_z_law_cup

noncomputable def b_z_law_sip : M Fl :=
    (sSq (sIf (tst (bin opGt (bin opIx (vr 0) (ci 0)) (ci 0))) (sSq (sSet 2 (bin opMod (opA (op1 opInt) (aC (bin opIx (vr 0) (ci 0)) aN)) (vr 1)))
    (sSq (sSub (bin opDiv (bin opIx (vr 0) (ci 0)) (vr 1)) (vr 0) (ci 0))
    (sRt (vr 2)))) sNx)
    (sSq (sSub (bin opAdd (bin opIx (vr 0) (ci 2)) (ci 1)) (vr 0) (ci 2))
    (sSq (sSet 3 (bin opMod (opA (op1 opInt) (aC (bin opPow (bin opAdd (bin opIx (vr 0) (ci 1)) (bin opMul (ci 920419823) (bin opIx (vr 0) (ci 2)))) (ci 3)) aN)) (bin opAdd (bin opPow (ci 10) (ci 45)) (ci 9))))
    (sSq (sSet 3 (bin opMod (opA (op1 opInt) (aC (bin opPow (bin opAdd (vr 3) (bin opMul (ci 837504451) (bin opIx (vr 0) (ci 2)))) (ci 2)) aN)) (bin opAdd (bin opPow (ci 10) (ci 44)) (ci 31))))
    (sRt (bin opMod (opA (op1 opInt) (aC (bin opDiv (vr 3) (ci 2097257)) aN)) (vr 1)))))))
noncomputable def s_z_law_sip : Fn := runF 4 b_z_law_sip

noncomputable def b_z_law_levels_v3 : M Fl :=
    (sSq (sSet 2 (lstE aN))
    (sSq (sFor (itR1 (aC (bin opAdd (ci 1) (callM s_z_law_sip 2 (aC (vr 0) (aC (vr 1) aN)))) aN)) (gN 3) (sSq (sPar 4 5 (aC (lstE (aC (ci 0) (aC (ci 1) (aC (ci 2) (aC (ci 3) aN))))) (aC (lstE aN) aN)))
    (sSq (sFor (itL (lstE (aC (ci 4) (aC (ci 3) (aC (ci 2) (aC (ci 1) aN)))))) (gN 6) (sEx (methM isLst opApp (vr 5) (aC (methM isLst opPopAt (vr 4) (aC (callM s_z_law_sip 2 (aC (vr 0) (aC (vr 6) aN))) aN)) aN))))
    (sEx (methM isLst opApp (vr 2) (aC (tupE (aC (bin opIx (vr 5) (ci 0)) (aC (bin opIx (vr 5) (ci 1)) (aC (bin opIx (vr 5) (ci 2)) (aC (bin opIx (vr 5) (ci 3)) aN))))) aN))))))
    (sRt (vr 2))))
noncomputable def s_z_law_levels_v3 : Fn := runF 7 b_z_law_levels_v3

noncomputable def b_z_law_power_v1 : M Fl :=
    (sSq (sSet 2 (ci 1))
    (sSq (sFor (itR1 (aC (vr 1) aN)) (gN 3) (sSet 2 (bin opMul (vr 2) (vr 0))))
    (sRt (vr 2))))
noncomputable def s_z_law_power_v1 : Fn := runF 4 b_z_law_power_v1
end Lib

set_option Elab.async false
set_option linter.all false
set_option maxRecDepth 100000
set_option maxHeartbeats 4000000
namespace Lib
open PySem PySem.Spec PyProof.Rows L2 Dd
noncomputable def b_z_law_due : M Fl :=
    (sSq (sIf (tst (bin opEqD (vr 1) (callM s_z_law_power 1 (aC (bin opMul (ci 2) (opA (op1 opLen) (aC (vr 0) aN))) aN)))) (sRt (bin opIx (lstE (aC (ci 0) (aC (uNeg (ci 1)) aN))) (opA (op1 opInt) (aC (bin opEqD (vr 2) (cs "dot")) aN)))) sNx)
    (sSq (sPar 3 4 (aC (bin opIx (lstE (aC (uNeg (ci 1)) (aC (ci 0) aN))) (opA (op1 opInt) (aC (bin opEqD (vr 2) (cs "dot")) aN))) (aC (vr 1) aN)))
    (sSq (sFor (itL (revE (vr 0) (opt1 (uNeg (ci 1))))) (gT 2 (gsC (gN 5) (gsC (gN 6) gsN))) (sSq (sAsg (tupE (aC (bin opMod (opA (op1 opInt) (aC (vr 4) aN)) (ci 4)) (aC (bin opDiv (vr 4) (ci 4)) aN))) (gT 2 (gsC (gN 7) (gsC (gN 4) gsN))))
    (sSq (sSq (sSet 8 (lcE [9] [9] unp1 (itL (tupE (aC (vr 5) (aC (vr 6) aN)))) tYesM (eIf (tst (bin opEqD (vr 9) (vr 7))) (cs "on") (eIf (tst (bin opLt (vr 9) (vr 7))) (cs "dot") (cs "blank"))))) (sPur 8))
    (sIf (tst (bin opNotIn (cs "on") (vr 8))) (sSet 3 (pur (eIf (tst (bin opEqD (vr 8) (lstE (aC (vr 2) (aC (vr 2) aN))))) (uNeg (ci 1)) (methM isLst opCountS (vr 8) (aC (vr 2) aN))))) (sIf (tst (bin opIn (vr 2) (vr 8))) (sSet 3 (eIf (tst (bin opEqD (vr 3) (uNeg (ci 1)))) (uNeg (ci 1)) (bin opAdd (bin opMul (ci 2) (vr 3)) (ci 1)))) (sSet 3 (opA opMin2 (aC (opA (op1 opAbs) (aC (vr 3) aN)) (aC (ci 1) aN)))))))))
    (sRt (vr 3)))))
noncomputable def s_z_law_due : Fn := runF 10 b_z_law_due

noncomputable def b_z_law_text : M Fl :=
    (sRt (methM isStr opJoin (cs " ") (aC (lcE [1] [1] unp1 (itL (vr 0)) tYesM (methM isStr opJoin (cs "") (aC (lcE [2] [2] unp1 (itL (vr 1)) tYesM (opA (op1 opStrI) (aC (vr 2) aN))) aN))) aN)))
noncomputable def s_z_law_text : Fn := runF 3 b_z_law_text

noncomputable def b_show_screen : M Fl :=
    (sSq (sEx (callM s_require_screen 1 (aC (vr 0) aN)))
    (sRt (methM isStr opJoin (cs " ") (aC (lcE [1] [1] unp1 (itL (propU 0 s_Screen_levels (vr 0))) tYesM (methM isStr opJoin (cs "") (aC (lcE [2] [2] unp1 (itL (vr 1)) tYesM (opA (op1 opStrI) (aC (vr 2) aN))) aN))) aN))))
noncomputable def s_show_screen : Fn := runF 3 b_show_screen

noncomputable def b_read_screen : M Fl :=
    (sSq (sIf (mNot (tst (isB "str" (vr 0)))) sBad sNx)
    (sSq (sSet 1 (lstE aN))
    (sSq (sFor (itE (methM isStr opSplit (vr 0) (aC (cs " ") aN))) (gsC (gN 2) (gsC (gN 3) gsN)) (sSq (sIf (tst (bin opNeD (opA (op1 opSortS) (aC (vr 3) aN)) (lstE (aC (cs "0") (aC (cs "1") (aC (cs "2") (aC (cs "3") aN))))))) sBad sNx)
    (sEx (methM isLst opApp (vr 1) (aC (opA (op1 opTuple) (aC (lcE [4] [4] unp1 (itS (vr 3)) tYesM (opA (op1 opIntS) (aC (vr 4) aN))) aN)) aN)))))
    (sSq (sIf (tst (bin opGt (opA (op1 opLen) (aC (vr 1) aN)) (cd (.int 50)))) sBad sNx)
    (sRt (makeU 0 s_Screen___init 2 (aC (pur (vr 1)) aN)))))))
noncomputable def s_read_screen : Fn := runF 5 b_read_screen

noncomputable def b_show_dots : M Fl :=
    (sSq (sEx (callM s_require_screen 1 (aC (vr 0) aN)))
    (sSq (sIf (mNot (tst (callM s_is_shade 2 (aC (vr 0) (aC (vr 1) aN))))) sBad sNx)
    (sSq (sIf (mOr (mNot (tst (callM s_is_window 1 (aC (vr 2) aN)))) (tst (bin opGt (bin opMul (bin opIx (vr 2) (ci 2)) (bin opIx (vr 2) (ci 3))) (cd (.int 4000))))) sBad sNx)
    (sSq (sAsg (vr 2) (gT 4 (gsC (gN 3) (gsC (gN 4) (gsC (gN 5) (gsC (gN 6) gsN))))))
    (sSq (sSet 7 (lstE aN))
    (sSq (sFor (itR2L (aC (vr 4) (aC (bin opAdd (vr 4) (vr 6)) aN))) (gN 8) (sEx (methM isLst opApp (vr 7) (aC (methM isStr opJoin (cs "") (aC (lcE [9] [9] unp1 (itR2L (aC (vr 3) (aC (bin opAdd (vr 3) (vr 5)) aN))) tYesM (eIf (tst (callM s_is_dot_at 4 (aC (vr 0) (aC (vr 1) (aC (vr 9) (aC (vr 8) aN)))))) (cs "#") (cs "."))) aN)) aN))))
    (sRt (methM isStr opJoin (cs "\n") (aC (vr 7) aN)))))))))
noncomputable def s_show_dots : Fn := runF 10 b_show_dots

noncomputable def b_bands_text : M Fl :=
    (sRt (eIf (tst (bin opNeD (vr 0) (lstE aN))) (methM isStr opJoin (cs " ") (aC (lcE [1, 2] [1, 2] unpT (itL (vr 0)) tYesM (bin opAdd (bin opAdd (opA (op1 opStrI) (aC (vr 1) aN)) (cs "x")) (opA (op1 opStrI) (aC (vr 2) aN)))) aN)) (cs "none")))
noncomputable def s_bands_text : Fn := runF 3 b_bands_text
end Lib

set_option Elab.async false
set_option linter.all false
set_option maxRecDepth 100000
namespace Lib
open PySem PySem.Spec PyProof.Rows L2 Dd
theorem is_int_i (i : Int) (st : Store) : s_is_int [.p (.int i)] st = .ok (.val (.bl true)) st := by
  unfold s_is_int b_is_int
  simp! []
theorem is_whole_i (i a b : Int) (st : Store) : s_is_whole [.p (.int i), .p (.int a), .p (.int b)] st = .ok (.val (.bl (decide (a ≤ i ∧ i ≤ b)))) st := by
  unfold s_is_whole b_is_whole
  simp! [is_int_i]
  by_cases h : a ≤ i <;> simp [h]
/-- a level: the four digits in some order -/
def Lv (d : D) : Prop := ∃ a b c e : Int, d = .tup [.int a, .int b, .int c, .int e] ∧ sortI [a, b, c, e] = [0, 1, 2, 3]
theorem is_level_ok {d : D} (st : Store) (h : Lv d) : s_is_level [.p d] st = .ok (.val (.bl true)) st := by
  obtain ⟨a, b, c, e, rfl, h⟩ := h
  unfold s_is_level b_is_level
  simp! []
  rw [lcL_map (g := fun _ => D.bl true) trivial _ _ (fun d hd => by
    simp only [List.mem_cons, List.not_mem_nil, or_false] at hd
    rcases hd with rfl | rfl | rfl | rfl <;> simp! [is_int_i]) (by simp)]
  simp! [lcFin_ok, allK, blsOf, List.all_cons, List.all_nil, id]
  have hs : intsOf [D.int a, D.int b, D.int c, D.int e] = some [a, b, c, e] := rfl
  simp! [sortK, hs, h]
  rw [opEqD_li (ns := [0, 1, 2, 3]) (ms := [0, 1, 2, 3]) (by rw [dataR_r]; simp! []; rfl) (by rw [dataR_r]; simp! []; rfl)]
  simp! []
theorem sortI_lv {d : D} (h : Lv d) : ∃ l : List Int, d = .tup (l.map .int) ∧ l.Perm [0, 1, 2, 3] := by
  obtain ⟨a, b, c, e, rfl, h⟩ := h
  exact ⟨[a, b, c, e], rfl, h ▸ (List.mergeSort_perm _ _).symm⟩
theorem lv_of {l : List Int} (h : l.Perm [0, 1, 2, 3]) : Lv (.tup (l.map .int)) := by
  have hl := h.length_eq
  match l, hl with
  | [a, b, c, e], _ => exact ⟨a, b, c, e, rfl, (sortI_eq h.symm (by decide)).symm⟩
/-- levels as data -/
def lvD (ls : List (List Int)) : List D := ls.map fun l => .tup (l.map .int)
def LvOk (ls : List (List Int)) : Prop := 1 ≤ ls.length ∧ ls.length ≤ 50 ∧ ∀ l ∈ ls, l.Perm [0, 1, 2, 3]
theorem screen_init (ls : List (List Int)) (h : LvOk ls) (st : Store) :
    s_Screen___init [.r st.length, .p (.lst (lvD ls))] (st ++ [.mu (.obj 0 [])]) = .ok (.val .non) (st ++ [.mu (.obj 0 [("own_levels", .tup (lvD ls))])]) := by
  obtain ⟨h1, h2, h3⟩ := h
  have hl : (lvD ls).length = ls.length := List.length_map ..
  unfold s_Screen___init b_Screen___init
  have e1 : decide (1 ≤ ((ls.length : Nat) : Int)) = true := by simp; omega
  have e2 : decide (((ls.length : Nat) : Int) ≤ 50) = true := by simp; omega
  simp! [hl, e1, e2]
  obtain ⟨S', e, x, y, rfl⟩ := loop_inv (ok := fun _ => True) (body := fun d => (gsC (gN 2) (gsC (gN 3) gsN) d >>= fun _ => sIf (mNot (tst (callM s_is_level 1 (aC (vr 3) aN)))) sBad sNx : M Fl))
    (I := fun _ S => ∃ x y, S = ⟨[some (R.r st.length), some (R.p (D.lst (lvD ls))), x, y], st ++ [Cell.mu (Con.obj 0 [])]⟩) (numbered 0 (lvD ls)) 0 _ ⟨none, none, rfl⟩ (fun _ _ _ => trivial) (fun j d S hj ⟨x, y, hS⟩ => by
      subst hS
      obtain ⟨d', rfl, hd⟩ := numbered_at hj
      obtain ⟨l, hl, rfl⟩ := List.mem_map.mp (List.mem_of_getElem? hd)
      refine ⟨_, .inl (by rw [bind_bnd]; simp! [is_level_ok _ (lv_of (h3 l hl))]; rfl), _, _, rfl⟩)
  rw [e]
  simp! [fldK, putD]
theorem screen_make (ls : List (List Int)) (h : LvOk ls) (S : Sg) : makeK 0 s_Screen___init 2 [.p (.lst (lvD ls))] S = .ok (.r S.st.length) ⟨S.sl, S.st ++ [.mu (.obj 0 [("own_levels", .tup (lvD ls))])]⟩ := by
  unfold makeK
  simp only [List.length_cons, List.length_nil]
  rw [if_pos trivial, screen_init ls h]
theorem objD_scr {l : List D} : objD 0 [("own_levels", .tup l)] = some (.scr l) := rfl
theorem require_screen_ok (l : List D) (st : Store) : s_require_screen [.p (.scr l)] st = .ok (.val .non) st := by
  unfold s_require_screen b_require_screen
  simp! []
theorem two_len {n : Nat} (h : n ≤ 50) : CMulW 2 (n : Int) := cmulw (n := 2) (m := 10) (Bt.of (by omega)) (Bt.of (by omega))
theorem shl_four (n : Nat) : (1 : Int) * 2 ^ (2 * (n : Int)).toNat = 4 ^ n := by
  rw [Int.one_mul, show (2 * (n : Int)).toNat = 2 * n by omega, Int.pow_mul]; rfl
theorem is_shade_i (ls : List (List Int)) (h : ls.length ≤ 50) (v : Int) (st : Store) : s_is_shade [.p (.scr (lvD ls)), .p (.int v)] st = .ok (.val (.bl (decide (0 ≤ v ∧ v ≤ 4 ^ ls.length)))) st := by
  have hl : (lvD ls).length = ls.length := List.length_map ..
  unfold s_is_shade b_is_shade
  simp! [hl, opMul_i (two_len h), opShl_i (cshl1 (j := 2 * (ls.length : Int)) (by omega) (by omega)), is_whole_i, shl_four]
theorem require_shade_ok (ls : List (List Int)) (h : ls.length ≤ 50) (v : Int) (h0 : 0 ≤ v) (h1 : v ≤ 4 ^ ls.length) (st : Store) : s_require_shade [.p (.scr (lvD ls)), .p (.int v)] st = .ok (.val .non) st := by
  unfold s_require_shade b_require_shade
  simp! [is_shade_i ls h, h0, h1]
/-- a window -/
def WinOk (l t w h : Int) : Prop := -(1000000000000000000000000000000 : Int) ≤ l ∧ l ≤ (1000000000000000000000000000000 : Int) ∧ -(1000000000000000000000000000000 : Int) ≤ t ∧ t ≤ (1000000000000000000000000000000 : Int) ∧ 1 ≤ w ∧ w ≤ (1000000000000000000000000000000 : Int) ∧ 1 ≤ h ∧ h ≤ (1000000000000000000000000000000 : Int)
def winD (l t w h : Int) : D := .tup [.int l, .int t, .int w, .int h]
theorem is_window_ok {l t w h : Int} (k : WinOk l t w h) (st : Store) : s_is_window [.p (winD l t w h)] st = .ok (.val (.bl true)) st := by
  obtain ⟨k1, k2, k3, k4, k5, k6, k7, k8⟩ := k
  unfold s_is_window b_is_window winD
  simp! [is_whole_i, k1, k2, k3, k4, k5, k6, k7, k8]
theorem require_window_ok {l t w h : Int} (k : WinOk l t w h) (st : Store) : s_require_window [.p (winD l t w h)] st = .ok (.val .non) st := by
  unfold s_require_window b_require_window
  simp! [is_window_ok k]
/-- how many of the coordinates leave the residue -/
def resi (f m r : Int) (s : Nat) : Int := (f + m - 1 - r) / 2 ^ s - (f - 1 - r) / 2 ^ s
theorem residues_i (f m r : Int) (s : Nat) (st : Store) : s_residues [.p (.int f), .p (.int m), .p (.int r), .p (.int s)] st = .ok (.val (.int (resi f m r s))) st := by
  unfold s_residues b_residues
  simp! [opShr_i (i := f + m - 1 - r) (j := s) (by omega), opShr_i (i := f - 1 - r) (j := s) (by omega), Int.toNat_natCast, resi]
end Lib

set_option Elab.async false
set_option linter.all false
set_option maxRecDepth 100000
namespace Lib
open PySem PySem.Spec PyProof.Rows L2 Dd
theorem band1 (i : Int) : Builtin.bitAnd i 1 = i % 2 := PySem.W.kbt_mask i 1
theorem band3 (i : Int) : Builtin.bitAnd i 3 = i % 4 := PySem.W.kbt_mask i 2
theorem cshl_sm {i j : Int} (h : Bt 1000 i) (h0 : 0 ≤ j) (h1 : j ≤ 1000000) : CShl i j := ⟨h0, by
  have b : Builtin.Int.intBits i ≤ i.natAbs.log2 + 1 := by unfold Builtin.Int.intBits; split <;> omega
  have := h.log2
  omega⟩
/-- the cells below a shade: left of the digit at each level -/
def pl (c : Nat) (x y : Int) (s : Nat) : Int × Int := (x + ((c : Int) % 2) * 2 ^ s, y + ((c : Int) / 2) * 2 ^ s)
def below (g x y : Int) (s : Nat) : Nat → List Int → List (Int × Int × Nat)
  | _, [] => []
  | c, n :: r => if n < g then ((pl c x y s).1, (pl c x y s).2, s + 1) :: below g x y s (c + 1) r else below g x y s (c + 1) r
def furth (g x y : Int) (s : Nat) : Nat → List Int → Option (Int × Int) → Option (Int × Int)
  | _, [], o => o
  | c, n :: r, o => furth g x y s (c + 1) r (if n = g then some (pl c x y s) else o)
def cells (k : Int) : List (List Int) → Int → Int → Nat → List (Int × Int × Nat)
  | [], _, _, _ => []
  | lv :: r, x, y, s => below (k / 4 ^ r.length % 4) x y s 0 lv ++ match furth (k / 4 ^ r.length % 4) x y s 0 lv none with
    | some p => cells k r p.1 p.2 (s + 1)
    | none => []
def cD (t : Int × Int × Nat) : D := .tup [.int t.1, .int t.2.1, .int (t.2.2 : Int)]
def fD (o : Option (Int × Int)) (z : Option R) : Option R := match o with
  | some p => some (.p (.tup [.int p.1, .int p.2]))
  | none => z
noncomputable def inB : List D → M Fl := fun d => gsC (gN 9) (gsC (gN 10) gsN) d >>= fun _ => (sSq (sSet 11 (tupE (aC (bin opAdd (vr 4) (bin opShl (bin opBand (vr 9) (ci 1)) (vr 6))) (aC (bin opAdd (vr 5) (bin opShl (bin opShr (vr 9) (ci 1)) (vr 6))) aN))))
    (sIf (tst (bin opLt (vr 10) (vr 8))) (sEx (methM isLst opApp (vr 3) (aC (tupE (aC (bin opIx (vr 11) (ci 0)) (aC (bin opIx (vr 11) (ci 1)) (aC (bin opAdd (vr 6) (ci 1)) aN)))) aN))) (sIf (tst (bin opEqD (vr 10) (vr 8))) (sSet 12 (vr 11)) sNx)))
theorem inB_run {s0 s1 s2 z7 : Option R} {g x y : Int} {s : Nat} (hs : s ≤ 100) (st : Store) (z : Option R) : ∀ (l : List Int) (c : Nat) (acc : List D) (o : Option (Int × Int)) (j9 j10 j11 : Option R), c + l.length ≤ 4 → acc.length + l.length ≤ 1000 →
    ∃ k9 k10 k11, loopL (fun _ => True) inB (numbered c (l.map .int)) ⟨[s0, s1, s2, some (.r st.length), some (.p (.int x)), some (.p (.int y)), some (.p (.int s)), z7, some (.p (.int g)), j9, j10, j11, fD o z], st ++ [.mu (.lst acc)]⟩ =
      .ok .nx ⟨[s0, s1, s2, some (.r st.length), some (.p (.int x)), some (.p (.int y)), some (.p (.int s)), z7, some (.p (.int g)), k9, k10, k11, fD (furth g x y s c l o) z], st ++ [.mu (.lst (acc ++ (below g x y s c l).map cD))]⟩
  | [], c, acc, o, j9, j10, j11, hc, ha => ⟨j9, j10, j11, by
    rw [List.map_nil, Dd.numbered, loop_nil trivial]
    simp only [below, furth, List.map_nil, List.append_nil]⟩
  | n :: l, c, acc, o, j9, j10, j11, hc, ha => by
    rw [List.length_cons] at hc ha
    have e1 : ((c : Int) / 2 ^ (1 : Int).toNat) = (c : Int) / 2 := rfl
    have sh1 : CShl ((c : Int) % 2) (s : Int) := cshl_sm (Bt.mono (n := 8) (Bt.of (by omega)) (by decide)) (by omega) (by omega)
    have sh2 : CShl ((c : Int) / 2) (s : Int) := cshl_sm (Bt.mono (n := 8) (Bt.of (by omega)) (by decide)) (by omega) (by omega)
    have step : ∃ k9 k10 k11, inB [.int (c : Int), .int n] ⟨[s0, s1, s2, some (.r st.length), some (.p (.int x)), some (.p (.int y)), some (.p (.int s)), z7, some (.p (.int g)), j9, j10, j11, fD o z], st ++ [.mu (.lst acc)]⟩ =
        .ok .nx ⟨[s0, s1, s2, some (.r st.length), some (.p (.int x)), some (.p (.int y)), some (.p (.int s)), z7, some (.p (.int g)), k9, k10, k11, fD (if n = g then some (pl c x y s) else o) z], st ++ [.mu (.lst (acc ++ (if n < g then [cD ((pl c x y s).1, (pl c x y s).2, s + 1)] else [])))]⟩ := by
      refine ⟨some (.p (.int c)), some (.p (.int n)), some (.p (.tup [.int (pl c x y s).1, .int (pl c x y s).2])), ?_⟩
      unfold inB
      rw [bind_bnd]
      simp! [band1, e1, opShl_i sh1, opShl_i sh2, Int.toNat_natCast]
      by_cases h1 : n < g
      · have h2 : ¬ n = g := by omega
        simp! [h1, h2, appK_ap (show acc.length < 1000000 by omega), pl, cD, Int.natCast_add]
      · by_cases h2 : n = g
        · simp! [h1, h2, pl, List.append_nil, Int.lt_irrefl]
          rfl
        · simp! [h1, h2, pl, List.append_nil]
    obtain ⟨k9, k10, k11, e⟩ := step
    obtain ⟨q9, q10, q11, e2⟩ := inB_run hs st z l (c + 1) (acc ++ (if n < g then [cD ((pl c x y s).1, (pl c x y s).2, s + 1)] else [])) (if n = g then some (pl c x y s) else o) k9 k10 k11 (by omega) (by rw [List.length_append]; split <;> simp only [List.length_cons, List.length_nil] <;> omega)
    refine ⟨q9, q10, q11, ?_⟩
    rw [List.map_cons, Dd.numbered, loop_cons trivial, e, bnd_ok]
    show loopL _ _ _ _ = _
    rw [e2]
    simp only [below, furth]
    by_cases h1 : n < g
    · simp only [if_pos h1, List.map_cons, List.append_assoc, List.cons_append, List.nil_append]
    · simp only [if_neg h1, List.append_nil]
theorem furth_mem {g x y : Int} {s : Nat} : ∀ {l : List Int} {c : Nat}, g ∈ l → ∃ p, ∀ o, furth g x y s c l o = some p
  | [], c, h => absurd h (by simp)
  | n :: l, c, h => by
    by_cases hl : g ∈ l
    · obtain ⟨p, hp⟩ := furth_mem (c := c + 1) hl
      exact ⟨p, fun o => hp _⟩
    · have e : n = g := by
        rcases List.mem_cons.mp h with e | e
        · exact e.symm
        · exact (hl e).elim
      refine ⟨pl c x y s, fun o => ?_⟩
      have no : ∀ (l : List Int) (c : Nat) (o : Option (Int × Int)), g ∉ l → furth g x y s c l o = o := fun l => by
        induction l with
        | nil => intro c o _; rfl
        | cons m l ih =>
          intro c o hm
          have h1 : ¬ m = g := fun e => hm (by rw [e]; exact List.mem_cons_self)
          show furth g x y s (c + 1) l (if m = g then _ else o) = o
          rw [if_neg h1]
          exact ih _ _ fun q => hm (List.mem_cons_of_mem _ q)
      show furth g x y s (c + 1) l (if n = g then _ else o) = _
      rw [if_pos e]
      exact no l _ _ hl
theorem digit_mem {k : Int} {l : List Int} (h : l.Perm [0, 1, 2, 3]) : k % 4 ∈ l := by
  rw [h.mem_iff]
  have h0 : 0 ≤ k % 4 := Int.emod_nonneg _ (by decide)
  have h1 : k % 4 < 4 := Int.emod_lt_of_pos _ (by decide)
  simp only [List.mem_cons, List.not_mem_nil, or_false]
  omega
theorem shr_four (k : Int) (n : Nat) : k / 2 ^ (2 * (n : Int)).toNat = k / 4 ^ n := by
  rw [show (2 * (n : Int)).toNat = 2 * n by omega, Int.pow_mul]; rfl
theorem below_len {g x y : Int} {s : Nat} : ∀ {l : List Int} {c : Nat}, (below g x y s c l).length ≤ l.length
  | [], c => Nat.le_refl _
  | n :: l, c => by
    unfold below
    have := below_len (g := g) (x := x) (y := y) (s := s) (l := l) (c := c + 1)
    split
    · rw [List.length_cons, List.length_cons]; omega
    · rw [List.length_cons]; omega
noncomputable def outB : List D → M Fl := fun d => gsC (gN 6) (gsC (gN 7) gsN) d >>= fun _ => (sSq (sSet 8 (bin opBand (bin opShr (vr 1) (bin opMul (ci 2) (bin opSub (bin opSub (vr 2) (ci 1)) (vr 6)))) (ci 3)))
    (sSq (sFor (itE (vr 7)) (gsC (gN 9) (gsC (gN 10) gsN)) (sSq (sSet 11 (tupE (aC (bin opAdd (vr 4) (bin opShl (bin opBand (vr 9) (ci 1)) (vr 6))) (aC (bin opAdd (vr 5) (bin opShl (bin opShr (vr 9) (ci 1)) (vr 6))) aN))))
    (sIf (tst (bin opLt (vr 10) (vr 8))) (sEx (methM isLst opApp (vr 3) (aC (tupE (aC (bin opIx (vr 11) (ci 0)) (aC (bin opIx (vr 11) (ci 1)) (aC (bin opAdd (vr 6) (ci 1)) aN)))) aN))) (sIf (tst (bin opEqD (vr 10) (vr 8))) (sSet 12 (vr 11)) sNx))))
    (sAsg (vr 12) (gT 2 (gsC (gN 4) (gsC (gN 5) gsN))))))
theorem outB_run {s0 : Option R} {k : Int} {n : Nat} (hn : n ≤ 50) (st : Store) : ∀ (ls : List (List Int)) (s : Nat) (x y : Int) (acc : List D) (j6 j7 j8 j9 j10 j11 j12 : Option R), s + ls.length = n → (∀ l ∈ ls, l.Perm [0, 1, 2, 3]) → acc.length + 4 * ls.length ≤ 900 →
    ∃ x' y' k6 k7 k8 k9 k10 k11 k12, loopL (fun _ => True) outB (Dd.numbered s (lvD ls)) ⟨[s0, some (.p (.int k)), some (.p (.int n)), some (.r st.length), some (.p (.int x)), some (.p (.int y)), j6, j7, j8, j9, j10, j11, j12], st ++ [.mu (.lst acc)]⟩ =
      .ok .nx ⟨[s0, some (.p (.int k)), some (.p (.int n)), some (.r st.length), x', y', k6, k7, k8, k9, k10, k11, k12], st ++ [.mu (.lst (acc ++ (cells k ls x y s).map cD))]⟩
  | [], s, x, y, acc, j6, j7, j8, j9, j10, j11, j12, hs, hp, ha => ⟨some (.p (.int x)), some (.p (.int y)), j6, j7, j8, j9, j10, j11, j12, by
    show loopL _ _ [] _ = _
    rw [loop_nil trivial]
    simp only [cells, List.map_nil, List.append_nil]⟩
  | lv :: ls, s, x, y, acc, j6, j7, j8, j9, j10, j11, j12, hs, hp, ha => by
    rw [List.length_cons] at hs ha
    have hlv := hp lv List.mem_cons_self
    have l4 : lv.length = 4 := hlv.length_eq
    obtain ⟨p, hp4⟩ := furth_mem (x := x) (y := y) (s := s) (c := 0) (digit_mem (k := k / 4 ^ ls.length) hlv)
    have ed : ((n : Int) - 1 - (s : Int)) = (ls.length : Int) := by omega
    obtain ⟨k9, k10, k11, e1⟩ := inB_run (s0 := s0) (s1 := some (.p (.int k))) (s2 := some (.p (.int n))) (z7 := some (.p (.tup (lv.map .int)))) (g := k / 4 ^ ls.length % 4) (x := x) (y := y) (s := s) (by omega) st j12 lv 0 acc none j9 j10 j11 (by omega) (by omega)
    have step : outB [.int (s : Int), .tup (lv.map .int)] ⟨[s0, some (.p (.int k)), some (.p (.int n)), some (.r st.length), some (.p (.int x)), some (.p (.int y)), j6, j7, j8, j9, j10, j11, j12], st ++ [.mu (.lst acc)]⟩ =
        .ok .nx ⟨[s0, some (.p (.int k)), some (.p (.int n)), some (.r st.length), some (.p (.int p.1)), some (.p (.int p.2)), some (.p (.int s)), some (.p (.tup (lv.map .int))), some (.p (.int (k / 4 ^ ls.length % 4))), k9, k10, k11, some (.p (.tup [.int p.1, .int p.2]))], st ++ [.mu (.lst (acc ++ (below (k / 4 ^ ls.length % 4) x y s 0 lv).map cD))]⟩ := by
      unfold outB
      rw [bind_bnd]
      simp! [ed, opMul_i (two_len (n := ls.length) (by omega)), opShr_i (i := k) (j := 2 * (ls.length : Int)) (by omega), shr_four, band3]
      have e1' := e1
      rw [hp4] at e1'
      have e0 : fD none j12 = j12 := rfl
      rw [e0] at e1'
      unfold inB at e1'
      rw [e1']
      simp! [fD]
    obtain ⟨x', y', k6, k7, k8, q9, q10, q11, q12, e2⟩ := outB_run hn st ls (s + 1) p.1 p.2 (acc ++ (below (k / 4 ^ ls.length % 4) x y s 0 lv).map cD) (some (.p (.int s))) (some (.p (.tup (lv.map .int)))) (some (.p (.int (k / 4 ^ ls.length % 4)))) k9 k10 k11 (some (.p (.tup [.int p.1, .int p.2]))) (by omega) (fun l hl => hp l (List.mem_cons_of_mem _ hl)) (by
      have := below_len (g := k / 4 ^ ls.length % 4) (x := x) (y := y) (s := s) (l := lv) (c := 0)
      rw [List.length_append, List.length_map]; omega)
    refine ⟨x', y', k6, k7, k8, q9, q10, q11, q12, ?_⟩
    show loopL _ _ ([.int (s : Int), .tup (lv.map .int)] :: Dd.numbered (s + 1) (lvD ls)) _ = _
    rw [loop_cons trivial, step, bnd_ok]
    show loopL _ _ _ _ = _
    rw [e2]
    simp only [cells, hp4, List.map_append, List.append_assoc]
def cellsOf (k : Int) (ls : List (List Int)) : List (Int × Int × Nat) := if k = 4 ^ ls.length then [(0, 0, 0)] else cells k ls 0 0 0
theorem cells_below_i (ls : List (List Int)) (hl : ls.length ≤ 50) (hp : ∀ l ∈ ls, l.Perm [0, 1, 2, 3]) (k : Int) (st : Store) :
    s_cells_below [.p (.tup (lvD ls)), .p (.int k)] st = .ok (.new (.lst ((cellsOf k ls).map cD))) st := by
  have hlen : (lvD ls).length = ls.length := List.length_map ..
  unfold s_cells_below b_cells_below
  by_cases h : k = 4 ^ ls.length
  · simp! [hlen, opMul_i (two_len hl), opShl_i (cshl1 (j := 2 * (ls.length : Int)) (by omega) (by omega)), shl_four, h]
    rw [finishR_mu (o := .lst [.tup [.int 0, .int 0, .int 0]]) get_app0 (Nat.le_refl _), take_app]
    simp only [cellsOf, if_true, List.map_cons, List.map_nil, cD]
    rfl
  · simp! [hlen, opMul_i (two_len hl), opShl_i (cshl1 (j := 2 * (ls.length : Int)) (by omega) (by omega)), shl_four, h]
    obtain ⟨x', y', k6, k7, k8, k9, k10, k11, k12, e⟩ := outB_run (s0 := some (.p (.tup (lvD ls)))) (k := k) (n := ls.length) hl st ls 0 0 0 [] none none none none none none none (by omega) hp (by simp only [List.length_nil]; omega)
    have e' := e
    unfold outB at e'
    rw [e']
    simp! []
    rw [finishR_mu (o := .lst ((cells k ls 0 0 0).map cD)) get_app0 (Nat.le_refl _), take_app]
    simp only [cellsOf, if_neg h]
/-- how many places of a window a cell holds -/
def pwi (l t w h : Int) (c : Int × Int × Nat) : Int := resi l w c.1 c.2.2 * resi t h c.2.1 c.2.2
end Lib

set_option Elab.async false
set_option linter.all false
set_option maxRecDepth 100000
set_option exponentiation.threshold 2000
namespace Lib
open PySem PySem.Spec PyProof.Rows L2 Dd
theorem div_bd {x B : Int} {s : Nat} (h1 : -B ≤ x) (h2 : x ≤ B) : -B ≤ x / 2 ^ s ∧ x / 2 ^ s ≤ B := by
  have hd : (0 : Int) < 2 ^ s := Int.pow_pos (by decide)
  have hd1 : (1 : Int) ≤ 2 ^ s := hd
  by_cases hx : 0 ≤ x
  · have a := Int.ediv_nonneg hx (Int.le_of_lt hd)
    have b := Int.ediv_le_self (2 ^ s) hx
    omega
  · have a : x / 2 ^ s ≤ 0 := Int.le_of_lt (Int.ediv_neg_of_neg_of_pos (by omega) hd)
    have b : x ≤ x / 2 ^ s := by
      rw [Int.le_ediv_iff_mul_le hd]
      have : x * 2 ^ s ≤ x * 1 := Int.mul_le_mul_of_nonpos_left (by omega) hd1
      omega
    omega
theorem pow_bd {s n : Nat} (h : s ≤ n) : (2 : Int) ^ s ≤ 2 ^ n := by
  have : (2 : Nat) ^ s ≤ 2 ^ n := Nat.pow_le_pow_right (by decide) h
  exact_mod_cast this
theorem resi_bt {f m r : Int} {s : Nat} (h1 : -(1000000000000000000000000000000 : Int) ≤ f) (h2 : f ≤ 2 * (1000000000000000000000000000000 : Int)) (h3 : 0 ≤ m) (h4 : m ≤ (1000000000000000000000000000000 : Int)) (h5 : 0 ≤ r) (h6 : r ≤ (1000000000000000000000000000000 : Int)) : Bt 110 (resi f m r s) := by
  have a := div_bd (x := f + m - 1 - r) (B := 5 * (1000000000000000000000000000000 : Int)) (s := s) (by omega) (by omega)
  have b := div_bd (x := f - 1 - r) (B := 5 * (1000000000000000000000000000000 : Int)) (s := s) (by omega) (by omega)
  unfold resi
  apply Bt.of
  omega
def CellOk' (n : Nat) (c : Int × Int × Nat) : Prop := 0 ≤ c.1 ∧ c.1 < 2 ^ n ∧ 0 ≤ c.2.1 ∧ c.2.1 < 2 ^ n ∧ c.2.2 ≤ n
theorem places_with_i {l t w h : Int} (k : WinOk l t w h) {c : Int × Int × Nat} (hc : CellOk' 50 c) (st : Store) :
    s_places_with [.p (winD l t w h), .p (.int c.1), .p (.int c.2.1), .p (.int (c.2.2 : Int))] st = .ok (.val (.int (pwi l t w h c))) st := by
  obtain ⟨k1, k2, k3, k4, k5, k6, k7, k8⟩ := k
  obtain ⟨c1, c2, c3, c4, c5⟩ := hc
  have e : (2 : Int) ^ 50 ≤ (1000000000000000000000000000000 : Int) := by decide
  have b1 : Bt 110 (resi l w c.1 c.2.2) := resi_bt (by omega) (by omega) (by omega) (by omega) c1 (by omega)
  have b2 : Bt 110 (resi t h c.2.1 c.2.2) := resi_bt (by omega) (by omega) (by omega) (by omega) c3 (by omega)
  unfold s_places_with b_places_with winD
  simp! [residues_i, opMul_i (cmulw b1 b2), pwi]
theorem pl_bd {c : Nat} {x y : Int} {s : Nat} (hc : c < 4) (hx : 0 ≤ x) (hx' : x < 2 ^ s) (hy : 0 ≤ y) (hy' : y < 2 ^ s) : 0 ≤ (pl c x y s).1 ∧ (pl c x y s).1 < 2 ^ (s + 1) ∧ 0 ≤ (pl c x y s).2 ∧ (pl c x y s).2 < 2 ^ (s + 1) := by
  have e : (2 : Int) ^ (s + 1) = 2 * 2 ^ s := by rw [Int.pow_succ]; omega
  have c1 : (c : Int) % 2 = 0 ∨ (c : Int) % 2 = 1 := by omega
  have c2 : (c : Int) / 2 = 0 ∨ (c : Int) / 2 = 1 := by omega
  unfold pl
  simp only
  rw [e]
  rcases c1 with c1 | c1 <;> rcases c2 with c2 | c2 <;> rw [c1, c2] <;> simp only [Int.zero_mul, Int.one_mul] <;> omega
theorem below_ok {g x y : Int} {s : Nat} (hx : 0 ≤ x) (hx' : x < 2 ^ s) (hy : 0 ≤ y) (hy' : y < 2 ^ s) : ∀ {l : List Int} {c : Nat}, c + l.length ≤ 4 → ∀ z ∈ below g x y s c l, CellOk' (s + 1) z
  | [], c, hc, z, h => by simp [below] at h
  | n :: l, c, hc, z, h => by
    rw [List.length_cons] at hc
    unfold below at h
    split at h
    · rcases List.mem_cons.mp h with rfl | h
      · obtain ⟨a1, a2, a3, a4⟩ := pl_bd (c := c) (by omega) hx hx' hy hy'
        exact ⟨a1, a2, a3, a4, Nat.le_refl _⟩
      · exact below_ok hx hx' hy hy' (by omega) z h
    · exact below_ok hx hx' hy hy' (by omega) z h
theorem furth_ok {g x y : Int} {s : Nat} (hx : 0 ≤ x) (hx' : x < 2 ^ s) (hy : 0 ≤ y) (hy' : y < 2 ^ s) : ∀ {l : List Int} {c : Nat} {o : Option (Int × Int)}, c + l.length ≤ 4 → (∀ p, o = some p → 0 ≤ p.1 ∧ p.1 < 2 ^ (s + 1) ∧ 0 ≤ p.2 ∧ p.2 < 2 ^ (s + 1)) → ∀ p, furth g x y s c l o = some p → 0 ≤ p.1 ∧ p.1 < 2 ^ (s + 1) ∧ 0 ≤ p.2 ∧ p.2 < 2 ^ (s + 1)
  | [], c, o, hc, ho, p, h => ho p h
  | n :: l, c, o, hc, ho, p, h => by
    rw [List.length_cons] at hc
    refine furth_ok hx hx' hy hy' (l := l) (c := c + 1) (by omega) (fun q hq => ?_) p h
    split at hq
    · cases hq; exact pl_bd (by omega) hx hx' hy hy'
    · exact ho q hq
theorem CellOk'.mono {n m : Nat} {c : Int × Int × Nat} (h : CellOk' n c) (hm : n ≤ m) : CellOk' m c := by
  obtain ⟨h1, h2, h3, h4, h5⟩ := h
  have := pow_bd hm
  exact ⟨h1, by omega, h3, by omega, by omega⟩
theorem cells_ok {k : Int} : ∀ {ls : List (List Int)} {x y : Int} {s : Nat}, (∀ l ∈ ls, l.Perm [0, 1, 2, 3]) → 0 ≤ x → x < 2 ^ s → 0 ≤ y → y < 2 ^ s → ∀ z ∈ cells k ls x y s, CellOk' (s + ls.length) z
  | [], x, y, s, hp, hx, hx', hy, hy', z, h => by simp [cells] at h
  | lv :: ls, x, y, s, hp, hx, hx', hy, hy', z, h => by
    have l4 : lv.length = 4 := (hp lv List.mem_cons_self).length_eq
    unfold cells at h
    rw [List.length_cons]
    rcases List.mem_append.mp h with h | h
    · exact (below_ok hx hx' hy hy' (by omega) z h).mono (by omega)
    · cases q : furth (k / 4 ^ ls.length % 4) x y s 0 lv none with
      | none => rw [q] at h; simp at h
      | some p =>
        rw [q] at h
        obtain ⟨a1, a2, a3, a4⟩ := furth_ok hx hx' hy hy' (by omega) (fun p hp => by cases hp) p q
        exact (cells_ok (fun l hl => hp l (List.mem_cons_of_mem _ hl)) a1 a2 a3 a4 z h).mono (by omega)
theorem cellsOf_ok {k : Int} {ls : List (List Int)} (hl : ls.length ≤ 50) (hp : ∀ l ∈ ls, l.Perm [0, 1, 2, 3]) : ∀ z ∈ cellsOf k ls, CellOk' ls.length z := by
  intro z h
  unfold cellsOf at h
  split at h
  · simp only [List.mem_cons, List.not_mem_nil, or_false] at h
    subst h
    have : (0 : Int) < 2 ^ ls.length := Int.pow_pos (by decide)
    exact ⟨Int.le_refl _, this, Int.le_refl _, this, Nat.zero_le _⟩
  · have := cells_ok (s := 0) hp (Int.le_refl 0) (by decide) (Int.le_refl 0) (by decide) z h
    rwa [Nat.zero_add] at this
theorem cells_len {k : Int} : ∀ {ls : List (List Int)} {x y : Int} {s : Nat}, (∀ l ∈ ls, l.Perm [0, 1, 2, 3]) → (cells k ls x y s).length ≤ 4 * ls.length
  | [], x, y, s, hp => by simp [cells]
  | lv :: ls, x, y, s, hp => by
    have l4 : lv.length = 4 := (hp lv List.mem_cons_self).length_eq
    unfold cells
    rw [List.length_append, List.length_cons]
    have a := below_len (g := k / 4 ^ ls.length % 4) (x := x) (y := y) (s := s) (l := lv) (c := 0)
    split
    · rename_i p _
      have b := cells_len (k := k) (ls := ls) (x := p.1) (y := p.2) (s := s + 1) fun l hl => hp l (List.mem_cons_of_mem _ hl)
      omega
    · rw [List.length_nil]; omega
theorem cellsOf_len {k : Int} {ls : List (List Int)} (hl : ls.length ≤ 50) (hp : ∀ l ∈ ls, l.Perm [0, 1, 2, 3]) : (cellsOf k ls).length ≤ 200 := by
  unfold cellsOf
  split
  · simp
  · have := cells_len (k := k) (x := 0) (y := 0) (s := 0) hp
    omega
/-- THE COUNT -/
def cnt (ls : List (List Int)) (k l t w h : Int) : Int := ((cellsOf k ls).map (pwi l t w h)).sum
theorem count_of_i (ls : List (List Int)) (hl : ls.length ≤ 50) (hp : ∀ l ∈ ls, l.Perm [0, 1, 2, 3]) {k l t w h : Int} (hw : WinOk l t w h) (st : Store) :
    s_count_of [.p (.tup (lvD ls)), .p (.int k), .p (winD l t w h)] st = .ok (.val (.int (cnt ls k l t w h))) st := by
  have hlen := cellsOf_len (k := k) hl hp
  unfold s_count_of b_count_of
  simp! [cells_below_i ls hl hp k]
  rw [lcL_mapf (g := fun c => D.int (pwi l t w h c)) (by simp! []) _ _ (fun c hc => by
    have ok := (cellsOf_ok hl hp c hc).mono hl
    unfold cD
    simp! [places_with_i hw ok]) (by rw [List.length_nil]; omega)]
  simp! []
  rw [lcFin_ok (by rw [List.length_map]; omega)]
  have e : (cellsOf k ls).map (fun c => D.int (pwi l t w h c)) = ((cellsOf k ls).map (pwi l t w h)).map D.int := by rw [List.map_map]; rfl
  simp! [e, cnt]
theorem dots_in_i (ls : List (List Int)) (hl : ls.length ≤ 50) (hp : ∀ l ∈ ls, l.Perm [0, 1, 2, 3]) {k l t w h : Int} (hw : WinOk l t w h) (st : Store) :
    s_dots_in [.p (.scr (lvD ls)), .p (.int k), .p (winD l t w h)] st = .ok (.val (.int (cnt ls k l t w h))) st := by
  unfold s_dots_in b_dots_in
  simp! [count_of_i ls hl hp hw]
theorem dot_count_i (ls : List (List Int)) (hl : ls.length ≤ 50) (hp : ∀ l ∈ ls, l.Perm [0, 1, 2, 3]) {k l t w h : Int} (h0 : 0 ≤ k) (h1 : k ≤ 4 ^ ls.length) (hw : WinOk l t w h) (st : Store) :
    s_dot_count [.p (.scr (lvD ls)), .p (.int k), .p (winD l t w h)] st = .ok (.val (.int (cnt ls k l t w h))) st := by
  unfold s_dot_count b_dot_count
  simp! [require_screen_ok, require_shade_ok ls hl k h0 h1, require_window_ok hw, dots_in_i ls hl hp hw]
end Lib

set_option Elab.async false
set_option linter.all false
set_option maxRecDepth 100000
namespace Lib
open PySem PySem.Spec PyProof.Rows L2 Dd
/-- the sum of what stands at the cells -/
def csum (l t w h : Int) (cs : List (Int × Int × Nat)) : Int := (cs.map (pwi l t w h)).sum
theorem csum_app {l t w h : Int} (a b : List (Int × Int × Nat)) : csum l t w h (a ++ b) = csum l t w h a + csum l t w h b := by
  unfold csum; rw [List.map_append, List.sum_append]
def fs (g x y : Int) (s : Nat) (F : Int × Int → Int) : Nat → List Int → Int
  | _, [] => 0
  | c, n :: r => (if n = g then F (pl c x y s) else 0) + fs g x y s F (c + 1) r
theorem fs_no {g x y : Int} {s : Nat} {F : Int × Int → Int} : ∀ {l : List Int} {c : Nat}, g ∉ l → fs g x y s F c l = 0
  | [], c, h => rfl
  | n :: r, c, h => by
    have h1 : ¬ n = g := fun e => h (by rw [e]; exact List.mem_cons_self)
    have h2 : g ∉ r := fun e => h (List.mem_cons_of_mem _ e)
    simp only [fs, if_neg h1, fs_no h2, Int.zero_add]
def oF (F : Int × Int → Int) : Option (Int × Int) → Int
  | some p => F p
  | none => 0
theorem fs_furth {g x y : Int} {s : Nat} {F : Int × Int → Int} : ∀ {l : List Int} {c : Nat} {o : Option (Int × Int)}, l.Nodup → oF F (furth g x y s c l o) = if g ∈ l then fs g x y s F c l else oF F o
  | [], c, o, h => by simp [furth]
  | n :: r, c, o, h => by
    have hr := (List.nodup_cons.mp h)
    unfold furth
    rw [fs_furth hr.2]
    by_cases e : n = g
    · subst e
      rw [if_neg hr.1, if_pos List.mem_cons_self]
      simp only [fs, if_true, fs_no hr.1, Int.add_zero, oF]
    · by_cases q : g ∈ r
      · rw [if_pos q, if_pos (List.mem_cons_of_mem _ q)]
        simp only [fs, if_neg e, Int.zero_add]
      · have : ¬ g ∈ n :: r := fun z => by
          rcases List.mem_cons.mp z with z | z
          · exact e z.symm
          · exact q z
        rw [if_neg q, if_neg this, if_neg e]
def bs (g x y : Int) (s : Nat) (F : Int × Int → Int) : Nat → List Int → Int
  | _, [] => 0
  | c, n :: r => (if n < g then F (pl c x y s) else 0) + bs g x y s F (c + 1) r
theorem csum_below {g x y l t w h : Int} {s : Nat} : ∀ {lv : List Int} {c : Nat}, csum l t w h (below g x y s c lv) = bs g x y s (fun p => pwi l t w h (p.1, p.2, s + 1)) c lv
  | [], c => rfl
  | n :: r, c => by
    unfold below bs
    by_cases e : n < g
    · rw [if_pos e, if_pos e]
      show csum l t w h ([((pl c x y s).1, (pl c x y s).2, s + 1)] ++ below g x y s (c + 1) r) = _
      rw [csum_app, csum_below]
      simp [csum]
    · rw [if_neg e, if_neg e, csum_below, Int.zero_add]
theorem nodup4 {l : List Int} (h : l.Perm [0, 1, 2, 3]) : l.Nodup := h.nodup_iff.mpr (by decide)
theorem csum_cells {k l t w h x y : Int} {s : Nat} {lv : List Int} {r : List (List Int)} (hp : lv.Perm [0, 1, 2, 3]) :
    csum l t w h (cells k (lv :: r) x y s) = bs (k / 4 ^ r.length % 4) x y s (fun p => pwi l t w h (p.1, p.2, s + 1)) 0 lv + fs (k / 4 ^ r.length % 4) x y s (fun p => csum l t w h (cells k r p.1 p.2 (s + 1))) 0 lv := by
  rw [cells, csum_app, csum_below]
  congr 1
  have e := fs_furth (g := k / 4 ^ r.length % 4) (x := x) (y := y) (s := s) (F := fun p => csum l t w h (cells k r p.1 p.2 (s + 1))) (c := 0) (o := none) (nodup4 hp)
  rw [if_pos (digit_mem hp)] at e
  rw [← e]
  cases furth (k / 4 ^ r.length % 4) x y s 0 lv none <;> rfl
theorem cells_congr {k k' : Int} : ∀ {r : List (List Int)} {x y : Int} {s : Nat}, (∀ j, j < r.length → k / 4 ^ j % 4 = k' / 4 ^ j % 4) → cells k r x y s = cells k' r x y s
  | [], x, y, s, h => rfl
  | lv :: r, x, y, s, h => by
    rw [cells, cells, h r.length (by rw [List.length_cons]; omega)]
    congr 1
    cases furth (k' / 4 ^ r.length % 4) x y s 0 lv none with
    | none => rfl
    | some p => exact cells_congr fun j hj => h j (by rw [List.length_cons]; omega)
theorem four_pos (n : Nat) : (0 : Int) < 4 ^ n := Int.pow_pos (by decide)
theorem digit_mod {k : Int} {n j : Nat} (hj : j < n) : (k - k / 4 ^ n * 4 ^ n) / 4 ^ j % 4 = k / 4 ^ j % 4 := by
  obtain ⟨m, rfl⟩ : ∃ m, n = j + (m + 1) := ⟨n - j - 1, by omega⟩
  have e : k / 4 ^ (j + (m + 1)) * 4 ^ (j + (m + 1)) = (4 * (k / 4 ^ (j + (m + 1)) * 4 ^ m)) * 4 ^ j := by
    rw [show (4 : Int) ^ (j + (m + 1)) = 4 ^ j * (4 * 4 ^ m) by rw [Int.pow_add, Int.pow_succ, Int.mul_comm 4]]
    generalize k / (4 ^ j * (4 * 4 ^ m)) = q
    simp only [Int.mul_comm, Int.mul_left_comm]
  rw [e, Int.sub_mul_ediv_right _ _ (Int.ne_of_gt (four_pos j))]
  omega
/-! one bit further -/
def LO (f r : Int) (s : Nat) : Int := (f - 1 - r) / 2 ^ s + 1
theorem two_pos (s : Nat) : (0 : Int) < 2 ^ s := Int.pow_pos (by decide)
theorem div_succ (a b : Int) (s : Nat) : (a - b * 2 ^ s) / 2 ^ (s + 1) = (a / 2 ^ s - b) / 2 := by
  rw [Int.pow_succ, ← Int.ediv_ediv_of_nonneg (Int.le_of_lt (two_pos s)), Int.sub_mul_ediv_right _ _ (Int.ne_of_gt (two_pos s))]
theorem resi_succ (f m r b : Int) (s : Nat) : resi f m (r + b * 2 ^ s) (s + 1) = resi (LO f r s) (resi f m r s) b 1 := by
  unfold resi LO
  rw [show f + m - 1 - (r + b * 2 ^ s) = (f + m - 1 - r) - b * 2 ^ s by omega, show f - 1 - (r + b * 2 ^ s) = (f - 1 - r) - b * 2 ^ s by omega, div_succ, div_succ]
  generalize (f + m - 1 - r) / 2 ^ s = A
  generalize (f - 1 - r) / 2 ^ s = B
  rw [Int.pow_one] <;> omega
theorem LO_succ (f r b : Int) (s : Nat) : LO f (r + b * 2 ^ s) (s + 1) = LO (LO f r s) b 1 := by
  unfold LO
  rw [show f - 1 - (r + b * 2 ^ s) = (f - 1 - r) - b * 2 ^ s by omega, div_succ]
  generalize (f - 1 - r) / 2 ^ s = B
  rw [Int.pow_one] <;> omega
theorem resi_0 (f r : Int) (s : Nat) : resi f 0 r s = 0 := by
  unfold resi
  rw [show f + 0 - 1 - r = f - 1 - r by omega, Int.sub_self]
theorem resi_nn {f m r : Int} {s : Nat} (h : 0 ≤ m) : 0 ≤ resi f m r s := by
  unfold resi
  have := Int.ediv_le_ediv (two_pos s) (show f - 1 - r ≤ f + m - 1 - r by omega)
  omega
theorem resi_both (f m : Int) : resi f m 0 1 + resi f m 1 1 = m := by
  unfold resi; rw [Int.pow_one]; omega
theorem resi_one (f m : Int) : resi f m 0 0 = m := by
  unfold resi; rw [Int.pow_zero]; omega
theorem LO_one (f : Int) : LO f 0 0 = f := by
  unfold LO; rw [Int.pow_zero]; omega
theorem resi_add (f m n r : Int) (s : Nat) : resi f m r s + resi (f + m) n r s = resi f (m + n) r s := by
  unfold resi
  rw [show f + m + n - 1 - r = f + (m + n) - 1 - r by omega, show f + m - 1 - r = f + m - 1 - r from rfl]
  omega
theorem resi_shift (f m r q : Int) {s n : Nat} (h : s ≤ n) : resi (f + q * 2 ^ n) m r s = resi f m r s := by
  obtain ⟨d, rfl⟩ : ∃ d, n = d + s := ⟨n - s, by omega⟩
  unfold resi
  rw [show f + q * 2 ^ (d + s) + m - 1 - r = (f + m - 1 - r) + q * 2 ^ (d + s) by omega, show f + q * 2 ^ (d + s) - 1 - r = (f - 1 - r) + q * 2 ^ (d + s) by omega, Int.pow_add, ← Int.mul_assoc, Int.add_mul_ediv_right _ _ (Int.ne_of_gt (two_pos s)), Int.add_mul_ediv_right _ _ (Int.ne_of_gt (two_pos s))]
  omega
theorem resi_whole (f r q : Int) {s n : Nat} (h : s ≤ n) : resi f (q * 2 ^ n) r s = q * 2 ^ (n - s) := by
  obtain ⟨d, rfl⟩ : ∃ d, n = d + s := ⟨n - s, by omega⟩
  unfold resi
  rw [show f + q * 2 ^ (d + s) - 1 - r = (f - 1 - r) + q * 2 ^ (d + s) by omega, Int.pow_add, ← Int.mul_assoc, Int.add_mul_ediv_right _ _ (Int.ne_of_gt (two_pos s)), show d + s - s = d by omega]
  omega
end Lib


set_option Elab.async false
set_option linter.all false
set_option maxRecDepth 100000
set_option exponentiation.threshold 2000
namespace Lib
open PySem PySem.Spec PyProof.Rows L2 Dd
/-- the bag of a script's cell: at n, no more than C draws out of it -/
def Bag (st : Store) (n C : Nat) : Prop := ∃ a b c : Int, st[n]? = some (.mu (.lst [.int a, .int b, .int c])) ∧ 0 ≤ c ∧ c ≤ C
theorem Bag.lt {st : Store} {n C : Nat} (h : Bag st n C) : n < st.length := by obtain ⟨a, b, c, e, _⟩ := h; exact (List.getElem?_eq_some_iff.mp e).1
theorem Bag.app {st l : Store} {n C : Nat} (h : Bag st n C) : Bag (st ++ l) n C := by obtain ⟨a, b, c, e, k⟩ := h; exact ⟨a, b, c, get_old e, k⟩
theorem Bag.mono {st : Store} {n C C' : Nat} (h : Bag st n C) (k : C ≤ C') : Bag st n C' := by obtain ⟨a, b, c, e, k1, k2⟩ := h; exact ⟨a, b, c, e, k1, by omega⟩
theorem bag_i (i : Int) (st : Store) : s_z_law_bag [.p (.int i)] st = .ok (.new (.lst [.int (max 0 (i - 1000000000000000000)), .int i, .int 0])) st := by
  unfold s_z_law_bag b_z_law_bag
  simp! [opPow_i (i := 10) (j := 18) (by decide)]
  rw [finishR_mu (o := .lst [.int (max 0 (i - 1000000000000000000)), .int i, .int 0]) get_app0 (Nat.le_refl _), take_app]
theorem pick_ok {st : Store} {n C : Nat} {m : Int} (hb : Bag st n C) (hC : C ≤ 1000000) (h0 : 0 < m) (h1 : m < 2 ^ 200) :
    ∃ v cell, s_z_law_pick [.r n, .p (.int m)] st = .ok (.val (.int v)) (st.set n cell) ∧ 0 ≤ v ∧ v < m ∧ Bag (st.set n cell) n (C + 1) := by
  obtain ⟨a, b, c, e, c0, c1⟩ := hb
  have hn := (List.getElem?_eq_some_iff.mp e).1
  have hs : ∀ x : Cell, (st.set n x)[n]? = some x := fun x => List.getElem?_set_self hn
  have dm : CDivW a m := cdivw h0 (Int.lt_of_lt_of_le h1 (by decide))
  by_cases ha : 0 < a
  · refine ⟨a % m, .mu (.lst [.int (a / m), .int b, .int (c + 1)]), ?_, Int.emod_nonneg _ (by omega), Int.emod_lt_of_pos _ h0, ⟨a / m, b, c + 1, hs _, by omega, by omega⟩⟩
    unfold s_z_law_pick b_z_law_pick
    simp! [e, hs, ha, opMod_i h0, opDiv_i dm, List.set_set]
  · have f1 : 0 < (2147483629 : Int) := by decide
    have x0 := Int.emod_nonneg b (b := 2147483629) (by decide)
    have x1 := Int.emod_lt_of_pos b f1
    have m1 : CMulW (b % 2147483629) 48271 := cmulw (Bt.of (n := 40) (by omega)) (Bt.of (n := 40) (by omega))
    have m2 : CMulW (c + 1) 69621 := cmulw (Bt.of (n := 40) (by omega)) (Bt.of (n := 40) (by omega))
    generalize hf : (b % 2147483629 * 48271 + (c + 1) * 69621 + 12345) % 2147483647 = f
    have f0 : 0 ≤ f := hf ▸ Int.emod_nonneg _ (by decide)
    have f2 : f < 2147483647 := hf ▸ Int.emod_lt_of_pos _ (by decide)
    have m3 : CMulW f f := cmulw (Bt.of (n := 40) (by omega)) (Bt.of (n := 40) (by omega))
    have m4 : CMulW (c + 1) 40692 := cmulw (Bt.of (n := 40) (by omega)) (Bt.of (n := 40) (by omega))
    generalize hg : (f * f + (c + 1) * 40692) % 2147483587 = g
    have g0 : 0 ≤ g := hg ▸ Int.emod_nonneg _ (by decide)
    have g1 : g < 2147483587 := hg ▸ Int.emod_lt_of_pos _ (by decide)
    have m5 : CMulW f 2147483587 := cmulw (Bt.of (n := 40) (by omega)) (Bt.of (n := 40) (by omega))
    generalize hd : (f * 2147483587 + g) / 32 = d
    have d0 : 0 ≤ d ∧ d < 2 ^ 60 := by omega
    have m6 : CPowW d 8 := cpoww (Bt.of (n := 60) (by omega)) (by decide) (by decide)
    refine ⟨(if 1000000000000000 < m then d ^ 8 + g else d) % m, .mu (.lst [.int a, .int b, .int (c + 1)]), ?_, Int.emod_nonneg _ (by omega), Int.emod_lt_of_pos _ h0, ⟨a, b, c + 1, hs _, by omega, by omega⟩⟩
    unfold s_z_law_pick b_z_law_pick
    simp! [e, hs, ha, opMod_i h0, opMul_i m1, opMul_i m2, opMul_i m3, opMul_i m4, opMul_i m5, hf, hg, hd, opDiv_i (cdivw (i := f * 2147483587 + g) (j := 32) (by decide) (by decide)), opPow_i (i := 10) (j := 15) (by decide), opPow_i m6]
    split <;> rfl
/-- a bag's cell -/
def BagC (c : Cell) (C : Nat) : Prop := ∃ a b k : Int, c = .mu (.lst [.int a, .int b, .int k]) ∧ 0 ≤ k ∧ k ≤ C
/-- F draws from the bag at n and answers a value of P -/
def Dr (B : Cell → Nat → Prop) (F : Fn) (xs : Nat → List R) (P : D → Prop) (k : Nat) : Prop := ∀ (st : Store) (n : Nat) (c : Cell) (C : Nat), n < st.length → B c C → C + k ≤ 1000000 → ∃ v c', F (xs n) (st.set n c) = .ok (.val v) (st.set n c') ∧ P v ∧ B c' (C + k)
def DrL (B : Cell → Nat → Prop) (F : Fn) (xs : Nat → List R) (P : List D → Prop) (k : Nat) : Prop := ∀ (st : Store) (n : Nat) (c : Cell) (C : Nat), n < st.length → B c C → C + k ≤ 1000000 → ∃ v c', F (xs n) (st.set n c) = .ok (.new (.lst v)) (st.set n c') ∧ P v ∧ B c' (C + k)
abbrev Draws := Dr BagC
abbrev DrawsL := DrL BagC
theorem Dr.a {BagC : Cell → Nat → Prop} {F : Fn} {xs : Nat → List R} {P : D → Prop} {k : Nat} (h : Dr BagC F xs P k) (l : Store) {st : Store} {n : Nat} {c : Cell} {C : Nat} (hn : n < st.length) (hb : BagC c C) (hC : C + k ≤ 1000000) :
    ∃ v c', F (xs n) (st.set n c ++ l) = .ok (.val v) (st.set n c' ++ l) ∧ P v ∧ BagC c' (C + k) := by
  obtain ⟨v, c', e, p, b⟩ := h (st ++ l) n c C (by rw [List.length_append]; omega) hb hC
  rw [set_old hn, set_old hn] at e
  exact ⟨v, c', e, p, b⟩
theorem DrL.a {BagC : Cell → Nat → Prop} {F : Fn} {xs : Nat → List R} {P : List D → Prop} {k : Nat} (h : DrL BagC F xs P k) (l : Store) {st : Store} {n : Nat} {c : Cell} {C : Nat} (hn : n < st.length) (hb : BagC c C) (hC : C + k ≤ 1000000) :
    ∃ v c', F (xs n) (st.set n c ++ l) = .ok (.new (.lst v)) (st.set n c' ++ l) ∧ P v ∧ BagC c' (C + k) := by
  obtain ⟨v, c', e, p, b⟩ := h (st ++ l) n c C (by rw [List.length_append]; omega) hb hC
  rw [set_old hn, set_old hn] at e
  exact ⟨v, c', e, p, b⟩
theorem Dr.mono {B : Cell → Nat → Prop} {F : Fn} {xs : Nat → List R} {P Q : D → Prop} {k k' : Nat} (h : Dr B F xs P k) (hB : ∀ c n m, n ≤ m → B c n → B c m) (hk : k ≤ k') (hP : ∀ v, P v → Q v) : Dr B F xs Q k' := by
  intro st n c C hn hb hC
  obtain ⟨v, c', e, p, b⟩ := h st n c C hn hb (by omega)
  exact ⟨v, c', e, hP v p, hB _ _ _ (by omega) b⟩
/-- a draw, behind it -/
theorem wp_draw {B : Cell → Nat → Prop} {F : Fn} {xs : Nat → List R} {P : D → Prop} {k : Nat} (h : Dr B F xs P k) {sl : List (Option R)} {st l : Store} {n : Nat} {c : Cell} {C : Nat} {Q : R → Sg → Prop} (hn : n < st.length) (hb : B c C) (hC : C + k ≤ 1000000)
    (q : ∀ v c', P v → B c' (C + k) → Q (.p v) ⟨sl, st.set n c' ++ l⟩) : Wp (applyF ⟨sl, st.set n c ++ l⟩ (F (xs n) (st.set n c ++ l))) Q := by
  obtain ⟨v, c', e, p, b⟩ := h.a l hn hb hC
  rw [e]; exact ⟨_, _, rfl, q v c' p b⟩
theorem wp_draw0 {B : Cell → Nat → Prop} {F : Fn} {xs : Nat → List R} {P : D → Prop} {k : Nat} (h : Dr B F xs P k) {sl : List (Option R)} {st : Store} {n : Nat} {c : Cell} {C : Nat} {Q : R → Sg → Prop} (hn : n < st.length) (hb : B c C) (hC : C + k ≤ 1000000)
    (q : ∀ v c', P v → B c' (C + k) → Q (.p v) ⟨sl, st.set n c'⟩) : Wp (applyF ⟨sl, st.set n c⟩ (F (xs n) (st.set n c))) Q := by
  obtain ⟨v, c', e, p, b⟩ := h st n c C hn hb hC
  rw [e]; exact ⟨_, _, rfl, q v c' p b⟩
theorem wp_drawL {B : Cell → Nat → Prop} {F : Fn} {xs : Nat → List R} {P : List D → Prop} {k : Nat} (h : DrL B F xs P k) {sl : List (Option R)} {st l : Store} {n : Nat} {c : Cell} {C : Nat} {Q : R → Sg → Prop} (hn : n < st.length) (hb : B c C) (hC : C + k ≤ 1000000)
    (q : ∀ v c', P v → B c' (C + k) → Q (.r (st.length + l.length)) ⟨sl, st.set n c' ++ (l ++ [.mu (.lst v)])⟩) : Wp (applyF ⟨sl, st.set n c ++ l⟩ (F (xs n) (st.set n c ++ l))) Q := by
  obtain ⟨v, c', e, p, b⟩ := h.a l hn hb hC
  rw [e]
  refine ⟨_, _, rfl, ?_⟩
  have := q v c' p b
  rw [show (st.set n c' ++ l).length = st.length + l.length by simp, List.append_assoc]
  exact this
theorem wp_drawL0 {B : Cell → Nat → Prop} {F : Fn} {xs : Nat → List R} {P : List D → Prop} {k : Nat} (h : DrL B F xs P k) {sl : List (Option R)} {st : Store} {n : Nat} {c : Cell} {C : Nat} {Q : R → Sg → Prop} (hn : n < st.length) (hb : B c C) (hC : C + k ≤ 1000000)
    (q : ∀ v c', P v → B c' (C + k) → Q (.r st.length) ⟨sl, st.set n c' ++ [.mu (.lst v)]⟩) : Wp (applyF ⟨sl, st.set n c⟩ (F (xs n) (st.set n c))) Q := by
  obtain ⟨v, c', e, p, b⟩ := h st n c C hn hb hC
  rw [e]
  refine ⟨_, _, rfl, ?_⟩
  have := q v c' p b
  rw [show (st.set n c').length = st.length by simp]
  exact this
theorem dr_of {B : Cell → Nat → Prop} {F : Fn} {xs : Nat → List R} {P : D → Prop} {k : Nat} (h : ∀ (st : Store) (n : Nat) (c : Cell) (C : Nat), n < st.length → B c C → C + k ≤ 1000000 → WpF (F (xs n) (st.set n c)) fun a st' => ∃ v c', a = .val v ∧ st' = st.set n c' ∧ P v ∧ B c' (C + k)) : Dr B F xs P k := by
  intro st n c C hn hb hC
  obtain ⟨_, _, e, v, c', rfl, rfl, p, b⟩ := h st n c C hn hb hC
  exact ⟨v, c', e, p, b⟩
theorem drL_of {B : Cell → Nat → Prop} {F : Fn} {xs : Nat → List R} {P : List D → Prop} {k : Nat} (h : ∀ (st : Store) (n : Nat) (c : Cell) (C : Nat), n < st.length → B c C → C + k ≤ 1000000 → WpF (F (xs n) (st.set n c)) fun a st' => ∃ v c', a = .new (.lst v) ∧ st' = st.set n c' ∧ P v ∧ B c' (C + k)) : DrL B F xs P k := by
  intro st n c C hn hb hC
  obtain ⟨_, _, e, v, c', rfl, rfl, p, b⟩ := h st n c C hn hb hC
  exact ⟨v, c', e, p, b⟩
def InR (lo hi : Int) : D → Prop := fun v => ∃ z, v = .int z ∧ lo ≤ z ∧ z < hi
theorem pick_d {m : Int} (h0 : 0 < m) (h1 : m < 2 ^ 200) : Draws s_z_law_pick (fun n => [.r n, .p (.int m)]) (InR 0 m) 1 := by
  intro st n c C hn hb hC
  obtain ⟨a, b, k, rfl, k0, k1⟩ := hb
  obtain ⟨v, cell, e, v0, v1, a', b', k', e', q0, q1⟩ := pick_ok (st := st.set n (.mu (.lst [.int a, .int b, .int k]))) (n := n) (C := C) (m := m) ⟨a, b, k, List.getElem?_set_self hn, k0, k1⟩ (by omega) h0 h1
  rw [List.set_set] at e e'
  rw [List.getElem?_set_self hn] at e'
  cases e'
  exact ⟨_, _, e, ⟨v, rfl, v0, v1⟩, a', b', k', rfl, q0, q1⟩
theorem near_d {p : Int} (h0 : 1 ≤ p) (h1 : p ≤ 2 ^ 50) : Draws s_z_law_near (fun n => [.r n, .p (.int p)]) (InR (-(1000000000000000000000000000000 : Int)) ((1000000000000000000000000000000 : Int) + 1)) 5 := by
  intro st n c C hn hb hC
  obtain ⟨_, c1, e1, ⟨v1, rfl, a1, b1⟩, B1⟩ := pick_d (m := 40) (by decide) (by decide) st n c C hn hb (by omega)
  obtain ⟨_, c2, e2, ⟨v2, rfl, a2, b2⟩, B2⟩ := pick_d (m := 9) (by decide) (by decide) st n c1 _ hn B1 (by omega)
  obtain ⟨_, c3, e3, ⟨v3, rfl, a3, b3⟩, B3⟩ := pick_d (m := 5) (by decide) (by decide) st n c2 _ hn B2 (by omega)
  have m1 : CMulW p (v2 - 4) := cmulw (Bt.of (n := 60) (by omega)) (Bt.of (n := 60) (by omega))
  obtain ⟨_, c4, e4, ⟨v4, rfl, a4, b4⟩, B4⟩ := (pick_d (m := 2000000000000000000000000000001) (by decide) (by decide)).a [.mu (.lst [.int (v1 - 20), .int (p * (v2 - 4) + v3 - 2)])] hn B3 (by omega)
  obtain ⟨_, c5, e5, ⟨v5, rfl, a5, b5⟩, B5⟩ := (pick_d (m := 3) (by decide) (by decide)).a [.mu (.lst [.int (v1 - 20), .int (p * (v2 - 4) + v3 - 2), .int (v4 - (1000000000000000000000000000000 : Int))])] hn B4 (by omega)
  have p30 : CPowW 10 30 := by decide
  have m2 : CMulW 2 1000000000000000000000000000000 := by decide
  have h3 : v5 = 0 ∨ v5 = 1 ∨ v5 = 2 := by omega
  rcases h3 with rfl | rfl | rfl
  · refine ⟨.int (min (1000000000000000000000000000000 : Int) (max (-(1000000000000000000000000000000 : Int)) (v1 - 20))), c5, ?_, ⟨_, rfl, by omega, by omega⟩, B5⟩
    unfold s_z_law_near b_z_law_near
    simp! [e1, e2, e3, opMul_i m1, opPow_i p30, opMul_i m2, e4, e5]
  · refine ⟨.int (min (1000000000000000000000000000000 : Int) (max (-(1000000000000000000000000000000 : Int)) (p * (v2 - 4) + v3 - 2))), c5, ?_, ⟨_, rfl, by omega, by omega⟩, B5⟩
    unfold s_z_law_near b_z_law_near
    simp! [e1, e2, e3, opMul_i m1, opPow_i p30, opMul_i m2, e4, e5]
  · refine ⟨.int (min (1000000000000000000000000000000 : Int) (max (-(1000000000000000000000000000000 : Int)) (v4 - (1000000000000000000000000000000 : Int)))), c5, ?_, ⟨_, rfl, by omega, by omega⟩, B5⟩
    unfold s_z_law_near b_z_law_near
    simp! [e1, e2, e3, opMul_i m1, opPow_i p30, opMul_i m2, e4, e5]
noncomputable def winB : D → M Fl := fun d => gN 4 d >>= fun _ => (sSq (sSet 5 (lstE (aC (bin opAdd (ci 1) (callM s_z_law_pick 2 (aC (vr 0) (aC (vr 2) aN)))) (aC (bin opSub (bin opAdd (bin opShl (ci 1) (callM s_z_law_pick 2 (aC (vr 0) (aC (ci 99) aN)))) (callM s_z_law_pick 2 (aC (vr 0) (aC (ci 3) aN)))) (ci 1)) aN))))
    (sSq (sEx (methM isLst opApp (vr 5) (aC (bin opAdd (ci 1) (callM s_z_law_pick 2 (aC (vr 0) (aC (bin opPow (ci 10) (ci 30)) aN)))) aN)))
    (sEx (methM isLst opApp (vr 3) (aC (opA opMax2 (aC (ci 1) (aC (bin opIx (vr 5) (callM s_z_law_pick 2 (aC (vr 0) (aC (ci 3) aN)))) aN))) aN)))))
theorem pow_lt_99 {v : Int} (h0 : 0 ≤ v) (h1 : v < 99) : 1 ≤ (2 : Int) ^ v.toNat ∧ (2 : Int) ^ v.toNat ≤ 2 ^ 98 := ⟨Int.pow_pos (by decide), pow_bd (by omega)⟩
theorem win_turn {st : Store} {n : Nat} {c : Cell} {C : Nat} (hn : n < st.length) (hb : BagC c C) (hC : C + 5 ≤ 1000000) {p most : Int} (h0 : 1 ≤ most) (h1 : most ≤ (1000000000000000000000000000000 : Int)) (acc : List D) (ha : acc.length < 10) (rest : Store) (d : D) (j4 j5 : Option R) :
    ∃ z c' q, winB d ⟨[some (.r n), some (.p (.int p)), some (.p (.int most)), some (.r st.length), j4, j5], st.set n c ++ (.mu (.lst acc) :: rest)⟩ =
      .ok .nx ⟨[some (.r n), some (.p (.int p)), some (.p (.int most)), some (.r st.length), some (.p d), some (.r (st.length + (rest.length + 1)))], st.set n c' ++ (.mu (.lst (acc ++ [.int z])) :: (rest ++ [q]))⟩ ∧ 1 ≤ z ∧ z ≤ (1000000000000000000000000000000 : Int) ∧ BagC c' (C + 5) := by
  obtain ⟨_, c1, e1, ⟨v1, rfl, a1, b1⟩, B1⟩ := (pick_d (m := most) (by omega) (Int.lt_of_le_of_lt h1 (by decide))).a (.mu (.lst acc) :: rest) hn hb (by omega)
  obtain ⟨_, c2, e2, ⟨v2, rfl, a2, b2⟩, B2⟩ := (pick_d (m := 99) (by decide) (by decide)).a (.mu (.lst acc) :: rest) hn B1 (by omega)
  obtain ⟨_, c3, e3, ⟨v3, rfl, a3, b3⟩, B3⟩ := (pick_d (m := 3) (by decide) (by decide)).a (.mu (.lst acc) :: rest) hn B2 (by omega)
  obtain ⟨p1, p2⟩ := pow_lt_99 a2 b2
  obtain ⟨_, c4, e4, ⟨v4, rfl, a4, b4⟩, B4⟩ := (pick_d (m := (1000000000000000000000000000000 : Int)) (by decide) (by decide)).a (.mu (.lst acc) :: (rest ++ [.mu (.lst [.int (1 + v1), .int (1 * 2 ^ v2.toNat + v3 - 1)])])) hn B3 (by omega)
  obtain ⟨_, c5, e5, ⟨v5, rfl, a5, b5⟩, B5⟩ := (pick_d (m := 3) (by decide) (by decide)).a (.mu (.lst acc) :: (rest ++ [.mu (.lst [.int (1 + v1), .int (1 * 2 ^ v2.toNat + v3 - 1), .int (1 + v4)])])) hn B4 (by omega)
  have p30 : CPowW 10 30 := by decide
  have sh : CShl 1 v2 := cshl1 a2 (by omega)
  have h3 : v5 = 0 ∨ v5 = 1 ∨ v5 = 2 := by omega
  rcases h3 with rfl | rfl | rfl
  · refine ⟨max 1 (1 + v1), c5, .mu (.lst [.int (1 + v1), .int (1 * 2 ^ v2.toNat + v3 - 1), .int (1 + v4)]), ?_, by omega, by omega, B5⟩
    unfold winB
    rw [bind_bnd]
    simp! [e1, e2, e3, opShl_i sh, opPow_i p30, e4, e5, appK_ap (show acc.length < 1000000 by omega)]
  · refine ⟨max 1 (1 * 2 ^ v2.toNat + v3 - 1), c5, .mu (.lst [.int (1 + v1), .int (1 * 2 ^ v2.toNat + v3 - 1), .int (1 + v4)]), ?_, by omega, by omega, B5⟩
    unfold winB
    rw [bind_bnd]
    simp! [e1, e2, e3, opShl_i sh, opPow_i p30, e4, e5, appK_ap (show acc.length < 1000000 by omega)]
  · refine ⟨max 1 (1 + v4), c5, .mu (.lst [.int (1 + v1), .int (1 * 2 ^ v2.toNat + v3 - 1), .int (1 + v4)]), ?_, by omega, by omega, B5⟩
    unfold winB
    rw [bind_bnd]
    simp! [e1, e2, e3, opShl_i sh, opPow_i p30, e4, e5, appK_ap (show acc.length < 1000000 by omega)]
theorem window_d {p most : Int} (h0 : 1 ≤ p) (h1 : p ≤ 2 ^ 50) (h2 : 1 ≤ most) (h3 : most ≤ (1000000000000000000000000000000 : Int)) : Draws s_z_law_window (fun n => [.r n, .p (.int p), .p (.int most)]) (fun v => ∃ l t w h, v = winD l t w h ∧ WinOk l t w h) 20 := by
  intro st n c C hn hb hC
  obtain ⟨z1, c1, q1, e1, a1, b1, B1⟩ := win_turn (p := p) hn hb (by omega) h2 h3 [] (by decide) [] (.int 0) none none
  obtain ⟨z2, c2, q2, e2, a2, b2, B2⟩ := win_turn (p := p) hn B1 (by omega) h2 h3 [.int z1] (by simp) [q1] (.int 1) (some (.p (.int 0))) (some (.r (st.length + (0 + 1))))
  obtain ⟨_, c3, e3, ⟨x, rfl, a3, b3⟩, B3⟩ := (near_d h0 h1).a [.mu (.lst [.int z1, .int z2]), q1, q2] hn B2 (by omega)
  obtain ⟨_, c4, e4, ⟨y, rfl, a4, b4⟩, B4⟩ := (near_d h0 h1).a [.mu (.lst [.int z1, .int z2]), q1, q2] hn B3 (by omega)
  refine ⟨_, c4, ?_, ⟨x, y, z1, z2, rfl, by omega, by omega, by omega, by omega, a1, b1, a2, b2⟩, B4⟩
  unfold s_z_law_window b_z_law_window
  simp! []
  rw [loop_cons (by trivial)]
  have e1' := e1
  unfold winB at e1'
  simp only [List.length_nil, List.nil_append] at e1'
  rw [e1', bnd_ok]
  show Dd.finish _ (((loopL _ _ _ _).bnd _)) = _
  rw [loop_cons (by trivial)]
  have e2' := e2
  unfold winB at e2'
  simp only [List.length_cons, List.length_nil, List.cons_append, List.nil_append] at e2'
  rw [e2', bnd_ok]
  show Dd.finish _ (((loopL _ _ _ _).bnd _)) = _
  rw [loop_nil (by trivial)]
  simp! [e3, e4]
  rfl
theorem ix2 {a b i : Int} (h0 : 0 ≤ i) (h1 : i < 2) : ∃ z, (∀ S, ixK [.int a, .int b] i S = .ok (.p (.int z)) S) ∧ (z = a ∨ z = b) := by
  have h : i = 0 ∨ i = 1 := by omega
  rcases h with rfl | rfl
  · exact ⟨a, fun S => ixK_0, .inl rfl⟩
  · exact ⟨b, fun S => ixK_1, .inr rfl⟩
theorem ix3 {a b c i : Int} (h0 : 0 ≤ i) (h1 : i < 3) : ∃ z, (∀ S, ixK [.int a, .int b, .int c] i S = .ok (.p (.int z)) S) ∧ (z = a ∨ z = b ∨ z = c) := by
  have h : i = 0 ∨ i = 1 ∨ i = 2 := by omega
  rcases h with rfl | rfl | rfl
  · exact ⟨a, fun S => ixK_0, .inl rfl⟩
  · exact ⟨b, fun S => ixK_1, .inr (.inl rfl)⟩
  · exact ⟨c, fun S => ixK_2, .inr (.inr rfl)⟩
theorem ix4 {a b c d i : Int} (h0 : 0 ≤ i) (h1 : i < 4) : ∃ z, (∀ S, ixK [.int a, .int b, .int c, .int d] i S = .ok (.p (.int z)) S) ∧ (z = a ∨ z = b ∨ z = c ∨ z = d) := by
  have h : i = 0 ∨ i = 1 ∨ i = 2 ∨ i = 3 := by omega
  rcases h with rfl | rfl | rfl | rfl
  · exact ⟨a, fun S => ixK_0, .inl rfl⟩
  · exact ⟨b, fun S => ixK_1, .inr (.inl rfl)⟩
  · exact ⟨c, fun S => ixK_2, .inr (.inr (.inl rfl))⟩
  · exact ⟨d, fun S => ixK_3, .inr (.inr (.inr rfl))⟩
theorem four_bd {d : Nat} (h : d ≤ 50) : 1 ≤ (4 : Int) ^ d ∧ (4 : Int) ^ d ≤ 2 ^ 100 := by
  refine ⟨Int.pow_pos (by decide), ?_⟩
  have : (4 : Nat) ^ d ≤ 4 ^ 50 := Nat.pow_le_pow_right (by decide) h
  exact_mod_cast this
theorem shade_d {d : Nat} (hd : d ≤ 50) : Draws s_z_law_shade (fun n => [.r n, .p (.int d)]) (InR 0 (4 ^ d + 1)) 5 := by
  intro st n c C hn hb hC
  obtain ⟨q1, q2⟩ := four_bd hd
  obtain ⟨_, c1, e1, ⟨v1, rfl, a1, b1⟩, B1⟩ := pick_d (m := 4 ^ d + 1) (by omega) (by omega) st n c C hn hb (by omega)
  obtain ⟨_, c2, e2, ⟨v2, rfl, a2, b2⟩, B2⟩ := (pick_d (m := 4) (by decide) (by decide)).a [.mu (.lst [.int 0, .int 1, .int (4 ^ d - 1), .int (4 ^ d)])] hn B1 (by omega)
  obtain ⟨z2, i2, -⟩ := ix4 (a := 0) (b := 1) (c := 4 ^ d - 1) (d := 4 ^ d) a2 b2
  obtain ⟨_, c3, e3, ⟨v3, rfl, a3, b3⟩, B3⟩ := (pick_d (m := 5) (by decide) (by decide)).a [.mu (.lst [.int 0, .int 1, .int (4 ^ d - 1), .int (4 ^ d)])] hn B2 (by omega)
  have m1 : CMulW (4 ^ d / 4) v3 := cmulw (Bt.of (n := 110) (by omega)) (Bt.of (n := 110) (by omega))
  obtain ⟨_, c4, e4, ⟨v4, rfl, a4, b4⟩, B4⟩ := (pick_d (m := 3) (by decide) (by decide)).a [.mu (.lst [.int 0, .int 1, .int (4 ^ d - 1), .int (4 ^ d)]), .fz [.int v1, .int z2, .int (4 ^ d / 4 * v3)]] hn B3 (by omega)
  obtain ⟨z4, i4, -⟩ := ix3 (a := v1) (b := z2) (c := 4 ^ d / 4 * v3) a4 b4
  obtain ⟨_, c5, e5, ⟨v5, rfl, a5, b5⟩, B5⟩ := (pick_d (m := 4) (by decide) (by decide)).a [.mu (.lst [.int 0, .int 1, .int (4 ^ d - 1), .int (4 ^ d)]), .fz [.int v1, .int z2, .int (4 ^ d / 4 * v3)], .mu (.lst [.int 0, .int 0, .int 1, .int (-1)])] hn B4 (by omega)
  obtain ⟨z5, i5, -⟩ := ix4 (a := 0) (b := 0) (c := 1) (d := -1) a5 b5
  have dv : ∀ i : Int, CDivW i 4 := fun i => cdivw (by decide) (by decide)
  refine ⟨.int (min (4 ^ d) (max 0 (z4 + z5))), c5, ?_, ⟨_, rfl, by omega, by omega⟩, B5⟩
  unfold s_z_law_shade b_z_law_shade
  simp! [opMul_i (two_len hd), opShl_i (cshl1 (j := 2 * (d : Int)) (by omega) (by omega)), shl_four, e1, e2, i2, opDiv_i (dv _), e3, opMul_i m1, e4, i4, e5, i5]
theorem map_erase {l : List Int} {k : Nat} : (l.map D.int).eraseIdx k = (l.eraseIdx k).map D.int := by
  induction l generalizing k with
  | nil => rfl
  | cons a l ih => cases k with
    | zero => rfl
    | succ k => simp only [List.map_cons, List.eraseIdx_cons_succ, ih]
theorem perm_getE : ∀ {l : List Int} {k : Nat} (h : k < l.length), (l[k] :: l.eraseIdx k).Perm l
  | [], k, h => absurd h (by simp)
  | a :: l, 0, h => List.Perm.refl _
  | a :: l, k + 1, h => by
    have h' : k < l.length := by simpa using h
    show (l[k] :: a :: l.eraseIdx k).Perm (a :: l)
    exact (List.Perm.swap _ _ _).trans ((perm_getE h').cons a)
noncomputable def levI : D → M Fl := fun d => gN 6 d >>= fun _ => (sEx (methM isLst opApp (vr 5) (aC (methM isLst opPopAt (vr 4) (aC (callM s_z_law_pick 2 (aC (vr 0) (aC (opA (op1 opLen) (aC (vr 4) aN)) aN))) aN)) aN)))
theorem lev_in {st : Store} {n : Nat} (hn : n < st.length) {x1 x3 : Option R} {f : Cell} (rest : Store) : ∀ (m : Nat) (lo : Int) (left lev : List Int) (c : Cell) (C : Nat) (j6 : Option R), BagC c C → C + m ≤ 1000000 → left.length = m → m ≤ 4 → lev.length + m ≤ 4 →
    ∃ (lev' : List Int) (c' : Cell) (k6 : Option R), loopL (fun _ => True) levI (Dd.intsFrom lo m) ⟨[some (.r n), x1, some (.r st.length), x3, some (.r (st.length + (rest.length + 1))), some (.r (st.length + (rest.length + 1 + 1))), j6], st.set n c ++ (f :: (rest ++ [.mu (.lst (left.map .int)), .mu (.lst (lev.map .int))]))⟩ =
      .ok .nx ⟨[some (.r n), x1, some (.r st.length), x3, some (.r (st.length + (rest.length + 1))), some (.r (st.length + (rest.length + 1 + 1))), k6], st.set n c' ++ (f :: (rest ++ [.mu (.lst []), .mu (.lst (lev'.map .int))]))⟩ ∧ lev'.Perm (lev ++ left) ∧ BagC c' (C + m)
  | 0, lo, left, lev, c, C, j6, hb, hC, hl, hm, hv => by
    have e : left = [] := List.length_eq_zero_iff.mp hl
    subst e
    exact ⟨lev, c, j6, by rw [intsFrom_0, loop_nil trivial]; rfl, by rw [List.append_nil], hb⟩
  | m + 1, lo, left, lev, c, C, j6, hb, hC, hl, hm, hv => by
    obtain ⟨_, c1, e1, ⟨v, rfl, a1, b1⟩, B1⟩ := (pick_d (m := (left.length : Int)) (by omega) (Int.lt_of_le_of_lt (show (left.length : Int) ≤ 4 by omega) (by decide))).a (f :: (rest ++ [.mu (.lst (left.map .int)), .mu (.lst (lev.map .int))])) hn hb (by omega)
    have hk : v.toNat < left.length := by omega
    have hd : (left.map D.int)[v.toNat]? = some (.int left[v.toNat]) := by rw [List.getElem?_map, List.getElem?_eq_getElem hk]; rfl
    have step : levI (.int lo) ⟨[some (.r n), x1, some (.r st.length), x3, some (.r (st.length + (rest.length + 1))), some (.r (st.length + (rest.length + 1 + 1))), j6], st.set n c ++ (f :: (rest ++ [.mu (.lst (left.map .int)), .mu (.lst (lev.map .int))]))⟩ =
        .ok .nx ⟨[some (.r n), x1, some (.r st.length), x3, some (.r (st.length + (rest.length + 1))), some (.r (st.length + (rest.length + 1 + 1))), some (.p (.int lo))], st.set n c1 ++ (f :: (rest ++ [.mu (.lst ((left.eraseIdx v.toNat).map .int)), .mu (.lst ((lev ++ [left[v.toNat]]).map .int))]))⟩ := by
      unfold levI
      rw [bind_bnd]
      simp! [List.length_map, e1, popC_of a1 hd (by rw [List.length_map]; omega), appK_ap (show (lev.map D.int).length < 1000000 by rw [List.length_map]; omega), map_erase, List.map_append]
    obtain ⟨lev', c', k6, e2, p2, B2⟩ := lev_in hn rest m (lo + 1) (left.eraseIdx v.toNat) (lev ++ [left[v.toNat]]) c1 (C + 1) (some (.p (.int lo))) B1 (by omega) (by rw [List.length_eraseIdx_of_lt hk]; omega) (by omega) (by rw [List.length_append]; simp only [List.length_cons, List.length_nil]; omega)
    refine ⟨lev', c', k6, ?_, ?_, by rw [show C + (m + 1) = C + 1 + m by omega]; exact B2⟩
    · rw [intsFrom_s, loop_cons trivial, step, bnd_ok]
      exact e2
    · refine p2.trans ?_
      rw [List.append_assoc]
      exact (perm_getE hk).append_left lev
noncomputable def levO : D → M Fl := fun d => gN 3 d >>= fun _ => (sSq (sPar 4 5 (aC (lstE (aC (ci 0) (aC (ci 1) (aC (ci 2) (aC (ci 3) aN))))) (aC (lstE aN) aN)))
    (sSq (sFor (itR1 (aC (ci 4) aN)) (gN 6) (sEx (methM isLst opApp (vr 5) (aC (methM isLst opPopAt (vr 4) (aC (callM s_z_law_pick 2 (aC (vr 0) (aC (opA (op1 opLen) (aC (vr 4) aN)) aN))) aN)) aN))))
    (sEx (methM isLst opApp (vr 2) (aC (opA (op1 opTuple) (aC (vr 5) aN)) aN)))))
theorem lev_out {st : Store} {n : Nat} (hn : n < st.length) {x1 : Option R} : ∀ (m : Nat) (lo : Int) (ls : List (List Int)) (rest : Store) (c : Cell) (C : Nat) (j3 j4 j5 j6 : Option R), BagC c C → C + 4 * m ≤ 1000000 → (∀ l ∈ ls, l.Perm [0, 1, 2, 3]) → ls.length + m ≤ 1000 →
    ∃ (ls' : List (List Int)) (c' : Cell) (rest' : Store) (k3 k4 k5 k6 : Option R), loopL (fun _ => True) levO (Dd.intsFrom lo m) ⟨[some (.r n), x1, some (.r st.length), j3, j4, j5, j6], st.set n c ++ (.mu (.lst (lvD ls)) :: rest)⟩ =
      .ok .nx ⟨[some (.r n), x1, some (.r st.length), k3, k4, k5, k6], st.set n c' ++ (.mu (.lst (lvD ls')) :: rest')⟩ ∧ (∀ l ∈ ls', l.Perm [0, 1, 2, 3]) ∧ ls'.length = ls.length + m ∧ BagC c' (C + 4 * m)
  | 0, lo, ls, rest, c, C, j3, j4, j5, j6, hb, hC, hp, hl => ⟨ls, c, rest, j3, j4, j5, j6, by rw [intsFrom_0, loop_nil trivial], hp, rfl, hb⟩
  | m + 1, lo, ls, rest, c, C, j3, j4, j5, j6, hb, hC, hp, hl => by
    obtain ⟨lev', c1, k6, e1, p1, B1⟩ := lev_in hn (x1 := x1) (x3 := some (.p (.int lo))) (f := .mu (.lst (lvD ls))) rest 4 0 [0, 1, 2, 3] [] c C j6 hb (by omega) rfl (by omega) (by simp)
    have step : levO (.int lo) ⟨[some (.r n), x1, some (.r st.length), j3, j4, j5, j6], st.set n c ++ (.mu (.lst (lvD ls)) :: rest)⟩ =
        .ok .nx ⟨[some (.r n), x1, some (.r st.length), some (.p (.int lo)), some (.r (st.length + (rest.length + 1))), some (.r (st.length + (rest.length + 1 + 1))), k6], st.set n c1 ++ (.mu (.lst (lvD (ls ++ [lev']))) :: (rest ++ [.mu (.lst []), .mu (.lst (lev'.map .int))]))⟩ := by
      unfold levO
      rw [bind_bnd]
      simp! []
      have e1' := e1
      unfold levI at e1'
      simp only [List.map_cons, List.map_nil] at e1'
      rw [show Dd.intsFrom 0 4 = [D.int 0, D.int 1, D.int 2, D.int 3] from rfl] at e1'
      rw [e1']
      have el : (lvD ls).length < 1000000 := by unfold lvD; rw [List.length_map]; omega
      simp! [appK_ap el]
      unfold lvD
      rw [List.map_append]
      rfl
    have p1' : lev'.Perm [0, 1, 2, 3] := p1
    obtain ⟨ls', c', rest', k3, k4, k5, k6', e2, p2, l2, B2⟩ := lev_out hn m (lo + 1) (ls ++ [lev']) (rest ++ [.mu (.lst []), .mu (.lst (lev'.map .int))]) c1 (C + 4) (some (.p (.int lo))) (some (.r (st.length + (rest.length + 1)))) (some (.r (st.length + (rest.length + 1 + 1)))) k6 B1 (by omega) (fun l hl => by
      rcases List.mem_append.mp hl with h | h
      · exact hp l h
      · rw [List.mem_singleton.mp h]; exact p1') (by rw [List.length_append]; simp only [List.length_cons, List.length_nil]; omega)
    refine ⟨ls', c', rest', k3, k4, k5, k6', ?_, p2, ?_, by rw [show C + 4 * (m + 1) = C + 4 + 4 * m by omega]; exact B2⟩
    · rw [intsFrom_s, loop_cons trivial, step, bnd_ok]
      exact e2
    · rw [l2, List.length_append]; simp only [List.length_cons, List.length_nil]; omega
theorem rng50 {d : Nat} (hd : d ≤ 50) : -(2 ^ 62) ≤ (d : Int) ∧ (d : Int) < 2 ^ 62 := ⟨by omega, by omega⟩
theorem levels_d {d : Nat} (hd : d ≤ 50) : DrawsL s_z_law_levels (fun n => [.r n, .p (.int d)]) (fun v => ∃ ls, v = lvD ls ∧ ls.length = d ∧ ∀ l ∈ ls, l.Perm [0, 1, 2, 3]) (4 * d) := by
  intro st n c C hn hb hC
  obtain ⟨ls', c', rest', k3, k4, k5, k6, e, p, l, B⟩ := lev_out hn (x1 := some (.p (.int d))) d 0 [] [] c C none none none none hb hC (by simp) (by simp only [List.length_nil]; omega)
  refine ⟨lvD ls', c', ?_, ⟨ls', rfl, by simpa using l, p⟩, B⟩
  unfold s_z_law_levels b_z_law_levels
  simp! [rngK1_n (show d ≤ 1000000 by omega)]
  have e' := e
  unfold levO at e'
  rw [show lvD [] = [] from rfl] at e'
  rw [e']
  simp! []
  have g : (st.set n c' ++ (Cell.mu (.lst (lvD ls')) :: rest'))[st.length]? = some (.mu (.lst (lvD ls'))) := get_set_app0
  rw [finishR_mu g (Nat.le_refl _), take_set_app]
end Lib

set_option Elab.async false
set_option linter.all false
set_option maxRecDepth 100000
set_option exponentiation.threshold 2000
namespace Lib
open PySem PySem.Spec PyProof.Rows L2 Dd
def lo (f b : Int) : Int := 0 - (b - f) / 2
def ct (f m b : Int) : Int := (f + m - 1 - b) / 2 - lo f b + 1
theorem slE_ap (f : M R) (l h : M (Option Int)) (S : Sg) : slE f l h S = (f S).bnd fun x S => (l S).bnd fun lo S => (h S).bnd fun hi S => opSl x lo hi S := by unfold slE; simp only [bind_bnd]; rfl
theorem opt0_ap (S : Sg) : opt0 S = .ok none S := Eq.trans rfl rfl
theorem opt1_ci (i : Int) (S : Sg) : opt1 (ci i) S = .ok (some i) S := Eq.trans rfl rfl
theorem opSl_tail {a : D} {r : List D} {S : Sg} (h : r.length < 1000) : opSl (.p (.lst (a :: r))) (some 1) none S = .ok (.r S.st.length) ⟨S.sl, S.st ++ [.mu (.lst r)]⟩ := by
  have e : Dd.cutD (a :: r) (some 1) none = r := by
    unfold Dd.cutD HT.sIx
    simp only [List.length_cons]
    rw [if_neg (by decide), show min (1 : Int).toNat (r.length + 1) = 1 by simp]
    show List.take (r.length + 1 - 1) r = r
    simp
  show (if (a :: r).length ≤ sizeLine then Res.ok (R.r S.st.length) { S with st := S.st ++ [.mu (.lst (Dd.cutD (a :: r) (some 1) none))] } else .bad) = _
  rw [if_pos (Nat.le_trans (show (a :: r).length ≤ 1000 by rw [List.length_cons]; omega) (by rw [sizeLine_eq]; decide)), e]
theorem d2 (i : Int) : CDivW i 2 := cdivw (by decide) (by decide)
theorem halves_i (f m b : Int) (st : Store) : s_z_law_halves [.p (.int f), .p (.int m), .p (.int b)] st = .ok (.val (.tup [.int (lo f b), .int (ct f m b)])) st := by
  unfold s_z_law_halves b_z_law_halves
  simp! [opDiv_i (d2 _), lo, ct]
/-- the law's own count -/
def rsum (F : Int → Int → Int → Int → Int) (g l t w h : Int) : Nat → List Int → Int
  | _, [] => 0
  | c, n :: r => (if n < g ∧ 0 < ct l w ((c : Int) % 2) ∧ 0 < ct t h ((c : Int) / 2) then ct l w ((c : Int) % 2) * ct t h ((c : Int) / 2) else 0)
      + (if n = g then F (lo l ((c : Int) % 2)) (lo t ((c : Int) / 2)) (ct l w ((c : Int) % 2)) (ct t h ((c : Int) / 2)) else 0) + rsum F g l t w h (c + 1) r
def rcnt : List (List Int) → Int → Int → Int → Int → Int → Int
  | [], k, l, t, w, h => if w < 1 ∨ h < 1 ∨ k < 1 then 0 else w * h
  | lv :: r, k, l, t, w, h => if w < 1 ∨ h < 1 ∨ k = 0 then 0 else
    rsum (rcnt r (k - k / 4 ^ r.length * 4 ^ r.length)) (k / 4 ^ r.length) l t w h 0 lv
theorem lo_bd {f b : Int} (h1 : -(5 * (1000000000000000000000000000000 : Int)) ≤ f) (h2 : f ≤ 5 * (1000000000000000000000000000000 : Int)) (hb : b = 0 ∨ b = 1) : -(5 * (1000000000000000000000000000000 : Int)) ≤ lo f b ∧ lo f b ≤ 5 * (1000000000000000000000000000000 : Int) := by
  unfold lo; rcases hb with rfl | rfl <;> omega
theorem ct_bd {f m b : Int} (h1 : 1 ≤ m) (h2 : m ≤ (1000000000000000000000000000000 : Int)) (hb : b = 0 ∨ b = 1) : 0 ≤ ct f m b ∧ ct f m b ≤ (1000000000000000000000000000000 : Int) := by
  unfold ct lo; rcases hb with rfl | rfl <;> omega
noncomputable def cntB (self : Fn) : List D → M Fl := fun d => gsC (gN 10) (gsC (gN 11) gsN) d >>= fun _ => (sSq (sPar 12 13 (aC (callM s_z_law_halves 3 (aC (vr 3) (aC (vr 5) (aC (bin opBand (vr 10) (ci 1)) aN)))) (aC (callM s_z_law_halves 3 (aC (vr 4) (aC (vr 6) (aC (bin opShr (vr 10) (ci 1)) aN)))) aN)))
    (sSq (sIf (mAnd (tst (bin opLt (vr 11) (vr 8))) (mAnd (tst (bin opGt (bin opIx (vr 12) (ci 1)) (ci 0))) (tst (bin opGt (bin opIx (vr 13) (ci 1)) (ci 0))))) (sSet 9 (bin opAdd (vr 9) (bin opMul (bin opIx (vr 12) (ci 1)) (bin opIx (vr 13) (ci 1))))) sNx)
    (sIf (tst (bin opEqD (vr 11) (vr 8))) (sSet 9 (bin opAdd (vr 9) (callM self 3 (aC (pur (slE (vr 0) (opt1 (ci 1)) opt0)) (aC (bin opSub (vr 1) (bin opMul (vr 8) (vr 7))) (aC (tupE (aC (bin opIx (vr 12) (ci 0)) (aC (bin opIx (vr 13) (ci 0)) (aC (bin opIx (vr 12) (ci 1)) (aC (bin opIx (vr 13) (ci 1)) aN))))) aN)))))) sNx)))
theorem cntB_run {self : Fn} {lv : List Int} {r : List (List Int)} {k l t w h q g : Int} {s2 : Option R} {st : Store} (hr : r.length < 100) (hl : -(5 * (1000000000000000000000000000000 : Int)) ≤ l ∧ l ≤ 5 * (1000000000000000000000000000000 : Int)) (ht : -(5 * (1000000000000000000000000000000 : Int)) ≤ t ∧ t ≤ 5 * (1000000000000000000000000000000 : Int)) (hw : 1 ≤ w ∧ w ≤ (1000000000000000000000000000000 : Int)) (hh : 1 ≤ h ∧ h ≤ (1000000000000000000000000000000 : Int)) (hg : Bt 300 g) (hq : Bt 300 q)
    (hs : ∀ (l t w h : Int) (st : Store), -(5 * (1000000000000000000000000000000 : Int)) ≤ l → l ≤ 5 * (1000000000000000000000000000000 : Int) → -(5 * (1000000000000000000000000000000 : Int)) ≤ t → t ≤ 5 * (1000000000000000000000000000000 : Int) → 0 ≤ w → w ≤ (1000000000000000000000000000000 : Int) → 0 ≤ h → h ≤ (1000000000000000000000000000000 : Int) → self [.p (.lst (lvD r)), .p (.int (k - g * q)), .p (winD l t w h)] st = .ok (.val (.int (rcnt r (k - g * q) l t w h))) st) :
    ∀ (m : List Int) (c : Nat) (acc : Int) (x : Store) (j10 j11 j12 j13 : Option R), c + m.length ≤ 4 →
    ∃ (x' : Store) (k10 k11 k12 k13 : Option R), loopL (fun _ => True) (cntB self) (Dd.numbered c (m.map .int)) ⟨[some (.p (.lst (lvD (lv :: r)))), some (.p (.int k)), s2, some (.p (.int l)), some (.p (.int t)), some (.p (.int w)), some (.p (.int h)), some (.p (.int q)), some (.p (.int g)), some (.p (.int acc)), j10, j11, j12, j13], st ++ x⟩ =
      .ok .nx ⟨[some (.p (.lst (lvD (lv :: r)))), some (.p (.int k)), s2, some (.p (.int l)), some (.p (.int t)), some (.p (.int w)), some (.p (.int h)), some (.p (.int q)), some (.p (.int g)), some (.p (.int (acc + rsum (rcnt r (k - g * q)) g l t w h c m))), k10, k11, k12, k13], st ++ x'⟩
  | [], c, acc, x, j10, j11, j12, j13, hc => ⟨x, j10, j11, j12, j13, by rw [List.map_nil, Dd.numbered, loop_nil trivial]; simp only [rsum, Int.add_zero]⟩
  | n :: m, c, acc, x, j10, j11, j12, j13, hc => by
    rw [List.length_cons] at hc
    have b1 : (c : Int) % 2 = 0 ∨ (c : Int) % 2 = 1 := by omega
    have b2 : (c : Int) / 2 = 0 ∨ (c : Int) / 2 = 1 := by omega
    obtain ⟨u1, u2⟩ := lo_bd hl.1 hl.2 b1
    obtain ⟨u3, u4⟩ := lo_bd ht.1 ht.2 b2
    obtain ⟨u5, u6⟩ := ct_bd (f := l) hw.1 hw.2 b1
    obtain ⟨u7, u8⟩ := ct_bd (f := t) hh.1 hh.2 b2
    have e1 : ((c : Int) / 2 ^ (1 : Int).toNat) = (c : Int) / 2 := rfl
    have mm : CMulW (ct l w ((c : Int) % 2)) (ct t h ((c : Int) / 2)) := cmulw (Bt.of (n := 110) (by omega)) (Bt.of (n := 110) (by omega))
    have step : ∃ x' k10 k11 k12 k13, cntB self [.int (c : Int), .int n] ⟨[some (.p (.lst (lvD (lv :: r)))), some (.p (.int k)), s2, some (.p (.int l)), some (.p (.int t)), some (.p (.int w)), some (.p (.int h)), some (.p (.int q)), some (.p (.int g)), some (.p (.int acc)), j10, j11, j12, j13], st ++ x⟩ =
        .ok .nx ⟨[some (.p (.lst (lvD (lv :: r)))), some (.p (.int k)), s2, some (.p (.int l)), some (.p (.int t)), some (.p (.int w)), some (.p (.int h)), some (.p (.int q)), some (.p (.int g)), some (.p (.int (acc + ((if n < g ∧ 0 < ct l w ((c : Int) % 2) ∧ 0 < ct t h ((c : Int) / 2) then ct l w ((c : Int) % 2) * ct t h ((c : Int) / 2) else 0)
      + (if n = g then rcnt r (k - g * q) (lo l ((c : Int) % 2)) (lo t ((c : Int) / 2)) (ct l w ((c : Int) % 2)) (ct t h ((c : Int) / 2)) else 0))))), k10, k11, k12, k13], st ++ x'⟩ := by
      by_cases h2 : n = g
      · have h1 : ¬ n < g := by omega
        refine ⟨x ++ [.fz (lvD r)], some (.p (.int c)), some (.p (.int n)), some (.p (.tup [.int (lo l ((c : Int) % 2)), .int (ct l w ((c : Int) % 2))])), some (.p (.tup [.int (lo t ((c : Int) / 2)), .int (ct t h ((c : Int) / 2))])), ?_⟩
        have hs' := hs (lo l ((c : Int) % 2)) (lo t ((c : Int) / 2)) (ct l w ((c : Int) % 2)) (ct t h ((c : Int) / 2)) (st ++ (x ++ [.fz (lvD r)])) u1 u2 u3 u4 u5 u6 u7 u8
        unfold winD at hs'
        unfold cntB
        rw [bind_bnd]
        have et : lvD (lv :: r) = .tup (lv.map .int) :: lvD r := rfl
        have ml : (lvD r).length < 1000 := by unfold lvD; rw [List.length_map]; omega
        simp! [halves_i, band1, e1, h1, h2, Int.lt_irrefl, false_and, slE_ap, opt0_ap, opt1_ci, et, opSl_tail ml, opMul_i (cmulw hg hq), hs', Int.zero_add]
      · by_cases h1 : n < g ∧ 0 < ct l w ((c : Int) % 2) ∧ 0 < ct t h ((c : Int) / 2)
        · refine ⟨x, some (.p (.int c)), some (.p (.int n)), some (.p (.tup [.int (lo l ((c : Int) % 2)), .int (ct l w ((c : Int) % 2))])), some (.p (.tup [.int (lo t ((c : Int) / 2)), .int (ct t h ((c : Int) / 2))])), ?_⟩
          obtain ⟨p1, p2, p3⟩ := h1
          unfold cntB
          rw [bind_bnd]
          simp! [halves_i, band1, e1, p1, p2, p3, h2, opMul_i mm, Int.add_zero]
        · refine ⟨x, some (.p (.int c)), some (.p (.int n)), some (.p (.tup [.int (lo l ((c : Int) % 2)), .int (ct l w ((c : Int) % 2))])), some (.p (.tup [.int (lo t ((c : Int) / 2)), .int (ct t h ((c : Int) / 2))])), ?_⟩
          rw [if_neg h1, if_neg h2]
          unfold cntB
          rw [bind_bnd]
          simp! [halves_i, band1, e1, h2, Int.add_zero]
          by_cases p1 : n < g
          · by_cases p2 : 0 < ct l w ((c : Int) % 2)
            · have p3 : ¬ 0 < ct t h ((c : Int) / 2) := fun p3 => h1 ⟨p1, p2, p3⟩
              simp! [p1, p2, p3, h2]
            · simp! [p1, p2, h2]
          · simp! [p1, h2]
    obtain ⟨x1, k10, k11, k12, k13, es⟩ := step
    obtain ⟨x2, q10, q11, q12, q13, e2⟩ := cntB_run hr hl ht hw hh hg hq hs m (c + 1) _ x1 k10 k11 k12 k13 (by omega)
    refine ⟨x2, q10, q11, q12, q13, ?_⟩
    rw [List.map_cons, Dd.numbered, loop_cons trivial, es, bnd_ok]
    show loopL _ _ _ _ = _
    rw [e2]
    simp only [rsum, Int.add_assoc]
def lvP (ls : List (List Int)) : List PyData := ls.map fun l => .tuple (l.map .int)
theorem toPyL_lv : ∀ ls : List (List Int), toPyL (lvD ls) = some (lvP ls)
  | [] => rfl
  | l :: ls => by
    show toPyL (D.tup (l.map D.int) :: lvD ls) = _
    unfold toPyL
    rw [toPyL_lv ls]
    simp only [toPy, toPyL_ints]
    rfl
theorem canLay_lv : ∀ ls : List (List Int), PyData.canLayAll0 (lvP ls) = true
  | [] => rfl
  | l :: ls => by
    show (PyData.canLayAll0 (l.map PyData.int) && PyData.canLayAll0 (lvP ls)) = true
    rw [canLay_ints, canLay_lv ls]; rfl
theorem depth_lv : ∀ ls : List (List Int), PyData.depthAll (lvP ls) ≤ 1
  | [] => Nat.zero_le _
  | l :: ls => by
    show max (PyData.depthAll (l.map PyData.int) + 1) (PyData.depthAll (lvP ls)) ≤ 1
    rw [depth_ints]
    have := depth_lv ls
    omega
theorem shaped_lv (ls : List (List Int)) : SeqAt.shaped (.list (lvP ls)) = true := by
  show (PyData.canLayAll0 (lvP ls) && decide (PyData.depthAll (lvP ls) + 1 ≤ 64)) = true
  rw [canLay_lv, decide_eq_true (by have := depth_lv ls; omega)]; rfl
theorem eq_nil {ls : List (List Int)} {m : Nat} {S : Sg} (h : S.st[m]? = some (.mu (.lst []))) : opEqD (.p (.lst (lvD ls))) (.r m) S = .ok (.p (.bl (decide (ls = [])))) S := by
  have h1 : dataR (.p (.lst (lvD ls))) S = some (.list (lvP ls)) := by
    rw [dataR_p]
    show (match toPyL (lvD ls) with | some xs => some (PyData.list xs) | none => none) = _
    rw [toPyL_lv]
  have h2 : dataR (.r m) S = some (.list []) := by rw [dataR_r, h]; rfl
  rw [opEqD_of h1 h2 (shaped_lv ls) rfl]
  cases ls <;> rfl
def eqNilK (ls : List (List Int)) (m : Nat) (S : Sg) : Option Cell → Res R
  | some (.mu (.lst [])) => .ok (.p (.bl (decide (ls = [])))) S
  | _ => opEqD (.p (.lst (lvD ls))) (.r m) S
theorem eqNil_r {ls : List (List Int)} {m : Nat} {S : Sg} : opEqD (.p (.lst (lvD ls))) (.r m) S = eqNilK ls m S S.st[m]? := by
  unfold eqNilK
  split
  · rename_i h; exact eq_nil h
  · rfl
theorem eqNilK_ap {ls : List (List Int)} {m : Nat} {S : Sg} : eqNilK ls m S (some (.mu (.lst []))) = .ok (.p (.bl (decide (ls = [])))) S := Eq.trans rfl rfl
theorem four_bt {n : Nat} (h : n ≤ 50) : Bt 300 (4 ^ n) := Bt.of (by
  obtain ⟨a, b⟩ := four_bd h
  have : (2 : Int) ^ 100 < 2 ^ 300 := by decide
  exact ⟨by omega, by omega⟩)
theorem ixlv {lv : List Int} {ls : List (List Int)} {S : Sg} : ixK (lvD (lv :: ls)) 0 S = .ok (.p (.tup (lv.map .int))) S := by rw [show lvD (lv :: ls) = .tup (lv.map .int) :: lvD ls from rfl]; exact ixK_0
theorem count_i : ∀ (ls : List (List Int)) (n : Nat) (k l t w h : Int) (st : Store), ls.length < n → ls.length ≤ 50 → (∀ l ∈ ls, l.Perm [0, 1, 2, 3]) → -(5 * (1000000000000000000000000000000 : Int)) ≤ l → l ≤ 5 * (1000000000000000000000000000000 : Int) → -(5 * (1000000000000000000000000000000 : Int)) ≤ t → t ≤ 5 * (1000000000000000000000000000000 : Int) → 0 ≤ w → w ≤ (1000000000000000000000000000000 : Int) → 0 ≤ h → h ≤ (1000000000000000000000000000000 : Int) → 0 ≤ k → k ≤ 4 ^ ls.length →
    s_z_law_count n [.p (.lst (lvD ls)), .p (.int k), .p (winD l t w h)] st = .ok (.val (.int (rcnt ls k l t w h))) st
  | ls, 0, k, l, t, w, h, st, hn, _, _, _, _, _, _, _, _, _, _, _, _ => absurd hn (Nat.not_lt_zero _)
  | [], n + 1, k, l, t, w, h, st, hn, h5, hp, l1, l2, t1, t2, w1, w2, hh1, hh2, k1, k2 => by
    have mm : CMulW w h := cmulw (Bt.of (n := 110) (by omega)) (Bt.of (n := 110) (by omega))
    show runF 14 (b_z_law_count n (s_z_law_count n)) _ _ = _
    unfold b_z_law_count winD
    by_cases c1 : w < 1
    · simp! [c1, rcnt, true_or]
    · by_cases c2 : h < 1
      · simp! [c1, c2, rcnt, true_or, false_or]
      · by_cases c3 : k = 0
        · have c4 : k < 1 := by omega
          simp! [c1, c2, c3, rcnt, true_or, false_or, c4, show (0 : Int) < 1 by decide]
        · have c4 : ¬ k < 1 := by omega
          simp! [c1, c2, c3, c4, rcnt, true_or, false_or, eqNil_r, eqNilK_ap, opMul_i mm]
  | lv :: ls, n + 1, k, l, t, w, h, st, hn, h5, hp, l1, l2, t1, t2, w1, w2, hh1, hh2, k1, k2 => by
    rw [List.length_cons] at hn h5
    show runF 14 (b_z_law_count n (s_z_law_count n)) _ _ = _
    unfold b_z_law_count winD
    by_cases c1 : w < 1
    · simp! [c1, rcnt, true_or]
    · by_cases c2 : h < 1
      · simp! [c1, c2, rcnt, true_or, false_or]
      · by_cases c3 : k = 0
        · simp! [c1, c2, c3, rcnt, true_or, false_or, or_true]
        · have hlen : (lvD (lv :: ls)).length = ls.length + 1 := by unfold lvD; rw [List.length_map, List.length_cons]
          have hcons : lvD (lv :: ls) = .tup (lv.map .int) :: lvD ls := rfl
          have e1 : ((ls.length : Nat) : Int) + 1 - 1 = (ls.length : Nat) := by omega
          have fp := four_pos ls.length
          obtain ⟨q1, q2⟩ := four_bd (d := ls.length) (by omega)
          have q4 : (4 : Int) ^ ls.length < 2 ^ 1000 := Int.lt_of_le_of_lt q2 (by decide)
          have g0 : 0 ≤ k / 4 ^ ls.length := Int.ediv_nonneg k1 (Int.le_of_lt fp)
          have g4 : k / 4 ^ ls.length ≤ 4 := by
            have : k / 4 ^ ls.length ≤ (4 * 4 ^ ls.length) / 4 ^ ls.length := Int.ediv_le_ediv fp (by rw [List.length_cons, Int.pow_succ] at k2; omega)
            rwa [Int.mul_ediv_cancel _ (Int.ne_of_gt fp)] at this
          have m0 : 0 ≤ k - k / 4 ^ ls.length * 4 ^ ls.length := by
            have := Int.emod_nonneg k (Int.ne_of_gt fp)
            rw [Int.emod_def, Int.mul_comm] at this
            exact this
          have m1 : k - k / 4 ^ ls.length * 4 ^ ls.length ≤ 4 ^ ls.length := by
            have := Int.emod_lt_of_pos k fp
            rw [Int.emod_def, Int.mul_comm] at this
            omega
          simp! [c1, c2, c3, false_or, or_false, eqNil_r, eqNilK_ap, hlen, Int.natCast_add, Int.natCast_one, e1, opMul_i (two_len (n := ls.length) (by omega)), opShl_i (cshl1 (j := 2 * (ls.length : Int)) (by omega) (by omega)), shl_four, opDiv_i (cdivw fp q4), List.cons_ne_nil, ixlv]
          obtain ⟨x', k10, k11, k12, k13, e⟩ := cntB_run (self := s_z_law_count n) (lv := lv) (r := ls) (k := k) (l := l) (t := t) (w := w) (h := h) (q := 4 ^ ls.length) (g := k / 4 ^ ls.length) (s2 := some (.p (.tup [.int l, .int t, .int w, .int h]))) (st := st) (by omega) ⟨l1, l2⟩ ⟨t1, t2⟩ ⟨by omega, w2⟩ ⟨by omega, hh2⟩ (Bt.of (n := 300) (by omega)) (four_bt (by omega))
            (fun l t w h st a1 a2 a3 a4 a5 a6 a7 a8 => count_i ls n _ l t w h st (by omega) (by omega) (fun z hz => hp z (List.mem_cons_of_mem _ hz)) a1 a2 a3 a4 a5 a6 a7 a8 m0 m1) lv 0 0 [.mu (.lst []), .mu (.lst [])] none none none none (by
              have := (hp lv List.mem_cons_self).length_eq
              rw [this]; decide)
          have e' := e
          unfold cntB at e'
          rw [e']
          simp! [Int.zero_add]
          rw [rcnt, if_neg (by simp only [c1, c2, c3, or_self, not_false_iff])]
end Lib

set_option Elab.async false
set_option linter.all false
set_option maxRecDepth 100000
namespace Lib
open PySem PySem.Spec PyProof.Rows L2 Dd
theorem lo_LO (f b : Int) : lo f b = LO f b 1 := by unfold lo LO; rw [Int.pow_one]; omega
theorem ct_resi (f m b : Int) : ct f m b = resi f m b 1 := by unfold ct lo resi; rw [Int.pow_one]; omega
theorem perm4 {l : List Int} (h : l.Perm [0, 1, 2, 3]) : ∃ a b c d, l = [a, b, c, d] ∧ 0 ≤ a ∧ a < 4 ∧ 0 ≤ b ∧ b < 4 ∧ 0 ≤ c ∧ c < 4 ∧ 0 ≤ d ∧ d < 4 := by
  have hl : l.length = 4 := h.length_eq
  have hm : ∀ x ∈ l, 0 ≤ x ∧ x < 4 := fun x hx => by
    have := h.mem_iff.mp hx
    simp only [List.mem_cons, List.not_mem_nil, or_false] at this
    omega
  match l, hl with
  | [a, b, c, d], _ =>
    have h1 := hm a (by simp)
    have h2 := hm b (by simp)
    have h3 := hm c (by simp)
    have h4 := hm d (by simp)
    exact ⟨a, b, c, d, rfl, h1.1, h1.2, h2.1, h2.2, h3.1, h3.2, h4.1, h4.2⟩
/-- the count, without ways out ahead of time -/
def rs (F : Int → Int → Int → Int → Int) (g l t w h : Int) : Nat → List Int → Int
  | _, [] => 0
  | c, n :: r => (if n < g then resi l w ((c : Int) % 2) 1 * resi t h ((c : Int) / 2) 1 else 0)
      + (if n = g then F (LO l ((c : Int) % 2) 1) (LO t ((c : Int) / 2) 1) (resi l w ((c : Int) % 2) 1) (resi t h ((c : Int) / 2) 1) else 0) + rs F g l t w h (c + 1) r
def rc : List (List Int) → Int → Int → Int → Int → Int → Int
  | [], k, l, t, w, h => if k < 1 then 0 else w * h
  | lv :: r, k, l, t, w, h => rs (rc r (k - k / 4 ^ r.length * 4 ^ r.length)) (k / 4 ^ r.length) l t w h 0 lv
theorem rs_zero {F : Int → Int → Int → Int → Int} {g l t w h : Int} (hF : ∀ l t w h, w = 0 ∨ h = 0 → F l t w h = 0) (h0 : w = 0 ∨ h = 0) : ∀ (lv : List Int) (c : Nat), rs F g l t w h c lv = 0
  | [], c => rfl
  | n :: r, c => by
    unfold rs
    rw [rs_zero hF h0 r]
    rcases h0 with h0 | h0 <;> subst h0
    · rw [resi_0, hF _ _ _ _ (.inl rfl)]; simp
    · rw [resi_0, hF _ _ _ _ (.inr rfl)]; simp
theorem rc_zero : ∀ (ls : List (List Int)) (k l t w h : Int), w = 0 ∨ h = 0 → rc ls k l t w h = 0
  | [], k, l, t, w, h, h0 => by unfold rc; rcases h0 with h0 | h0 <;> subst h0 <;> simp
  | lv :: r, k, l, t, w, h, h0 => by
    unfold rc
    exact rs_zero (fun l t w h h0 => rc_zero r _ l t w h h0) h0 lv 0
theorem rc_none : ∀ (ls : List (List Int)) (l t w h : Int), (∀ l ∈ ls, l.Perm [0, 1, 2, 3]) → rc ls 0 l t w h = 0
  | [], l, t, w, h, hp => by unfold rc; simp
  | lv :: r, l, t, w, h, hp => by
    obtain ⟨a, b, c, d, rfl, ha, _, hb, _, hc, _, hd, _⟩ := perm4 (hp lv List.mem_cons_self)
    have ih := fun l t w h => rc_none r l t w h fun z hz => hp z (List.mem_cons_of_mem _ hz)
    unfold rc
    simp only [Int.zero_ediv, Int.zero_mul, Int.sub_zero, rs, ih]
    simp only [if_neg (show ¬ a < 0 by omega), if_neg (show ¬ b < 0 by omega), if_neg (show ¬ c < 0 by omega), if_neg (show ¬ d < 0 by omega), ite_self, Int.add_zero]
theorem rsum_rs {F G : Int → Int → Int → Int → Int} {g l t w h : Int} (hw : 0 ≤ w) (hh : 0 ≤ h) (hF : ∀ l t w h, 0 ≤ w → 0 ≤ h → F l t w h = G l t w h) : ∀ (lv : List Int) (c : Nat), rsum F g l t w h c lv = rs G g l t w h c lv
  | [], c => rfl
  | n :: r, c => by
    unfold rsum rs
    rw [rsum_rs hw hh hF r]
    simp only [ct_resi, lo_LO]
    rw [hF _ _ _ _ (resi_nn hw) (resi_nn hh)]
    have a := resi_nn (f := l) (r := (c : Int) % 2) (s := 1) hw
    have b := resi_nn (f := t) (r := (c : Int) / 2) (s := 1) hh
    congr 2
    by_cases e : n < g
    · rw [if_pos e]
      by_cases e1 : 0 < resi l w ((c : Int) % 2) 1
      · by_cases e2 : 0 < resi t h ((c : Int) / 2) 1
        · rw [if_pos ⟨e, e1, e2⟩]
        · rw [if_neg fun z => e2 z.2.2, show resi t h ((c : Int) / 2) 1 = 0 by omega, Int.mul_zero]
      · rw [if_neg fun z => e1 z.2.1, show resi l w ((c : Int) % 2) 1 = 0 by omega, Int.zero_mul]
    · rw [if_neg e, if_neg fun z => e z.1]
theorem rcnt_rc : ∀ (ls : List (List Int)) (k l t w h : Int), (∀ l ∈ ls, l.Perm [0, 1, 2, 3]) → 0 ≤ w → 0 ≤ h → rcnt ls k l t w h = rc ls k l t w h
  | [], k, l, t, w, h, hp, hw, hh => by
    unfold rcnt rc
    by_cases e : k < 1
    · rw [if_pos (.inr (.inr e)), if_pos e]
    · rw [if_neg e]
      by_cases e1 : w < 1
      · rw [if_pos (.inl e1), show w = 0 by omega, Int.zero_mul]
      · by_cases e2 : h < 1
        · rw [if_pos (.inr (.inl e2)), show h = 0 by omega, Int.mul_zero]
        · rw [if_neg (by omega)]
  | lv :: r, k, l, t, w, h, hp, hw, hh => by
    unfold rcnt
    by_cases e : w < 1 ∨ h < 1 ∨ k = 0
    · rw [if_pos e]
      rcases e with e | e | e
      · exact (rc_zero _ _ _ _ _ _ (.inl (by omega))).symm
      · exact (rc_zero _ _ _ _ _ _ (.inr (by omega))).symm
      · rw [e]; exact (rc_none _ _ _ _ _ hp).symm
    · rw [if_neg e]
      unfold rc
      exact rsum_rs hw hh (fun l t w h hw hh => rcnt_rc r _ l t w h (fun z hz => hp z (List.mem_cons_of_mem _ hz)) hw hh) lv 0
theorem rc_cells : ∀ (ls : List (List Int)) (k l t w h x y : Int) (s : Nat), (∀ l ∈ ls, l.Perm [0, 1, 2, 3]) → 0 ≤ k → k < 4 ^ ls.length → rc ls k (LO l x s) (LO t y s) (resi l w x s) (resi t h y s) = csum l t w h (cells k ls x y s)
  | [], k, l, t, w, h, x, y, s, hp, k0, k1 => by
    unfold rc
    rw [if_pos (by simpa using k1)]
    rfl
  | lv :: r, k, l, t, w, h, x, y, s, hp, k0, k1 => by
    have hlv := hp lv List.mem_cons_self
    have fp := four_pos r.length
    have g4 : k / 4 ^ r.length % 4 = k / 4 ^ r.length := by
      have g0 : 0 ≤ k / 4 ^ r.length := Int.ediv_nonneg k0 (Int.le_of_lt fp)
      have g1 : k / 4 ^ r.length < 4 := Int.ediv_lt_of_lt_mul fp (by rw [List.length_cons, Int.pow_succ] at k1; omega)
      omega
    have m0 : 0 ≤ k - k / 4 ^ r.length * 4 ^ r.length := by
      have := Int.emod_nonneg k (Int.ne_of_gt fp)
      rwa [Int.emod_def, Int.mul_comm] at this
    have m1 : k - k / 4 ^ r.length * 4 ^ r.length < 4 ^ r.length := by
      have := Int.emod_lt_of_pos k fp
      rwa [Int.emod_def, Int.mul_comm] at this
    rw [csum_cells hlv, g4]
    unfold rc
    obtain ⟨a, b, c, d, rfl, -⟩ := perm4 hlv
    have ih := fun x y => rc_cells r (k - k / 4 ^ r.length * 4 ^ r.length) l t w h x y (s + 1) (fun z hz => hp z (List.mem_cons_of_mem _ hz)) m0 m1
    have cc := fun x y s => cells_congr (k := k - k / 4 ^ r.length * 4 ^ r.length) (k' := k) (r := r) (x := x) (y := y) (s := s) fun j hj => digit_mod hj
    simp only [rs, bs, fs, pwi, pl, ← resi_succ, ← LO_succ, ih, cc]
    omega
theorem rs_full {F : Int → Int → Int → Int → Int} {l t w h : Int} {lv : List Int} (hp : lv.Perm [0, 1, 2, 3]) : rs F 4 l t w h 0 lv = w * h := by
  obtain ⟨a, b, c, d, rfl, ha, ha', hb, hb', hc, hc', hd, hd'⟩ := perm4 hp
  simp only [rs, if_pos ha', if_pos hb', if_pos hc', if_pos hd', if_neg (Int.ne_of_lt ha'), if_neg (Int.ne_of_lt hb'), if_neg (Int.ne_of_lt hc'), if_neg (Int.ne_of_lt hd')]
  have e1 := resi_both l w
  have e2 := resi_both t h
  show resi l w 0 1 * resi t h 0 1 + 0 + (resi l w 1 1 * resi t h 0 1 + 0 + (resi l w 0 1 * resi t h 1 1 + 0 + (resi l w 1 1 * resi t h 1 1 + 0 + 0))) = w * h
  generalize resi l w 0 1 = A at *
  generalize resi l w 1 1 = B at *
  generalize resi t h 0 1 = A' at *
  generalize resi t h 1 1 = B' at *
  rw [← e1, ← e2, Int.add_mul, Int.mul_add, Int.mul_add]
  omega
/-- THE LAW'S COUNT is the count -/
theorem rcnt_cnt {ls : List (List Int)} (hp : ∀ l ∈ ls, l.Perm [0, 1, 2, 3]) (hn : 1 ≤ ls.length) {k l t w h : Int} (k0 : 0 ≤ k) (k1 : k ≤ 4 ^ ls.length) (hw : 0 ≤ w) (hh : 0 ≤ h) : rcnt ls k l t w h = cnt ls k l t w h := by
  rw [rcnt_rc ls k l t w h hp hw hh]
  unfold cnt cellsOf
  by_cases e : k = 4 ^ ls.length
  · rw [if_pos e]
    match ls, hn with
    | lv :: r, _ =>
      unfold rc
      have : k / 4 ^ r.length = 4 := by
        rw [e, List.length_cons, Int.pow_succ, Int.mul_comm, Int.mul_ediv_cancel _ (Int.ne_of_gt (four_pos _))]
      rw [this, rs_full (hp lv List.mem_cons_self)]
      simp [pwi, resi_one]
  · rw [if_neg e]
    have := rc_cells ls k l t w h 0 0 0 hp k0 (by omega)
    rw [LO_one, LO_one, resi_one, resi_one] at this
    exact this
/-! the count of parts, of moved windows, of whole periods -/
theorem cnt_wide (ls : List (List Int)) (k l t w w' h : Int) : cnt ls k l t w h + cnt ls k (l + w) t w' h = cnt ls k l t (w + w') h := by
  unfold cnt
  induction cellsOf k ls with
  | nil => rfl
  | cons c cs ih =>
    simp only [List.map_cons, List.sum_cons]
    have : pwi l t w h c + pwi (l + w) t w' h c = pwi l t (w + w') h c := by
      unfold pwi; rw [← Int.add_mul, resi_add]
    omega
theorem cnt_high (ls : List (List Int)) (k l t w h h' : Int) : cnt ls k l t w h + cnt ls k l (t + h) w h' = cnt ls k l t w (h + h') := by
  unfold cnt
  induction cellsOf k ls with
  | nil => rfl
  | cons c cs ih =>
    simp only [List.map_cons, List.sum_cons]
    have : pwi l t w h c + pwi l (t + h) w h' c = pwi l t w (h + h') c := by
      unfold pwi; rw [← Int.mul_add, resi_add]
    omega
theorem cnt_0w (ls : List (List Int)) (k l t h : Int) : cnt ls k l t 0 h = 0 := by
  unfold cnt
  induction cellsOf k ls with
  | nil => rfl
  | cons c cs ih => simp only [List.map_cons, List.sum_cons, ih, pwi, resi_0, Int.zero_mul, Int.add_zero]
theorem cnt_0h (ls : List (List Int)) (k l t w : Int) : cnt ls k l t w 0 = 0 := by
  unfold cnt
  induction cellsOf k ls with
  | nil => rfl
  | cons c cs ih => simp only [List.map_cons, List.sum_cons, ih, pwi, resi_0, Int.mul_zero, Int.add_zero]
theorem cnt_shift {ls : List (List Int)} (hl : ls.length ≤ 50) (hp : ∀ l ∈ ls, l.Perm [0, 1, 2, 3]) (k l t w h q r : Int) : cnt ls k (l + q * 2 ^ ls.length) (t + r * 2 ^ ls.length) w h = cnt ls k l t w h := by
  unfold cnt
  congr 1
  refine List.map_congr_left fun c hc => ?_
  obtain ⟨_, _, _, _, h5⟩ := cellsOf_ok hl hp c hc
  unfold pwi
  rw [resi_shift _ _ _ _ h5, resi_shift _ _ _ _ h5]
/-- how many places of a period a cell holds -/
def par (n : Nat) (c : Int × Int × Nat) : Int := 2 ^ (n - c.2.2) * 2 ^ (n - c.2.2)
theorem pow_sq (n : Nat) : (2 : Int) ^ n * 2 ^ n = 4 ^ n := by rw [← Int.pow_add, ← Nat.two_mul, Int.pow_mul]; rfl
theorem below_par {g x y : Int} {s n : Nat} : ∀ {lv : List Int} {c : Nat}, ((below g x y s c lv).map (par n)).sum = (lv.filter (fun z => decide (z < g))).length * 4 ^ (n - (s + 1))
  | [], c => by simp [below]
  | z :: r, c => by
    unfold below
    by_cases e : z < g
    · rw [if_pos e, List.map_cons, List.sum_cons, below_par, List.filter_cons_of_pos (by simpa using e), List.length_cons, Int.natCast_add, Int.add_mul]
      simp only [par, pow_sq]
      omega
    · rw [if_neg e, below_par, List.filter_cons_of_neg (by simpa using e)]
theorem below_cnt {g : Int} {lv : List Int} (hp : lv.Perm [0, 1, 2, 3]) (h0 : 0 ≤ g) (h4 : g ≤ 4) : ((lv.filter (fun z => decide (z < g))).length : Int) = g := by
  rw [(hp.filter _).length_eq]
  have : g = 0 ∨ g = 1 ∨ g = 2 ∨ g = 3 ∨ g = 4 := by omega
  rcases this with rfl | rfl | rfl | rfl | rfl <;> rfl
theorem emod_four (k p : Int) (hp : 0 < p) : k % (p * 4) = k / p % 4 * p + k % p := by
  rw [Int.emod_def k (p * 4), Int.emod_def (k / p) 4, Int.emod_def k p, ← Int.ediv_ediv_of_nonneg (Int.le_of_lt hp)]
  generalize k / p / 4 = q
  rw [Int.sub_mul, show p * 4 * q = 4 * q * p by simp only [Int.mul_assoc, Int.mul_left_comm, Int.mul_comm], Int.mul_comm p (k / p)]
  omega
theorem cells_par {k : Int} : ∀ (ls : List (List Int)) (x y : Int) (s n : Nat), (∀ l ∈ ls, l.Perm [0, 1, 2, 3]) → 0 ≤ k → s + ls.length = n → ((cells k ls x y s).map (par n)).sum = k % 4 ^ ls.length
  | [], x, y, s, n, hp, k0, hn => by simp [cells, Int.emod_one]
  | lv :: r, x, y, s, n, hp, k0, hn => by
    have hlv := hp lv List.mem_cons_self
    rw [List.length_cons] at hn
    have g0 : 0 ≤ k / 4 ^ r.length % 4 := Int.emod_nonneg _ (by decide)
    have g1 : k / 4 ^ r.length % 4 < 4 := Int.emod_lt_of_pos _ (by decide)
    rw [cells, List.map_append, List.sum_append, below_par, below_cnt hlv g0 (by omega)]
    obtain ⟨p, hp4⟩ := furth_mem (x := x) (y := y) (s := s) (c := 0) (digit_mem (k := k / 4 ^ r.length) hlv)
    rw [hp4]
    simp only
    rw [cells_par r p.1 p.2 (s + 1) n (fun z hz => hp z (List.mem_cons_of_mem _ hz)) k0 (by omega), show n - (s + 1) = r.length by omega, List.length_cons, Int.pow_succ, emod_four _ _ (four_pos _)]
theorem cnt_whole {ls : List (List Int)} (hl : ls.length ≤ 50) (hp : ∀ l ∈ ls, l.Perm [0, 1, 2, 3]) {k : Int} (k0 : 0 ≤ k) (k1 : k ≤ 4 ^ ls.length) (l t a b : Int) : cnt ls k l t (a * 2 ^ ls.length) (b * 2 ^ ls.length) = a * b * k := by
  have e : ∀ c ∈ cellsOf k ls, pwi l t (a * 2 ^ ls.length) (b * 2 ^ ls.length) c = a * b * par ls.length c := fun c hc => by
    obtain ⟨_, _, _, _, h5⟩ := cellsOf_ok hl hp c hc
    unfold pwi par
    rw [resi_whole _ _ _ h5, resi_whole _ _ _ h5]
    simp only [Int.mul_assoc, Int.mul_left_comm, Int.mul_comm]
  unfold cnt
  rw [List.map_congr_left e]
  have e2 : ∀ cs : List (Int × Int × Nat), (cs.map fun c => a * b * par ls.length c).sum = a * b * (cs.map (par ls.length)).sum := fun cs => by
    induction cs with
    | nil => simp
    | cons c cs ih => simp only [List.map_cons, List.sum_cons, ih, Int.mul_add]
  rw [e2]
  congr 1
  unfold cellsOf
  by_cases q : k = 4 ^ ls.length
  · rw [if_pos q, q]
    simp [par, pow_sq]
  · rw [if_neg q, cells_par ls 0 0 0 ls.length hp k0 (by omega), Int.emod_eq_of_lt k0 (by omega)]
end Lib

set_option Elab.async false
set_option linter.all false
set_option maxRecDepth 100000
set_option exponentiation.threshold 2000
namespace Lib
open PySem PySem.Spec PyProof.Rows L2 Dd
theorem strOk_of (s : String) : PyData.strOk (Str.ofString s) = true := by
  unfold PyData.strOk
  rw [Str.ofString_eq_toList]
  simp only [List.all_toArray', List.all_eq_true, List.mem_map]
  rintro n ⟨c, hc, rfl⟩
  have h := c.valid
  simp only [UInt32.isValidChar, Nat.isValidChar] at h
  have e : c.toNat = c.val.toNat := rfl
  rw [e]
  simp only [decide_eq_true_eq]
  omega
theorem shaped_str (s : String) : SeqAt.shaped (.str (Str.ofString s)) = true := by
  show (PyData.strOk (Str.ofString s) && decide (0 ≤ 64)) = true
  rw [strOk_of]; rfl
theorem eqv_str (a b : Str) : PyData.eqv (.str a) (.str b) = decide (a = b) := by
  first | rfl | (show (a == b) = _; exact Bool.eq_iff_iff.mpr (by simp))
theorem opNeD_s {a b : String} {S : Sg} : opNeD (.p (.str (Str.ofString a))) (.p (.str (Str.ofString b))) S = .ok (.p (.bl (!decide (Str.ofString a = Str.ofString b)))) S := by
  rw [opNeD_of (d := .str (Str.ofString a)) (e := .str (Str.ofString b)) rfl rfl (shaped_str a) (shaped_str b), eqv_str]
theorem opEqD_s {a b : String} {S : Sg} : opEqD (.p (.str (Str.ofString a))) (.p (.str (Str.ofString b))) S = .ok (.p (.bl (decide (Str.ofString a = Str.ofString b)))) S := by
  rw [opEqD_of (d := .str (Str.ofString a)) (e := .str (Str.ofString b)) rfl rfl (shaped_str a) (shaped_str b), eqv_str]
theorem opRepr_i {i : Int} {S : Sg} (h : Bt 1900 i) : opRepr (.p (.int i)) S = .ok (.p (.str (Str.ofString (toString i)))) S := by
  have := h.log2
  unfold opRepr dataR
  simp only [toPy]
  rw [if_pos (by omega)]
theorem opRepr_b {b : Bool} {S : Sg} : opRepr (.p (.bl b)) S = .ok (.p (.str (Str.ofString (if b = true then "True" else "False")))) S := by
  cases b <;> rfl
theorem pwi_bt {l t w h : Int} (k : WinOk l t w h) {c : Int × Int × Nat} (hc : CellOk' 50 c) : Bt 220 (pwi l t w h c) := by
  obtain ⟨k1, k2, k3, k4, k5, k6, k7, k8⟩ := k
  obtain ⟨c1, c2, c3, c4, c5⟩ := hc
  have e : (2 : Int) ^ 50 ≤ (1000000000000000000000000000000 : Int) := by decide
  exact (resi_bt (by omega) (by omega) (by omega) (by omega) c1 (by omega)).mul (resi_bt (by omega) (by omega) (by omega) (by omega) c3 (by omega))
theorem cnt_bt (ls : List (List Int)) (hl : ls.length ≤ 50) (hp : ∀ l ∈ ls, l.Perm [0, 1, 2, 3]) {k l t w h : Int} (hw : WinOk l t w h) : Bt 240 (cnt ls k l t w h) := by
  have gen : ∀ cs : List (Int × Int × Nat), (∀ c ∈ cs, CellOk' 50 c) → ((cs.map (pwi l t w h)).sum).natAbs ≤ cs.length * 2 ^ 220 := fun cs => by
    induction cs with
    | nil => intro _; simp
    | cons c cs ih =>
      intro hc
      have a := ih fun z hz => hc z (List.mem_cons_of_mem _ hz)
      have b : (pwi l t w h c).natAbs < 2 ^ 220 := pwi_bt hw (hc c List.mem_cons_self)
      rw [List.map_cons, List.sum_cons, List.length_cons, Nat.add_mul]
      have := Int.natAbs_add_le (pwi l t w h c) ((cs.map (pwi l t w h)).sum)
      omega
  have a := gen (cellsOf k ls) fun c hc => (cellsOf_ok hl hp c hc).mono hl
  have b := cellsOf_len (k := k) hl hp
  unfold Bt cnt
  have c : (cellsOf k ls).length * 2 ^ 220 ≤ 200 * 2 ^ 220 := Nat.mul_le_mul_right _ b
  have d : 200 * 2 ^ 220 < (2 : Nat) ^ 240 := by decide
  omega
theorem period_i (ls : List (List Int)) (h : ls.length ≤ 50) (st : Store) : s_Screen_period [.p (.scr (lvD ls))] st = .ok (.val (.int (2 ^ ls.length))) st := by
  have hl : (lvD ls).length = ls.length := List.length_map ..
  unfold s_Screen_period b_Screen_period
  simp! [hl, opShl_i (cshl1 (j := (ls.length : Int)) (by omega) (by omega)), Int.toNat_natCast, Int.one_mul]
theorem period_p (ls : List (List Int)) (h : ls.length ≤ 50) (S : Sg) : propK 0 s_Screen_period (.p (.scr (lvD ls))) S = .ok (.p (.int (2 ^ ls.length))) S := propK_scr (period_i ls h S.st)
theorem two_bd {d : Nat} (h : d ≤ 50) : 1 ≤ (2 : Int) ^ d ∧ (2 : Int) ^ d ≤ 2 ^ 50 := ⟨two_pos d, pow_bd h⟩
theorem shl_two (n : Nat) : (1 : Int) * 2 ^ ((n : Int)).toNat = 2 ^ n := by rw [Int.one_mul, Int.toNat_natCast]
theorem pow_cast {z : Int} {d : Nat} (h : z = (d : Int)) : (2 : Int) ^ z.toNat = 2 ^ d := by rw [h, Int.toNat_natCast]
theorem opSl_scp {l : List D} {lo hi : Option Int} {S : Sg} (h : l.length ≤ 1000) : opSl (.p (.scp l)) lo hi S = .ok (.r S.st.length) ⟨S.sl, S.st ++ [.mu (.lst (Dd.cutD l lo hi))]⟩ := if_pos (Nat.le_trans h (by rw [sizeLine_eq]; decide))
theorem cutD_to {α : Type} {l : List α} {n : Nat} : Dd.cutD l none (some (n : Int)) = l.take n := by
  unfold Dd.cutD HT.sIx
  simp only [List.drop_zero, Nat.sub_zero]
  rw [if_neg (show ¬ ((n : Int) < 0) by omega), Int.toNat_natCast]
  by_cases h : n ≤ l.length
  · rw [Nat.min_eq_left h]
  · rw [Nat.min_eq_right (show l.length ≤ n by omega), List.take_of_length_le (show l.length ≤ n by omega), List.take_of_length_le (show l.length ≤ l.length by omega)]
def catK : Option (List D) → Option (List D) → Sg → Res R
  | some a, some b, S => if a.length + b.length ≤ sizeLine then .ok (.r S.st.length) ⟨S.sl, S.st ++ [.mu (.lst (a ++ b))]⟩ else .bad
  | _, _, _ => .bad
theorem opAdd_rr {n m : Nat} {S : Sg} : opAdd (.r n) (.r m) S = catK (getLK S.st[n]?) (getLK S.st[m]?) S := by
  unfold opAdd
  simp only [asI, getM_r]
  cases getLK S.st[n]? <;> cases getLK S.st[m]? <;> rfl
theorem catK_ap {a b : List D} {S : Sg} (h : a.length + b.length ≤ 1000) : catK (some a) (some b) S = .ok (.r S.st.length) ⟨S.sl, S.st ++ [.mu (.lst (a ++ b))]⟩ := if_pos (Nat.le_trans h (by rw [sizeLine_eq]; decide))
def mulK (j : Int) (S : Sg) : Option (List D) → Res R
  | some l => if -(2 ^ 63) ≤ j ∧ j < 2 ^ 63 ∧ l.length * j.toNat ≤ sizeLine then .ok (.r S.st.length) ⟨S.sl, S.st ++ [.mu (.lst (List.replicate j.toNat l).flatten)]⟩ else .bad
  | none => .bad
theorem opMul_r {n : Nat} {j : Int} {S : Sg} : opMul (.r n) (.p (.int j)) S = mulK j S (getLK S.st[n]?) := by
  unfold opMul
  simp only [asI, getM_r]
  cases getLK S.st[n]? <;> rfl
theorem mulK_2 {l : List D} {S : Sg} (h : l.length ≤ 500) : mulK 2 S (some l) = .ok (.r S.st.length) ⟨S.sl, S.st ++ [.mu (.lst (l ++ l))]⟩ := by
  unfold mulK
  simp only
  rw [if_pos ⟨by decide, by decide, Nat.le_trans (show l.length * (2 : Int).toNat ≤ 1000 by show l.length * 2 ≤ 1000; omega) (by rw [sizeLine_eq]; decide)⟩]
  simp [List.replicate]
end Lib

set_option Elab.async false
set_option linter.all false
set_option maxRecDepth 100000
set_option exponentiation.threshold 2000
namespace Lib
open PySem PySem.Spec PyProof.Rows L2 Dd
/-- the digit of a level at a place -/
def dg (lv : List Int) (x y : Int) : Int := lv.getD (x % 2 + 2 * (y % 2)).toNat 0
def thr : List (List Int) → Int → Int → Int
  | [], _, _ => 0
  | lv :: r, x, y => dg lv x y * 4 ^ r.length + thr r (x / 2) (y / 2)
def Lvs (ls : List (List Int)) : Prop := ∀ l ∈ ls, l.Perm [0, 1, 2, 3]
theorem Lvs.tail {l : List Int} {ls : List (List Int)} (h : Lvs (l :: ls)) : Lvs ls := fun z hz => h z (List.mem_cons_of_mem _ hz)
theorem cellix (x y : Int) : 0 ≤ x % 2 + 2 * (y % 2) ∧ x % 2 + 2 * (y % 2) < 4 := by omega
theorem dg_get {lv : List Int} (h : lv.Perm [0, 1, 2, 3]) (x y : Int) : lv[(x % 2 + 2 * (y % 2)).toNat]? = some (dg lv x y) := by
  have := cellix x y
  have hl : lv.length = 4 := h.length_eq
  unfold dg
  rw [List.getD_eq_getElem?_getD, List.getElem?_eq_getElem (by omega)]
  rfl
theorem dg_bd {lv : List Int} (h : lv.Perm [0, 1, 2, 3]) (x y : Int) : 0 ≤ dg lv x y ∧ dg lv x y < 4 := by
  have hm := h.mem_iff.mp (List.mem_of_getElem? (dg_get h x y))
  simp only [List.mem_cons, List.not_mem_nil, or_false] at hm
  omega
theorem dg_ix {lv : List Int} (h : lv.Perm [0, 1, 2, 3]) (x y : Int) (S : Sg) : ixK (lv.map .int) (x % 2 + 2 * (y % 2)) S = .ok (.p (.int (dg lv x y))) S :=
  ixK_of (atI_of (cellix x y).1 (by rw [List.getElem?_map, dg_get h x y]; rfl))
theorem thr_bd : ∀ {ls : List (List Int)} (x y : Int), Lvs ls → 0 ≤ thr ls x y ∧ thr ls x y < 4 ^ ls.length
  | [], x, y, h => by simp [thr]
  | lv :: r, x, y, h => by
    obtain ⟨a, b⟩ := thr_bd (x / 2) (y / 2) h.tail
    obtain ⟨c, d⟩ := dg_bd (h lv List.mem_cons_self) x y
    unfold thr
    rw [List.length_cons, Int.pow_succ]
    have p := four_pos r.length
    have e : dg lv x y = 0 ∨ dg lv x y = 1 ∨ dg lv x y = 2 ∨ dg lv x y = 3 := by omega
    rcases e with e | e | e | e <;> rw [e] <;> omega
theorem thr_snoc : ∀ (ls : List (List Int)) (lv : List Int) (x y : Int), thr (ls ++ [lv]) x y = 4 * thr ls x y + dg lv (x / 2 ^ ls.length) (y / 2 ^ ls.length)
  | [], lv, x, y => by simp [thr]
  | l :: r, lv, x, y => by
    have ih := thr_snoc r lv (x / 2) (y / 2)
    show dg l x y * 4 ^ (r ++ [lv]).length + thr (r ++ [lv]) (x / 2) (y / 2) = 4 * (dg l x y * 4 ^ r.length + thr r (x / 2) (y / 2)) + _
    have e1 : ∀ z : Int, z / 2 / 2 ^ r.length = z / 2 ^ (l :: r).length := fun z => by
      rw [List.length_cons, Int.pow_succ, Int.mul_comm, Int.ediv_ediv_of_nonneg (by decide)]
    rw [ih, e1, e1, List.length_append, List.length_singleton, Int.pow_succ, ← Int.mul_assoc]
    generalize dg l x y * 4 ^ r.length = A
    omega
theorem thr_take {ls : List (List Int)} {i : Nat} {lv : List Int} (h : ls[i]? = some lv) (x y : Int) : thr (ls.take (i + 1)) x y = 4 * thr (ls.take i) x y + dg lv (x / 2 ^ i) (y / 2 ^ i) := by
  have hi := (List.getElem?_eq_some_iff.mp h).1
  rw [List.take_succ, h]
  show thr (ls.take i ++ [lv]) x y = _
  rw [thr_snoc, List.length_take, Nat.min_eq_left (by omega)]
theorem lvD_get {ls : List (List Int)} {i : Nat} {d : D} (h : (lvD ls)[i]? = some d) : ∃ lv, ls[i]? = some lv ∧ d = .tup (lv.map .int) ∧ lv ∈ ls := by
  unfold lvD at h
  rw [List.getElem?_map] at h
  cases q : ls[i]? with
  | none => rw [q] at h; cases h
  | some lv => rw [q] at h; cases h; exact ⟨lv, rfl, rfl, List.mem_of_getElem? q⟩
theorem lvD_len (ls : List (List Int)) : (lvD ls).length = ls.length := List.length_map ..
theorem fin_eq {r : FRes} {a : FR} {st : Store} (h : WpF r fun a' st' => a' = a ∧ st' = st) : r = .ok a st := by
  obtain ⟨_, _, e, rfl, rfl⟩ := h
  exact e
theorem thr_bt {ls : List (List Int)} (h : Lvs ls) (hl : ls.length ≤ 50) (x y : Int) : Bt 100 (thr ls x y) := by
  obtain ⟨a, b⟩ := thr_bd x y h
  obtain ⟨c, d⟩ := four_bd hl
  have e : ((2 ^ 100 : Nat) : Int) = 2 ^ 100 := rfl
  exact Bt.of ⟨by omega, by omega⟩
theorem Lvs.take {ls : List (List Int)} (h : Lvs ls) (i : Nat) : Lvs (ls.take i) := fun z hz => h z (List.mem_of_mem_take hz)
theorem thr_mul {ls : List (List Int)} (h : Lvs ls) (hl : ls.length ≤ 50) (i : Nat) (x y : Int) : CMulW 4 (thr (ls.take i) x y) :=
  cmulw (n := 3) (Bt.of (by decide)) (thr_bt (h.take i) (by rw [List.length_take]; omega) x y)
theorem two_mul_sm {z : Int} (h0 : 0 ≤ z) (h1 : z < 10) : CMulW 2 z := cmulw (n := 4) (m := 10) (Bt.of (by decide)) (Bt.of (by omega))
/-- the program's threshold -/
theorem threshold_at_i {ls : List (List Int)} (h : Lvs ls) (hl : ls.length ≤ 50) (x y : Int) (st : Store) : s_threshold_at [.p (.scr (lvD ls)), .p (.int x), .p (.int y)] st = .ok (.val (.int (thr ls x y))) st := by
  unfold s_threshold_at b_threshold_at
  simp! []
  refine fin_eq (wp_fin (wp_bnd (wp_loop (I := fun i S => ∃ z w, S = ⟨[some (.p (.scr (lvD ls))), some (.p (.int x)), some (.p (.int y)), some (.p (.int (thr (ls.take i) x y))), z, w], st⟩) ?_ ?_ ?_ ?_)))
  · exact ⟨none, none, rfl⟩
  · rintro j S ⟨z, w, rfl⟩; trivial
  · rintro j d S hj ⟨z, w, rfl⟩
    obtain ⟨d', rfl, hd⟩ := numbered_at hj
    obtain ⟨lv, hlv, rfl, hm⟩ := lvD_get hd
    rw [bind_bnd]
    have e0 : ((0 + j : Nat) : Int) = (j : Int) := by omega
    simp! [e0, opShr_i (i := x) (j := (j : Int)) (by omega), opShr_i (i := y) (j := (j : Int)) (by omega), Int.toNat_natCast, band1, opMul_i (thr_mul h hl j x y), opMul_i (two_mul_sm (z := y / 2 ^ j % 2) (by omega) (by omega)), dg_ix (h lv hm)]
    rw [← thr_take hlv]
    exact wp_ok ⟨_, _, rfl⟩
  · rintro S ⟨z, w, rfl⟩
    rw [numbered_len, lvD_len, List.take_length]
    simp! []
    refine wp_ok ?_
    simp! []
    exact wpf_ok ⟨rfl, rfl⟩
theorem require_coordinate_ok {x : Int} (h0 : -(1000000000000000000000000000000 : Int) ≤ x) (h1 : x ≤ (1000000000000000000000000000000 : Int)) (st : Store) : s_require_coordinate [.p (.int x)] st = .ok (.val .non) st := by
  unfold s_require_coordinate b_require_coordinate
  simp! [is_whole_i, h0, h1]
theorem require_place_ok {x y : Int} (h0 : -(1000000000000000000000000000000 : Int) ≤ x) (h1 : x ≤ (1000000000000000000000000000000 : Int)) (h2 : -(1000000000000000000000000000000 : Int) ≤ y) (h3 : y ≤ (1000000000000000000000000000000 : Int)) (st : Store) : s_require_place [.p (.int x), .p (.int y)] st = .ok (.val .non) st := by
  unfold s_require_place b_require_place
  simp! [require_coordinate_ok h0 h1, require_coordinate_ok h2 h3]
theorem is_dot_i {ls : List (List Int)} (h : Lvs ls) (hl : ls.length ≤ 50) {k x y : Int} (k0 : 0 ≤ k) (k1 : k ≤ 4 ^ ls.length) (h0 : -(1000000000000000000000000000000 : Int) ≤ x) (h1 : x ≤ (1000000000000000000000000000000 : Int)) (h2 : -(1000000000000000000000000000000 : Int) ≤ y) (h3 : y ≤ (1000000000000000000000000000000 : Int)) (st : Store) :
    s_is_dot [.p (.scr (lvD ls)), .p (.int k), .p (.int x), .p (.int y)] st = .ok (.val (.bl (decide (thr ls x y < k)))) st := by
  unfold s_is_dot b_is_dot
  simp! [require_screen_ok, require_shade_ok ls hl k k0 k1, require_place_ok h0 h1 h2 h3, threshold_at_i h hl]
/-- one place's count is whether it has a dot -/
theorem rc_one : ∀ (ls : List (List Int)) (k l t : Int), Lvs ls → 0 ≤ k → k < 4 ^ ls.length → rc ls k l t 1 1 = if thr ls l t < k then 1 else 0
  | [], k, l, t, h, k0, k1 => by
    unfold rc thr
    have : k = 0 := by simp at k1; omega
    subst this; rfl
  | lv :: r, k, l, t, h, k0, k1 => by
    have hlv := h lv List.mem_cons_self
    have fp := four_pos r.length
    have g0 : 0 ≤ k / 4 ^ r.length := Int.ediv_nonneg k0 (Int.le_of_lt fp)
    have g1 : k / 4 ^ r.length < 4 := Int.ediv_lt_of_lt_mul fp (by rw [List.length_cons, Int.pow_succ] at k1; omega)
    have m0 : 0 ≤ k - k / 4 ^ r.length * 4 ^ r.length := by
      have := Int.emod_nonneg k (Int.ne_of_gt fp)
      rwa [Int.emod_def, Int.mul_comm] at this
    have m1 : k - k / 4 ^ r.length * 4 ^ r.length < 4 ^ r.length := by
      have := Int.emod_lt_of_pos k fp
      rwa [Int.emod_def, Int.mul_comm] at this
    obtain ⟨a, b, c, d, rfl, -⟩ := perm4 hlv
    have z : ∀ (F : Int → Int → Int → Int → Int) (l t w h : Int), (w = 0 ∨ h = 0) → F = rc r (k - k / 4 ^ r.length * 4 ^ r.length) → F l t w h = 0 := fun F l t w h h0 e => by rw [e]; exact rc_zero _ _ _ _ _ _ h0
    have ih := rc_one r (k - k / 4 ^ r.length * 4 ^ r.length) (l / 2) (t / 2) h.tail m0 m1
    obtain ⟨t0, t1⟩ := thr_bd (l / 2) (t / 2) h.tail
    have dl : l % 2 = 0 ∨ l % 2 = 1 := by omega
    have dt : t % 2 = 0 ∨ t % 2 = 1 := by omega
    have r00 : ∀ z : Int, z % 2 = 0 → resi z 1 0 1 = 1 ∧ resi z 1 1 1 = 0 ∧ LO z 0 1 = z / 2 := fun z hz => by
      unfold resi LO; rw [Int.pow_one]; omega
    have r11 : ∀ z : Int, z % 2 = 1 → resi z 1 0 1 = 0 ∧ resi z 1 1 1 = 1 ∧ LO z 1 1 = z / 2 := fun z hz => by
      unfold resi LO; rw [Int.pow_one]; omega
    -- the digit decides
    have key : ∀ n : Int, 0 ≤ n → n < 4 → ((if n < k / 4 ^ r.length then 1 else 0) + (if n = k / 4 ^ r.length then (if thr r (l / 2) (t / 2) < k - k / 4 ^ r.length * 4 ^ r.length then 1 else 0) else 0) : Int) = if n * 4 ^ r.length + thr r (l / 2) (t / 2) < k then 1 else 0 := by
      intro n n0 n4
      have hk : k = k / 4 ^ r.length * 4 ^ r.length + (k - k / 4 ^ r.length * 4 ^ r.length) := by omega
      generalize k / 4 ^ r.length = q at *
      generalize hM : k - q * 4 ^ r.length = M at *
      by_cases c1 : n < q
      · have : (n + 1) * 4 ^ r.length ≤ q * 4 ^ r.length := Int.mul_le_mul_of_nonneg_right (by omega) (by omega)
        rw [Int.add_mul, Int.one_mul] at this
        rw [if_pos c1, if_neg (by omega), if_pos (by omega)]; rfl
      · by_cases c2 : n = q
        · subst c2
          rw [if_neg c1, if_pos rfl]
          by_cases c3 : thr r (l / 2) (t / 2) < M
          · rw [if_pos c3, if_pos (by omega)]; rfl
          · rw [if_neg c3, if_neg (by omega)]; rfl
        · have : (q + 1) * 4 ^ r.length ≤ n * 4 ^ r.length := Int.mul_le_mul_of_nonneg_right (by omega) (by omega)
          rw [Int.add_mul, Int.one_mul] at this
          rw [if_neg c1, if_neg c2, if_neg (by omega)]; rfl
    obtain ⟨b1, b2⟩ := dg_bd hlv l t
    have kk := key (dg [a, b, c, d] l t) b1 b2
    unfold rc thr
    rw [← kk]
    simp only [rs]
    rcases dl with dl | dl <;> rcases dt with dt | dt
    · obtain ⟨e1, e2, e3⟩ := r00 l dl
      obtain ⟨f1, f2, f3⟩ := r00 t dt
      have hd : dg [a, b, c, d] l t = a := by unfold dg; rw [dl, dt]; rfl
      simp [e1, e2, e3, f1, f2, f3, rc_zero, ih, hd]
    · obtain ⟨e1, e2, e3⟩ := r00 l dl
      obtain ⟨f1, f2, f3⟩ := r11 t dt
      have hd : dg [a, b, c, d] l t = c := by unfold dg; rw [dl, dt]; rfl
      simp [e1, e2, e3, f1, f2, f3, rc_zero, ih, hd]
    · obtain ⟨e1, e2, e3⟩ := r11 l dl
      obtain ⟨f1, f2, f3⟩ := r00 t dt
      have hd : dg [a, b, c, d] l t = b := by unfold dg; rw [dl, dt]; rfl
      simp [e1, e2, e3, f1, f2, f3, rc_zero, ih, hd]
    · obtain ⟨e1, e2, e3⟩ := r11 l dl
      obtain ⟨f1, f2, f3⟩ := r11 t dt
      have hd : dg [a, b, c, d] l t = d := by unfold dg; rw [dl, dt]; rfl
      simp [e1, e2, e3, f1, f2, f3, rc_zero, ih, hd]
theorem cnt_rc {ls : List (List Int)} (hp : Lvs ls) {k l t w h : Int} (k0 : 0 ≤ k) (k1 : k < 4 ^ ls.length) : rc ls k l t w h = cnt ls k l t w h := by
  have := rc_cells ls k l t w h 0 0 0 hp k0 k1
  rw [LO_one, LO_one, resi_one, resi_one] at this
  unfold cnt cellsOf
  rw [if_neg (by omega)]
  exact this
theorem cnt_one {ls : List (List Int)} (hp : Lvs ls) {k : Int} (k0 : 0 ≤ k) (k1 : k ≤ 4 ^ ls.length) (l t : Int) : cnt ls k l t 1 1 = if thr ls l t < k then 1 else 0 := by
  by_cases e : k = 4 ^ ls.length
  · have := (thr_bd l t hp).2
    rw [if_pos (by omega)]
    unfold cnt cellsOf
    rw [if_pos e]
    simp [pwi, resi_one]
  · rw [← cnt_rc hp k0 (by omega)]
    exact rc_one ls k l t hp k0 (by omega)
end Lib

set_option Elab.async false
set_option linter.all false
set_option maxRecDepth 100000
set_option exponentiation.threshold 2000
namespace Lib
open PySem PySem.Spec PyProof.Rows L2 Dd
theorem intsFrom_at {a : Int} {n j : Nat} {d : D} (h : (Dd.intsFrom a n)[j]? = some d) : d = .int (a + (j : Int)) ∧ j < n := intsFrom_get h
theorem BagC.mono {c : Cell} {C C' : Nat} (h : BagC c C) (k : C ≤ C') : BagC c C' := by
  obtain ⟨a, b, i, e, h0, h1⟩ := h
  exact ⟨a, b, i, e, h0, by omega⟩
theorem if_both {α : Type} {p : Prop} [Decidable p] {A B X : α} (h1 : p → A = X) (h2 : ¬ p → B = X) : (if p then A else B) = X := by split <;> simp_all
theorem tint {p : Prop} [Decidable p] : (if decide p = true then (1 : Int) else 0) = if p then 1 else 0 := by by_cases h : p <;> simp [h]
theorem int_mul2 (z : Int) : z % 2 = 0 ∨ z % 2 = 1 := by omega
/-- the law's threshold, by halves -/
theorem thr2_i {ls : List (List Int)} (h : Lvs ls) (hl : ls.length ≤ 50) (x y : Int) (st : Store) : s_z_law_threshold_v2 [.p (.lst (lvD ls)), .p (.int x), .p (.int y)] st = .ok (.val (.int (thr ls x y))) st := by
  unfold s_z_law_threshold_v2 b_z_law_threshold_v2
  simp! []
  refine fin_eq (wp_fin (wp_bnd (wp_loop (I := fun i S => ∃ z, S = ⟨[some (.p (.lst (lvD ls))), some (.p (.int x)), some (.p (.int y)), some (.p (.int (thr (ls.take i) x y))), some (.p (.int (x / 2 ^ i))), some (.p (.int (y / 2 ^ i))), z], st⟩) ?_ ?_ ?_ ?_)))
  · refine ⟨none, ?_⟩
    simp only [Int.pow_zero, Int.ediv_one]
    rfl
  · rintro j S ⟨z, rfl⟩; trivial
  · rintro j d S hj ⟨z, rfl⟩
    obtain ⟨lv, hlv, rfl, hm⟩ := lvD_get hj
    rw [bind_bnd]
    have b2 : (0 : Int) < 2 := by decide
    simp! [opMod_i b2, opMul_i (thr_mul h hl j x y), opMul_i (two_mul_sm (z := y / 2 ^ j % 2) (by omega) (by omega)), dg_ix (h lv hm), opDiv_i (d2 _)]
    rw [← thr_take hlv]
    refine wp_ok ⟨some (.p (.tup (lv.map .int))), ?_⟩
    have e1 : ∀ z : Int, z / 2 ^ (j + 1) = z / 2 ^ j / 2 := fun z => by rw [Int.pow_succ, Int.ediv_ediv_of_nonneg (Int.le_of_lt (two_pos j))]
    rw [e1, e1]
  · rintro S ⟨z, rfl⟩
    rw [lvD_len, List.take_length]
    simp! []
    refine wp_ok ?_
    simp! []
    exact wpf_ok ⟨rfl, rfl⟩
theorem small_d {p most : Int} (h0 : 1 ≤ p) (h1 : p ≤ 2 ^ 50) (h2 : 1 ≤ most) (h3 : most ≤ (1000000000000000000000000000000 : Int)) : Draws s_z_law_small (fun n => [.r n, .p (.int p), .p (.int most)]) (fun v => ∃ l t w h, v = winD l t w h ∧ WinOk l t w h ∧ w ≤ most ∧ h ≤ most) 12 := by
  refine dr_of fun st n c C hn hb hC => ?_
  unfold s_z_law_small b_z_law_small
  simp! [bnd_bnd]
  refine wpf_bnd (wp_draw0 (near_d h0 h1) hn hb (by omega) fun v1 c1 ⟨l, e1, a1, b1⟩ B1 => ?_); subst e1
  simp! [bnd_bnd]
  refine wpf_bnd (wp_draw0 (near_d h0 h1) hn B1 (by omega) fun v2 c2 ⟨t, e2, a2, b2⟩ B2 => ?_); subst e2
  simp! [bnd_bnd]
  refine wpf_bnd (wp_draw0 (pick_d (m := most) (by omega) (Int.lt_of_le_of_lt h3 (by decide))) hn B2 (by omega) fun v3 c3 ⟨w, e3, a3, b3⟩ B3 => ?_); subst e3
  simp! [bnd_bnd]
  refine wpf_bnd (wp_draw0 (pick_d (m := most) (by omega) (Int.lt_of_le_of_lt h3 (by decide))) hn B3 (by omega) fun v4 c4 ⟨h, e4, a4, b4⟩ B4 => ?_); subst e4
  simp! [bnd_bnd]
  exact wpf_ok ⟨_, c4, rfl, rfl, ⟨l, t, 1 + w, 1 + h, rfl, ⟨by omega, by omega, by omega, by omega, by omega, by omega, by omega, by omega⟩, by omega, by omega⟩, B4⟩
/-- a draw, the bag the last but l -/
theorem wp_drawE {B : Cell → Nat → Prop} {F : Fn} {xs : Nat → List R} {P : D → Prop} {k : Nat} (h : Dr B F xs P k) {sl : List (Option R)} {X l : Store} {c : Cell} {C : Nat} {Q : R → Sg → Prop} (hb : B c C) (hC : C + k ≤ 1000000)
    (q : ∀ v c', P v → B c' (C + k) → Q (.p v) ⟨sl, X ++ (c' :: l)⟩) : Wp (applyF ⟨sl, X ++ (c :: l)⟩ (F (xs X.length) (X ++ (c :: l)))) Q := by
  have e : ∀ c', X ++ (c' :: l) = (X ++ [c]).set X.length c' ++ l := fun c' => by rw [set_app0]; simp
  rw [e c]
  refine wp_draw h (by simp) hb hC fun v c' p b => ?_
  rw [← e c']
  exact q v c' p b
theorem wp_drawLE {B : Cell → Nat → Prop} {F : Fn} {xs : Nat → List R} {P : List D → Prop} {k : Nat} (h : DrL B F xs P k) {sl : List (Option R)} {X l : Store} {c : Cell} {C : Nat} {Q : R → Sg → Prop} (hb : B c C) (hC : C + k ≤ 1000000)
    (q : ∀ v c', P v → B c' (C + k) → Q (.r (X.length + (l.length + 1))) ⟨sl, X ++ (c' :: (l ++ [.mu (.lst v)]))⟩) : Wp (applyF ⟨sl, X ++ (c :: l)⟩ (F (xs X.length) (X ++ (c :: l)))) Q := by
  have e : ∀ c' l, X ++ (c' :: l) = (X ++ [c]).set X.length c' ++ l := fun c' l => by rw [set_app0]; simp
  rw [e c]
  refine wp_drawL h (by simp) hb hC fun v c' p b => ?_
  rw [← e c', show (X ++ [c]).length + l.length = X.length + (l.length + 1) by simp; omega]
  exact q v c' p b
theorem cutD_6 {ns : List Int} : Dd.cutD (ns.map D.int) none (some 6) = (ns.take 6).map D.int := by rw [List.map_take]; exact cutD_to (n := 6)
/-- script[:6] + [0] -/
theorem cells_len6 {ns : List Int} : ((ns.take 6).map D.int).length + [D.int 0].length ≤ 1000 := by
  rw [List.length_map, List.length_take, List.length_singleton]; omega
theorem cells_map {ns : List Int} : (ns.take 6).map D.int ++ [D.int 0] = (ns.take 6 ++ [0]).map D.int := by rw [List.map_append]; rfl
theorem cell_at {ns : List Int} {j : Nat} {d : D} (h : ((ns.take 6).map D.int ++ [D.int 0])[j]? = some d) : ∃ i : Int, d = .int i := by
  rw [cells_map, List.getElem?_map] at h
  cases q : (ns.take 6 ++ [0])[j]? with
  | none => rw [q] at h; cases h
  | some i => rw [q] at h; cases h; exact ⟨i, rfl⟩
theorem bag0 (i : Int) : BagC (.mu (.lst [.int (max 0 (i - 1000000000000000000)), .int i, .int 0])) 0 := ⟨_, _, _, rfl, by decide, by decide⟩
/-- the well-known screen of two levels -/
def four : List (List Int) := [[0, 2, 3, 1], [0, 2, 3, 1]]
theorem four_ok : LvOk four := ⟨by decide, by decide, by intro l hl; unfold four at hl; simp only [List.mem_cons, List.not_mem_nil, or_false] at hl; rcases hl with rfl | rfl <;> decide⟩
theorem four_D : lvD four = [.tup [.int 0, .int 2, .int 3, .int 1], .tup [.int 0, .int 2, .int 3, .int 1]] := rfl
theorem four_make (S : Sg) : makeK 0 s_Screen___init 2 [.p (.lst [.tup [.int 0, .int 2, .int 3, .int 1], .tup [.int 0, .int 2, .int 3, .int 1]])] S = .ok (.r S.st.length) ⟨S.sl, S.st ++ [.mu (.obj 0 [("own_levels", .tup [.tup [.int 0, .int 2, .int 3, .int 1], .tup [.int 0, .int 2, .int 3, .int 1]])])]⟩ := screen_make four four_ok S
theorem sPur_ap (i : Nat) (S : Sg) : sPur i S = (getK S.sl[i]? S).bnd fun x S => (pure1 x S).bnd fun d S => .ok .nx ⟨S.sl.set i (some (.p d)), S.st⟩ := by
  unfold sPur
  rw [bind_bnd, vr_ap]
  refine bnd_ext fun x S1 => ?_
  rw [bind_bnd]
  rfl
def bmap (F : Int → Bool) : D → D
  | .int x => .bl (F x)
  | d => d
theorem bmap_i {F : Int → Bool} {x : Int} : bmap F (.int x) = .bl (F x) := Eq.trans rfl rfl
def dmap (F : Int → Int) : D → D
  | .int x => .int (F x)
  | d => d
theorem dmap_i {F : Int → Int} {x : Int} : dmap F (.int x) = .int (F x) := Eq.trans rfl rfl
/-- == of a pure list with a new one, both of data -/
def eqLK (d : PyData) (S : Sg) : Option Cell → Res R
  | some (.mu (.lst l)) => (match toPyL l with
    | some ys => if SeqAt.shaped d = true ∧ SeqAt.shaped (.list ys) = true then .ok (.p (.bl (PyData.eqv d (.list ys)))) S else .bad
    | none => .bad)
  | _ => .bad
theorem opEqD_pr {x : D} {m : Nat} {S : Sg} {d : PyData} {l : List D} (h : toPy x = some d) (hm : S.st[m]? = some (.mu (.lst l))) : opEqD (.p x) (.r m) S = eqLK d S (some (.mu (.lst l))) := by
  unfold opEqD eqLK
  rw [dataR_p, dataR_r, hm, dataK_mu, h]
  simp only
  cases toPyL l <;> rfl
theorem opEqD_same {x : D} {m : Nat} {S : Sg} {d : PyData} {l : List D} {ys : List PyData} {b : Bool} (h : toPy x = some d) (hm : S.st[m]? = some (.mu (.lst l))) (hl : toPyL l = some ys) (s1 : SeqAt.shaped d = true) (s2 : SeqAt.shaped (.list ys) = true) (e : PyData.eqv d (.list ys) = b) :
    opEqD (.p x) (.r m) S = .ok (.p (.bl b)) S := by
  rw [opEqD_of (d := d) (e := .list ys) (by rw [dataR_p, h]) (by rw [dataR_r, hm, dataK_mu, hl]; rfl) s1 s2, e]
theorem opEqD_rr {k m : Nat} {S : Sg} {l l' : List D} {ys zs : List PyData} {b : Bool} (hk : S.st[k]? = some (.mu (.lst l))) (hm : S.st[m]? = some (.mu (.lst l'))) (hl : toPyL l = some ys) (hl' : toPyL l' = some zs) (s1 : SeqAt.shaped (.list ys) = true) (s2 : SeqAt.shaped (.list zs) = true) (e : PyData.eqv (.list ys) (.list zs) = b) :
    opEqD (.r k) (.r m) S = .ok (.p (.bl b)) S := by
  rw [opEqD_of (d := .list ys) (e := .list zs) (by rw [dataR_r, hk, dataK_mu, hl]; rfl) (by rw [dataR_r, hm, dataK_mu, hl']; rfl) s1 s2, e]
end Lib

set_option Elab.async false
set_option linter.all false
set_option maxRecDepth 100000
set_option exponentiation.threshold 2000
namespace Lib
open PySem PySem.Spec PyProof.Rows L2 Dd
/-- where a digit stands in a level -/
def ci4 (lv : List Int) (d : Int) : Nat := (Dd.idxOf lv d).getD 0
theorem idxOf_mem {lv : List Int} {d : Int} (h : d ∈ lv) : ∃ j, Dd.idxOf lv d = some j := by
  cases q : Dd.idxOf lv d with
  | some j => exact ⟨j, rfl⟩
  | none =>
    unfold Dd.idxOf at q
    rw [List.findIdx?_eq_none_iff] at q
    have := q d h
    simp at this
theorem ci4_get {lv : List Int} (hp : lv.Perm [0, 1, 2, 3]) {d : Int} (h0 : 0 ≤ d) (h1 : d < 4) : Dd.idxOf lv d = some (ci4 lv d) ∧ lv[ci4 lv d]? = some d ∧ ci4 lv d < 4 := by
  have hm : d ∈ lv := by
    rw [hp.mem_iff]
    simp only [List.mem_cons, List.not_mem_nil, or_false]
    omega
  obtain ⟨j, hj⟩ := idxOf_mem hm
  have e : ci4 lv d = j := by unfold ci4; rw [hj]; rfl
  rw [e]
  obtain ⟨a, b⟩ := Dd.idxOf_spec hj
  have := (List.getElem?_eq_some_iff.mp a).1
  have hl : lv.length = 4 := hp.length_eq
  exact ⟨hj, a, by omega⟩
theorem opTIdx_i {lv : List Int} (hp : lv.Perm [0, 1, 2, 3]) {d : Int} (h0 : 0 ≤ d) (h1 : d < 4) {S : Sg} : opTIdx (.p (.tup (lv.map .int))) [.p (.int d)] S = .ok (.p (.int (ci4 lv d : Nat))) S := by
  show opIdx (.p (.tup (lv.map .int))) [.p (.int d)] S = _
  unfold opIdx
  simp only [asI1, asI, getL_tup, intsOf_map, (ci4_get hp h0 h1).1]
theorem isTup_t {l : List D} {S : Sg} : isTup (.p (.tup l)) S = true := rfl
theorem fs_at {g x y : Int} {s : Nat} {F : Int × Int → Int} : ∀ {l : List Int} {c j : Nat}, l.Nodup → l[j]? = some g → fs g x y s F c l = F (pl (c + j) x y s)
  | [], c, j, h, e => by simp at e
  | n :: r, c, j, h, e => by
    have hr := List.nodup_cons.mp h
    cases j with
    | zero =>
      simp at e; subst e
      simp only [fs, if_true, fs_no hr.1, Int.add_zero]
      rfl
    | succ j =>
      have e' : r[j]? = some g := by simpa using e
      have ne : ¬ n = g := fun q => hr.1 (by rw [q]; exact List.mem_of_getElem? e')
      simp only [fs, if_neg ne, Int.zero_add]
      rw [fs_at hr.2 e', show c + 1 + j = c + (j + 1) by omega]
theorem fs_ci {g x y : Int} {s : Nat} {F : Int × Int → Int} {l : List Int} (hp : l.Perm [0, 1, 2, 3]) (h0 : 0 ≤ g) (h1 : g < 4) : fs g x y s F 0 l = F (pl (ci4 l g) x y s) := by
  have := fs_at (x := x) (y := y) (s := s) (F := F) (c := 0) (nodup4 hp) (ci4_get hp h0 h1).2.1
  rwa [Nat.zero_add] at this
theorem bs_succ {g x y : Int} {s : Nat} {F : Int × Int → Int} : ∀ {l : List Int} {c : Nat}, bs (g + 1) x y s F c l = bs g x y s F c l + fs g x y s F c l
  | [], c => rfl
  | n :: r, c => by
    simp only [bs, fs]
    rw [bs_succ]
    by_cases h1 : n < g
    · rw [if_pos h1, if_pos (by omega), if_neg (by omega)]; omega
    · by_cases h2 : n = g
      · rw [if_neg h1, if_pos (by omega), if_pos h2]; omega
      · rw [if_neg h1, if_neg (by omega), if_neg h2]; omega
theorem bs_zero {x y : Int} {s : Nat} {F : Int × Int → Int} {l : List Int} (hp : l.Perm [0, 1, 2, 3]) : bs 0 x y s F 0 l = 0 := by
  obtain ⟨a, b, c, d, rfl, h1, -, h2, -, h3, -, h4, -⟩ := perm4 hp
  simp only [bs, if_neg (show ¬ a < 0 by omega), if_neg (show ¬ b < 0 by omega), if_neg (show ¬ c < 0 by omega), if_neg (show ¬ d < 0 by omega), Int.add_zero]
section
variable {l t w h : Int}
/-- the places of a class with dots by the levels that are left -/
def cx (l t w h : Int) (ls : List (List Int)) (k x y : Int) (s : Nat) : Int := if k = 4 ^ ls.length then pwi l t w h (x, y, s) else csum l t w h (cells k ls x y s)
theorem cx_cnt (ls : List (List Int)) (k : Int) : cnt ls k l t w h = cx l t w h ls k 0 0 0 := by
  unfold cnt cx cellsOf csum
  by_cases e : k = 4 ^ ls.length
  · rw [if_pos e, if_pos e]; simp
  · rw [if_neg e, if_neg e]
def Fp (l t w h : Int) (s : Nat) : Int × Int → Int := fun p => pwi l t w h (p.1, p.2, s + 1)
theorem bs_all {x y : Int} {s : Nat} {lv : List Int} (hp : lv.Perm [0, 1, 2, 3]) : bs 4 x y s (Fp l t w h s) 0 lv = pwi l t w h (x, y, s) := by
  obtain ⟨a, b, c, d, rfl, -, h1, -, h2, -, h3, -, h4⟩ := perm4 hp
  simp only [bs, if_pos h1, if_pos h2, if_pos h3, if_pos h4, Fp, pwi, pl, resi_succ]
  have e1 := resi_both (LO l x s) (resi l w x s)
  have e2 := resi_both (LO t y s) (resi t h y s)
  show resi (LO l x s) (resi l w x s) 0 1 * resi (LO t y s) (resi t h y s) 0 1 + (resi (LO l x s) (resi l w x s) 1 1 * resi (LO t y s) (resi t h y s) 0 1 + (resi (LO l x s) (resi l w x s) 0 1 * resi (LO t y s) (resi t h y s) 1 1 + (resi (LO l x s) (resi l w x s) 1 1 * resi (LO t y s) (resi t h y s) 1 1 + 0))) = _
  have key : ∀ A B A' B' W H : Int, A + B = W → A' + B' = H → A * A' + (B * A' + (A * B' + (B * B' + 0))) = W * H := by
    intro A B A' B' W H e1 e2
    rw [← e1, ← e2, Int.add_mul, Int.mul_add, Int.mul_add]
    omega
  exact key _ _ _ _ _ _ e1 e2
theorem csum_zero : ∀ (ls : List (List Int)) (x y : Int) (s : Nat), Lvs ls → csum l t w h (cells 0 ls x y s) = 0
  | [], x, y, s, hp => rfl
  | lv :: r, x, y, s, hp => by
    rw [csum_cells (hp lv List.mem_cons_self)]
    simp only [Int.zero_ediv, Int.zero_emod]
    rw [bs_zero (hp lv List.mem_cons_self), fs_ci (hp lv List.mem_cons_self) (by decide) (by decide), csum_zero r _ _ _ hp.tail]
    rfl
theorem digit_of {g m : Int} {n : Nat} (m0 : 0 ≤ m) (m1 : m < 4 ^ n) : (g * 4 ^ n + m) / 4 ^ n = g := by
  have fp := four_pos n
  rw [Int.add_comm, Int.add_mul_ediv_right _ _ (Int.ne_of_gt fp), Int.ediv_eq_zero_of_lt m0 m1, Int.zero_add]
theorem cx_step {lv : List Int} {r : List (List Int)} {g m x y : Int} {s : Nat} (hp : Lvs (lv :: r)) (g0 : 0 ≤ g) (g1 : g < 4) (m0 : 0 ≤ m) (m1 : m ≤ 4 ^ r.length) :
    cx l t w h (lv :: r) (g * 4 ^ r.length + m) x y s = bs g x y s (Fp l t w h s) 0 lv + cx l t w h r m (pl (ci4 lv g) x y s).1 (pl (ci4 lv g) x y s).2 (s + 1) := by
  have hlv := hp lv List.mem_cons_self
  have fp := four_pos r.length
  by_cases e : m = 4 ^ r.length
  · have ek : g * 4 ^ r.length + m = (g + 1) * 4 ^ r.length := by rw [e, Int.add_mul, Int.one_mul]
    rw [ek]
    have er : cx l t w h r m (pl (ci4 lv g) x y s).1 (pl (ci4 lv g) x y s).2 (s + 1) = fs g x y s (Fp l t w h s) 0 lv := by
      unfold cx; rw [if_pos e, fs_ci hlv g0 g1]; rfl
    rw [er, ← bs_succ]
    by_cases g3 : g = 3
    · subst g3
      unfold cx
      rw [if_pos (by rw [List.length_cons, Int.pow_succ]; omega)]
      exact (bs_all hlv).symm
    · have lt : (g + 1) * 4 ^ r.length < 4 ^ (lv :: r).length := by
        rw [List.length_cons, Int.pow_succ, Int.mul_comm]
        exact Int.mul_lt_mul_of_pos_left (by omega) fp
      unfold cx
      rw [if_neg (by omega), csum_cells hlv]
      have d1 := digit_of (g := g + 1) (m := 0) (n := r.length) (by decide) fp
      rw [Int.add_zero] at d1
      rw [d1, Int.emod_eq_of_lt (by omega) (by omega), fs_ci hlv (by omega) (by omega)]
      have cz : cells ((g + 1) * 4 ^ r.length) r (pl (ci4 lv (g + 1)) x y s).1 (pl (ci4 lv (g + 1)) x y s).2 (s + 1) = cells 0 r (pl (ci4 lv (g + 1)) x y s).1 (pl (ci4 lv (g + 1)) x y s).2 (s + 1) := by
        have := cells_congr (k := (g + 1) * 4 ^ r.length - (g + 1) * 4 ^ r.length / 4 ^ r.length * 4 ^ r.length) (k' := (g + 1) * 4 ^ r.length) (r := r) (x := (pl (ci4 lv (g + 1)) x y s).1) (y := (pl (ci4 lv (g + 1)) x y s).2) (s := s + 1) fun j hj => digit_mod hj
        rw [d1, Int.sub_self] at this
        exact this.symm
      rw [cz, csum_zero r _ _ _ hp.tail]
      show _ + 0 = _
      rw [Int.add_zero]; rfl
  · have m2 : m < 4 ^ r.length := by omega
    have lt : g * 4 ^ r.length + m < 4 ^ (lv :: r).length := by
      rw [List.length_cons, Int.pow_succ]
      have : g * 4 ^ r.length ≤ 3 * 4 ^ r.length := Int.mul_le_mul_of_nonneg_right (by omega) (by omega)
      omega
    unfold cx
    rw [if_neg (by omega), if_neg e, csum_cells hlv, digit_of m0 m2, Int.emod_eq_of_lt g0 g1, fs_ci hlv g0 g1]
    have cz := cells_congr (k := (g * 4 ^ r.length + m) - (g * 4 ^ r.length + m) / 4 ^ r.length * 4 ^ r.length) (k' := g * 4 ^ r.length + m) (r := r) (x := (pl (ci4 lv g) x y s).1) (y := (pl (ci4 lv g) x y s).2) (s := s + 1) fun j hj => digit_mod hj
    rw [digit_of m0 m2, show g * 4 ^ r.length + m - g * 4 ^ r.length = m by omega] at cz
    rw [cz]; rfl
/-- the place with a threshold -/
def plc : List (List Int) → Int → Int → Int → Nat → Int × Int
  | [], _, x, y, _ => (x, y)
  | lv :: r, k, x, y, s => plc r (k - k / 4 ^ r.length * 4 ^ r.length) (pl (ci4 lv (k / 4 ^ r.length)) x y s).1 (pl (ci4 lv (k / 4 ^ r.length)) x y s).2 (s + 1)
theorem k_parts {k : Int} {n : Nat} (k0 : 0 ≤ k) (k1 : k < 4 ^ (n + 1)) : 0 ≤ k / 4 ^ n ∧ k / 4 ^ n < 4 ∧ 0 ≤ k - k / 4 ^ n * 4 ^ n ∧ k - k / 4 ^ n * 4 ^ n < 4 ^ n := by
  have fp := four_pos n
  refine ⟨Int.ediv_nonneg k0 (Int.le_of_lt fp), Int.ediv_lt_of_lt_mul fp (by rw [Int.pow_succ] at k1; omega), ?_, ?_⟩
  · have := Int.emod_nonneg k (Int.ne_of_gt fp)
    rwa [Int.emod_def, Int.mul_comm] at this
  · have := Int.emod_lt_of_pos k fp
    rwa [Int.emod_def, Int.mul_comm] at this
/-- one shade more adds the places of the threshold -/
theorem cx_next : ∀ (ls : List (List Int)) (k x y : Int) (s : Nat), Lvs ls → 0 ≤ k → k < 4 ^ ls.length → cx l t w h ls (k + 1) x y s = cx l t w h ls k x y s + pwi l t w h ((plc ls k x y s).1, (plc ls k x y s).2, s + ls.length)
  | [], k, x, y, s, hp, k0, k1 => by
    have : k = 0 := by simp at k1; omega
    subst this
    simp [cx, plc, cells, csum]
  | lv :: r, k, x, y, s, hp, k0, k1 => by
    obtain ⟨g0, g1, m0, m1⟩ := k_parts (n := r.length) k0 (by rwa [List.length_cons] at k1)
    have ek : k = k / 4 ^ r.length * 4 ^ r.length + (k - k / 4 ^ r.length * 4 ^ r.length) := by omega
    have ih := cx_next r (k - k / 4 ^ r.length * 4 ^ r.length) (pl (ci4 lv (k / 4 ^ r.length)) x y s).1 (pl (ci4 lv (k / 4 ^ r.length)) x y s).2 (s + 1) hp.tail m0 m1
    have a := cx_step (l := l) (t := t) (w := w) (h := h) (x := x) (y := y) (s := s) hp g0 g1 m0 (Int.le_of_lt m1)
    have b := cx_step (l := l) (t := t) (w := w) (h := h) (x := x) (y := y) (s := s) (m := k - k / 4 ^ r.length * 4 ^ r.length + 1) hp g0 g1 (by omega) (by omega)
    rw [← ek] at a
    rw [show k / 4 ^ r.length * 4 ^ r.length + (k - k / 4 ^ r.length * 4 ^ r.length + 1) = k + 1 by omega] at b
    rw [a, b, ih, List.length_cons, show s + (r.length + 1) = s + 1 + r.length by omega]
    simp only [plc]
    omega
end
end Lib

set_option Elab.async false
set_option linter.all false
set_option maxRecDepth 100000
set_option exponentiation.threshold 2000
namespace Lib
open PySem PySem.Spec PyProof.Rows L2 Dd
theorem pwi_nn {l t w h : Int} (hw : 0 ≤ w) (hh : 0 ≤ h) (c : Int × Int × Nat) : 0 ≤ pwi l t w h c := Int.mul_nonneg (resi_nn hw) (resi_nn hh)
theorem cnt_next {ls : List (List Int)} (hp : Lvs ls) {k l t w h : Int} (k0 : 0 ≤ k) (k1 : k < 4 ^ ls.length) : cnt ls (k + 1) l t w h = cnt ls k l t w h + pwi l t w h ((plc ls k 0 0 0).1, (plc ls k 0 0 0).2, ls.length) := by
  rw [cx_cnt, cx_cnt, cx_next ls k 0 0 0 hp k0 k1, Nat.zero_add]
theorem cnt_mono {ls : List (List Int)} (hp : Lvs ls) {l t w h : Int} (hw : 0 ≤ w) (hh : 0 ≤ h) {a b : Int} (h0 : 0 ≤ a) (hab : a ≤ b) (hb : b ≤ 4 ^ ls.length) : cnt ls a l t w h ≤ cnt ls b l t w h := by
  obtain ⟨n, rfl⟩ : ∃ n : Nat, b = a + n := ⟨(b - a).toNat, by omega⟩
  induction n with
  | zero => simp
  | succ n ih =>
    have := ih (by omega) (by omega)
    have e := cnt_next hp (k := a + n) (l := l) (t := t) (w := w) (h := h) (by omega) (by omega)
    have p := pwi_nn (l := l) (t := t) hw hh ((plc ls (a + n) 0 0 0).1, (plc ls (a + n) 0 0 0).2, ls.length)
    rw [show a + ((n + 1 : Nat) : Int) = a + n + 1 by omega, e]
    omega
theorem cnt_none {ls : List (List Int)} (hp : Lvs ls) (l t w h : Int) : cnt ls 0 l t w h = 0 := by
  have e : (0 : Int) ≠ 4 ^ ls.length := Int.ne_of_lt (four_pos _)
  rw [cx_cnt]
  unfold cx
  rw [if_neg e]
  exact csum_zero ls 0 0 0 hp
theorem cnt_full (ls : List (List Int)) (l t w h : Int) : cnt ls (4 ^ ls.length) l t w h = w * h := by
  rw [cx_cnt]
  unfold cx
  rw [if_pos rfl]
  simp [pwi, resi_one]
/-- the threshold with a number -/
def IsNth (ls : List (List Int)) (l t w h n T : Int) : Prop := 0 ≤ T ∧ T < 4 ^ ls.length ∧ cnt ls T l t w h ≤ n ∧ n < cnt ls (T + 1) l t w h
theorem IsNth.uniq {ls : List (List Int)} (hp : Lvs ls) {l t w h n T U : Int} (hw : 0 ≤ w) (hh : 0 ≤ h) (a : IsNth ls l t w h n T) (b : IsNth ls l t w h n U) : T = U := by
  obtain ⟨a0, a1, a2, a3⟩ := a
  obtain ⟨b0, b1, b2, b3⟩ := b
  rcases Int.lt_trichotomy T U with h1 | h1 | h1
  · have := cnt_mono hp (l := l) (t := t) hw hh (a := T + 1) (b := U) (by omega) (by omega) (by omega); omega
  · exact h1
  · have := cnt_mono hp (l := l) (t := t) hw hh (a := U + 1) (b := T) (by omega) (by omega) (by omega); omega
open Classical in
noncomputable def nthT (ls : List (List Int)) (l t w h n : Int) : Int := if q : ∃ T, IsNth ls l t w h n T then q.choose else 0
theorem nthT_of {ls : List (List Int)} (hp : Lvs ls) {l t w h n T : Int} (hw : 0 ≤ w) (hh : 0 ≤ h) (a : IsNth ls l t w h n T) : nthT ls l t w h n = T := by
  have q : ∃ T, IsNth ls l t w h n T := ⟨T, a⟩
  unfold nthT
  rw [dif_pos q]
  exact IsNth.uniq hp hw hh q.choose_spec a
theorem places_with_s {l t w h : Int} (k : WinOk l t w h) {x y : Int} {s : Nat} (hc : CellOk' 50 (x, y, s + 1)) (st : Store) :
    s_places_with [.p (winD l t w h), .p (.int x), .p (.int y), .p (.int ((s : Int) + 1))] st = .ok (.val (.int (pwi l t w h (x, y, s + 1)))) st := by
  have := places_with_i k hc st
  simp only [Int.natCast_add, Int.natCast_one] at this
  exact this
theorem shl_bit {c : Nat} (hc : c < 4) {s : Nat} (hs : s ≤ 100) : CShl ((c : Int) % 2) (s : Int) ∧ CShl ((c : Int) / 2) (s : Int) := ⟨cshl_sm (Bt.of (n := 1000) (by omega)) (by omega) (by omega), cshl_sm (Bt.of (n := 1000) (by omega)) (by omega) (by omega)⟩
theorem shr_one' (c : Nat) (S : Sg) : opShr (.p (.int (c : Int))) (.p (.int 1)) S = .ok (.p (.int ((c : Int) / 2))) S := by
  rw [opShr_i (by decide)]; rfl
theorem pl_ok {c : Nat} {x y : Int} {s : Nat} (hc : c < 4) (hx : 0 ≤ x) (hx' : x < 2 ^ s) (hy : 0 ≤ y) (hy' : y < 2 ^ s) (hs : s + 1 ≤ 50) : CellOk' 50 ((pl c x y s).1, (pl c x y s).2, s + 1) := by
  obtain ⟨a1, a2, a3, a4⟩ := pl_bd hc hx hx' hy hy'
  have := pow_bd hs
  exact ⟨a1, Int.lt_of_lt_of_le a2 this, a3, Int.lt_of_lt_of_le a4 this, hs⟩
theorem nth_of_window_i {ls : List (List Int)} (h50 : ls.length ≤ 50) (hp : Lvs ls) {l t w h N : Int} (hw : WinOk l t w h) (n0 : 0 ≤ N) (n1 : N < w * h) :
    IsNth ls l t w h N (nthT ls l t w h N) ∧ ∀ st, s_nth_of_window [.p (.scr (lvD ls)), .p (winD l t w h), .p (.int N)] st = .ok (.val (.int (nthT ls l t w h N))) st := by
  have hw' := hw
  obtain ⟨w1, w2, w3, w4, w5, w6, w7, w8⟩ := hw'
  suffices H : ∀ st, WpF (s_nth_of_window [.p (.scr (lvD ls)), .p (winD l t w h), .p (.int N)] st) fun a st' => st' = st ∧ ∃ T, a = .val (.int T) ∧ IsNth ls l t w h N T by
    obtain ⟨_, _, _, _, T, _, hT⟩ := H []
    refine ⟨(nthT_of hp (by omega) (by omega) hT).symm ▸ hT, fun st => ?_⟩
    obtain ⟨_, _, e, rfl, U, rfl, hU⟩ := H st
    rw [nthT_of hp (by omega) (by omega) hU]
    exact e
  intro st
  unfold s_nth_of_window b_nth_of_window
  simp! [bnd_bnd]
  refine wpf_bnd (wp_loop (I := fun j S => ∃ F n x y s7 s8 s9 s10 s11 s12, S = ⟨[some (.p (.scr (lvD ls))), some (.p (winD l t w h)), some (.p (.int N)), some (.p (.int F)), some (.p (.int n)), some (.p (.int x)), some (.p (.int y)), s7, s8, s9, s10, s11, s12], st⟩ ∧
      0 ≤ F ∧ F < 4 ^ j ∧ 0 ≤ x ∧ x < 2 ^ j ∧ 0 ≤ y ∧ y < 2 ^ j ∧ 0 ≤ n ∧ n < pwi l t w h (x, y, j) ∧ j ≤ ls.length ∧ ∀ m, 0 ≤ m → m ≤ 4 ^ (ls.drop j).length → cnt ls (F * 4 ^ (ls.drop j).length + m) l t w h = N - n + cx l t w h (ls.drop j) m x y j) ?_ ?_ ?_ ?_)
  · refine ⟨0, N, 0, 0, none, none, none, none, none, none, rfl, by decide, by decide, by decide, by decide, by decide, by decide, n0, ?_, Nat.zero_le _, fun m m0 m1 => ?_⟩
    · simp only [pwi, resi_one]; exact n1
    · rw [List.drop_zero, Int.zero_mul, Int.zero_add, cx_cnt]; omega
  · intros; trivial
  · rintro j d S hj ⟨F, n, x, y, s7, s8, s9, s10, s11, s12, rfl, F0, F1, x0, x1, y0, y1, nn0, nn1, hjl, hm⟩
    obtain ⟨d', rfl, hd⟩ := numbered_at hj
    obtain ⟨lv, hlv, rfl, hmem⟩ := lvD_get hd
    have hpl := hp lv hmem
    have hj' := (List.getElem?_eq_some_iff.mp hlv).1
    have edrop : ls.drop j = lv :: ls.drop (j + 1) := by
      rw [List.drop_eq_getElem_cons hj']
      congr 1
      exact (List.getElem?_eq_some_iff.mp hlv).2
    have hdr : (ls.drop j).length = (ls.drop (j + 1)).length + 1 := by rw [edrop]; rfl
    have e0 : ((0 + j : Nat) : Int) = (j : Int) := by omega
    rw [bind_bnd]
    simp! [bnd_bnd, e0]
    refine wp_bnd (wp_loop (I := fun i S => ∃ s9 s10 s11 s12, S = ⟨[some (.p (.scr (lvD ls))), some (.p (winD l t w h)), some (.p (.int N)), some (.p (.int F)), some (.p (.int (n - bs (i : Int) x y j (Fp l t w h j) 0 lv))), some (.p (.int x)), some (.p (.int y)), some (.p (.int j)), some (.p (.tup (lv.map .int))), s9, s10, s11, s12], st⟩ ∧ 0 ≤ n - bs (i : Int) x y j (Fp l t w h j) 0 lv ∧ i ≤ 4) ?_ ?_ ?_ ?_)
    · refine ⟨s9, s10, s11, s12, ?_, ?_, by decide⟩
      · show _ = (⟨[_, _, _, _, some (.p (.int (n - bs 0 x y j (Fp l t w h j) 0 lv))), _, _, _, _, _, _, _, _], st⟩ : Sg)
        rw [bs_zero hpl, Int.sub_zero]
      · show 0 ≤ n - bs 0 x y j (Fp l t w h j) 0 lv
        rw [bs_zero hpl]; omega
    · intros; trivial
    · rintro i q S hi ⟨s9, s10, s11, s12, rfl, b0, hi4⟩
      obtain ⟨rfl, hi'⟩ := intsFrom_at (show (Dd.intsFrom 0 4)[i]? = some q from hi)
      obtain ⟨ix1, ix2, ix3⟩ := ci4_get hpl (d := 0 + (i : Int)) (by omega) (by omega)
      obtain ⟨sh1, sh2⟩ := shl_bit ix3 (s := j) (by omega)
      have pk := fun st => places_with_s hw (pl_ok ix3 x0 x1 y0 y1 (by omega)) st
      have fe : fs (i : Int) x y j (Fp l t w h j) 0 lv = pwi l t w h ((pl (ci4 lv (0 + (i : Int))) x y j).1, (pl (ci4 lv (0 + (i : Int))) x y j).2, j + 1) := by
        rw [fs_ci hpl (by omega) (by omega), Int.zero_add]; rfl
      rw [bind_bnd]
      have pe : ∀ z : Nat, pl z x y j = (x + (z : Int) % 2 * 2 ^ j, y + (z : Int) / 2 * 2 ^ j) := fun z => rfl
      rw [pe] at pk fe
      simp only at pk fe
      simp! [bnd_bnd, isTup_t, opTIdx_i hpl (show 0 ≤ 0 + (i : Int) by omega) (show 0 + (i : Int) < 4 by omega), band1, opShl_i sh1, opShl_i sh2, shr_one', Int.toNat_natCast, pk]
      refine wp_if (fun hlt => ?_) fun hge => ?_
      · refine wp_ok ?_
        have mF : CMulW 4 F := by
          have q := four_bd (d := j) (by omega)
          have e : (2 : Int) ^ 100 < ((2 ^ 300 : Nat) : Int) := by decide
          exact cmulw (n := 3) (m := 300) (Bt.of (by decide)) (Bt.of ⟨by omega, by omega⟩)
        simp! [bnd_bnd, opMul_i mF]
        have hx : pl (ci4 lv (0 + (i : Int))) x y j = (x + (ci4 lv (0 + (i : Int)) : Int) % 2 * 2 ^ j, y + (ci4 lv (0 + (i : Int)) : Int) / 2 * 2 ^ j) := rfl
        obtain ⟨a1, a2, a3, a4⟩ := pl_bd (c := ci4 lv (0 + (i : Int))) (s := j) ix3 x0 x1 y0 y1
        rw [hx] at a1 a2 a3 a4
        refine wp_ok ⟨_, _, _, _, _, _, _, _, _, _, rfl, by omega, by rw [Int.pow_succ]; omega, a1, a2, a3, a4, b0, hlt, by omega, fun m m0 m1 => ?_⟩
        have fp := four_pos (ls.drop (j + 1)).length
        have mm : 0 ≤ (i : Int) * 4 ^ (ls.drop (j + 1)).length := Int.mul_nonneg (by omega) (by omega)
        have mm2 : (i : Int) * 4 ^ (ls.drop (j + 1)).length ≤ 3 * 4 ^ (ls.drop (j + 1)).length := Int.mul_le_mul_of_nonneg_right (by omega) (by omega)
        have h1 := hm ((i : Int) * 4 ^ (ls.drop (j + 1)).length + m) (by omega) (by rw [hdr, Int.pow_succ]; omega)
        have hst := cx_step (l := l) (t := t) (w := w) (h := h) (lv := lv) (r := ls.drop (j + 1)) (g := (i : Int)) (m := m) (x := x) (y := y) (s := j) (by rw [← edrop]; exact fun z hz => hp z (List.mem_of_mem_drop hz)) (by omega) (by omega) m0 m1
        rw [hdr, Int.pow_succ, edrop, hst] at h1
        rw [show (4 * F + (0 + (i : Int))) * 4 ^ (ls.drop (j + 1)).length + m = F * (4 ^ (ls.drop (j + 1)).length * 4) + ((i : Int) * 4 ^ (ls.drop (j + 1)).length + m) by
          rw [Int.add_mul, Int.zero_add, Int.mul_comm 4 F, Int.mul_assoc F, Int.mul_comm 4]; omega]
        rw [h1]
        have hx' := hx
        rw [Int.zero_add] at hx' ⊢
        rw [hx']
        have kk : ∀ A B : Int, N - n + (A + B) = N - (n - A) + B := fun A B => by omega
        exact kk _ _
      · have eb : n - bs (i : Int) x y j (Fp l t w h j) 0 lv - pwi l t w h (x + (ci4 lv (0 + (i : Int)) : Int) % 2 * 2 ^ j, y + (ci4 lv (0 + (i : Int)) : Int) / 2 * 2 ^ j, j + 1) = n - bs ((i + 1 : Nat) : Int) x y j (Fp l t w h j) 0 lv := by
          rw [show ((i + 1 : Nat) : Int) = (i : Int) + 1 by omega, bs_succ, fe, Int.sub_sub]
        rw [eb]
        exact wp_ok ⟨_, _, _, _, rfl, by rw [← eb]; omega, hi'⟩
    · rintro S ⟨s9, s10, s11, s12, rfl, b0, hi4⟩
      exfalso
      have e4 : (([D.int 0, D.int 1, D.int 2, D.int 3].length : Nat) : Int) = 4 := rfl
      rw [e4, bs_all hpl] at b0
      omega
  · rintro S ⟨F, n, x, y, s7, s8, s9, s10, s11, s12, rfl, F0, F1, x0, x1, y0, y1, nn0, nn1, hjl, hm⟩
    rw [numbered_len, lvD_len] at *
    have ed : ls.drop ls.length = [] := List.drop_length
    rw [ed] at hm
    simp! []
    refine wpf_ok ⟨rfl, F, rfl, F0, F1, ?_, ?_⟩
    · have := hm 0 (by decide) (by decide)
      simp [cx, cells, csum] at this
      omega
    · have := hm 1 (by decide) (by decide)
      simp [cx] at this
      omega
end Lib

set_option Elab.async false
set_option linter.all false
set_option maxRecDepth 100000
set_option exponentiation.threshold 2000
namespace Lib
open PySem PySem.Spec PyProof.Rows L2 Dd
theorem shades_i (ls : List (List Int)) (h : ls.length ≤ 50) (st : Store) : s_Screen_shades [.p (.scr (lvD ls))] st = .ok (.val (.int (4 ^ ls.length))) st := by
  unfold s_Screen_shades b_Screen_shades
  simp! [lvD_len, opMul_i (two_len h), opShl_i (cshl1 (j := 2 * (ls.length : Int)) (by omega) (by omega)), shl_four]
theorem shades_p (ls : List (List Int)) (h : ls.length ≤ 50) (S : Sg) : propK 0 s_Screen_shades (.p (.scr (lvD ls))) S = .ok (.p (.int (4 ^ ls.length))) S := propK_scr (shades_i ls h S.st)
theorem depth_i (ls : List (List Int)) (st : Store) : s_Screen_depth [.p (.scr (lvD ls))] st = .ok (.val (.int (ls.length : Nat))) st := by
  unfold s_Screen_depth b_Screen_depth
  simp! [lvD_len]
theorem depth_p (ls : List (List Int)) (S : Sg) : propK 0 s_Screen_depth (.p (.scr (lvD ls))) S = .ok (.p (.int (ls.length : Nat))) S := propK_scr (depth_i ls S.st)
theorem shr_four' (k : Int) (n : Nat) (S : Sg) : opShr (.p (.int k)) (.p (.int (2 * (n : Int)))) S = .ok (.p (.int (k / 4 ^ n))) S := by
  rw [opShr_i (by omega), shr_four]
theorem dg4 (k : Int) : 0 ≤ k % 4 ∧ k % 4 < 4 := by omega
theorem plc_congr {k k' : Int} : ∀ {r : List (List Int)} {x y : Int} {s : Nat}, 0 ≤ k → k < 4 ^ r.length → k' % 4 ^ r.length = k → plc r k x y s = plc r (k' % 4 ^ r.length) x y s := fun {r x y s} _ _ h => by rw [h]
/-- the place with a threshold, told by the digits -/
def plcD : List (List Int) → Int → Int → Int → Nat → Int × Int
  | [], _, x, y, _ => (x, y)
  | lv :: r, k, x, y, s => plcD r k (pl (ci4 lv (k / 4 ^ r.length % 4)) x y s).1 (pl (ci4 lv (k / 4 ^ r.length % 4)) x y s).2 (s + 1)
theorem plcD_congr {k k' : Int} : ∀ {r : List (List Int)} {x y : Int} {s : Nat}, (∀ j, j < r.length → k / 4 ^ j % 4 = k' / 4 ^ j % 4) → plcD r k x y s = plcD r k' x y s
  | [], x, y, s, h => rfl
  | lv :: r, x, y, s, h => by
    simp only [plcD]
    rw [h r.length (by rw [List.length_cons]; omega)]
    exact plcD_congr fun j hj => h j (by rw [List.length_cons]; omega)
theorem plcD_plc : ∀ {ls : List (List Int)} {k x y : Int} {s : Nat}, 0 ≤ k → k < 4 ^ ls.length → plcD ls k x y s = plc ls k x y s
  | [], k, x, y, s, k0, k1 => rfl
  | lv :: r, k, x, y, s, k0, k1 => by
    obtain ⟨g0, g1, m0, m1⟩ := k_parts (n := r.length) k0 (by rwa [List.length_cons] at k1)
    simp only [plcD, plc]
    rw [Int.emod_eq_of_lt g0 g1, ← plcD_plc m0 m1]
    exact plcD_congr fun j hj => (digit_mod hj).symm
theorem plcD_bd : ∀ {ls : List (List Int)} {k x y : Int} {s : Nat}, Lvs ls → 0 ≤ x → x < 2 ^ s → 0 ≤ y → y < 2 ^ s → 0 ≤ (plcD ls k x y s).1 ∧ (plcD ls k x y s).1 < 2 ^ (s + ls.length) ∧ 0 ≤ (plcD ls k x y s).2 ∧ (plcD ls k x y s).2 < 2 ^ (s + ls.length)
  | [], k, x, y, s, hp, x0, x1, y0, y1 => ⟨x0, x1, y0, y1⟩
  | lv :: r, k, x, y, s, hp, x0, x1, y0, y1 => by
    obtain ⟨a, b⟩ := dg4 (k / 4 ^ r.length)
    obtain ⟨a1, a2, a3, a4⟩ := pl_bd (c := ci4 lv (k / 4 ^ r.length % 4)) (s := s) (ci4_get (hp lv List.mem_cons_self) a b).2.2 x0 x1 y0 y1
    have := plcD_bd (ls := r) (k := k) (s := s + 1) hp.tail a1 a2 a3 a4
    simp only [plcD]
    rw [List.length_cons, show s + (r.length + 1) = s + 1 + r.length by omega]
    exact this
theorem place_of_i {ls : List (List Int)} (h50 : ls.length ≤ 50) (hp : Lvs ls) (k : Int) (st : Store) :
    s_place_of [.p (.tup (lvD ls)), .p (.int k)] st = .ok (.val (.tup [.int (plcD ls k 0 0 0).1, .int (plcD ls k 0 0 0).2])) st := by
  unfold s_place_of b_place_of
  simp! [bnd_bnd]
  refine fin_eq (wpf_bnd (wp_loop (I := fun j S => ∃ x y s4 s5 s6 s7, S = ⟨[some (.p (.tup (lvD ls))), some (.p (.int k)), some (.p (.int x)), some (.p (.int y)), s4, s5, s6, s7], st⟩ ∧ plcD ls k 0 0 0 = plcD (ls.drop j) k x y j) ?_ ?_ ?_ ?_))
  · exact ⟨0, 0, none, none, none, none, rfl, rfl⟩
  · intros; trivial
  · rintro j d S hj ⟨x, y, s4, s5, s6, s7, rfl, hm⟩
    obtain ⟨d', rfl, hd⟩ := numbered_at hj
    obtain ⟨lv, hlv, rfl, hmem⟩ := lvD_get hd
    have hpl := hp lv hmem
    have hj' := (List.getElem?_eq_some_iff.mp hlv).1
    have edrop : ls.drop j = lv :: ls.drop (j + 1) := by
      rw [List.drop_eq_getElem_cons hj']
      congr 1
      exact (List.getElem?_eq_some_iff.mp hlv).2
    have e0 : ((0 + j : Nat) : Int) = (j : Int) := by omega
    have er : ((ls.length : Nat) : Int) - 1 - (j : Int) = ((ls.drop (j + 1)).length : Nat) := by rw [List.length_drop]; omega
    obtain ⟨a, b⟩ := dg4 (k / 4 ^ (ls.drop (j + 1)).length)
    obtain ⟨ix1, ix2, ix3⟩ := ci4_get hpl a b
    obtain ⟨sh1, sh2⟩ := shl_bit ix3 (s := j) (by omega)
    rw [bind_bnd]
    simp! [bnd_bnd, e0, lvD_len, er, opMul_i (two_len (n := (ls.drop (j + 1)).length) (by rw [List.length_drop]; omega)), shr_four', band3, isTup_t, opTIdx_i hpl a b, band1, opShl_i sh1, opShl_i sh2, shr_one', Int.toNat_natCast]
    refine wp_ok ⟨_, _, _, _, _, _, rfl, ?_⟩
    rw [hm, edrop]
    simp only [plcD, pl]
  · rintro S ⟨x, y, s4, s5, s6, s7, rfl, hm⟩
    rw [numbered_len, lvD_len, List.drop_length] at hm
    simp! []
    refine wpf_ok ⟨?_, rfl⟩
    rw [hm]; rfl
theorem places_of_i {l t w h : Int} (k : WinOk l t w h) (st : Store) : s_places_of [.p (winD l t w h)] st = .ok (.val (.int (w * h))) st := by
  obtain ⟨w1, w2, w3, w4, w5, w6, w7, w8⟩ := k
  unfold s_places_of b_places_of winD
  simp! [opMul_i (cmulw (i := w) (j := h) (n := 110) (m := 110) (Bt.of (by omega)) (Bt.of (by omega)))]
theorem require_number_ok {n a b : Int} (h0 : a ≤ n) (h1 : n ≤ b) (st : Store) : s_require_number [.p (.int n), .p (.int a), .p (.int b)] st = .ok (.val .non) st := by
  unfold s_require_number b_require_number
  simp! [is_whole_i, h0, h1]
section
variable {ls : List (List Int)} {l t w h : Int}
theorem nth_threshold_i (h50 : ls.length ≤ 50) (hp : Lvs ls) (hw : WinOk l t w h) {n : Int} (n0 : 0 ≤ n) (n1 : n < w * h) (st : Store) :
    s_nth_threshold [.p (.scr (lvD ls)), .p (winD l t w h), .p (.int n)] st = .ok (.val (.int (nthT ls l t w h n))) st := by
  unfold s_nth_threshold b_nth_threshold
  simp! [require_screen_ok, require_window_ok hw, places_of_i hw, require_number_ok n0 (show n ≤ w * h - 1 by omega), (nth_of_window_i h50 hp hw n0 n1).2]
theorem area_pos (hw : WinOk l t w h) : 1 ≤ w * h := by
  obtain ⟨w1, w2, w3, w4, w5, w6, w7, w8⟩ := hw
  exact Int.mul_pos (by omega) (by omega)
theorem threshold_range_i (h50 : ls.length ≤ 50) (hp : Lvs ls) (hw : WinOk l t w h) (st : Store) :
    s_threshold_range [.p (.scr (lvD ls)), .p (winD l t w h)] st = .ok (.val (.tup [.int (nthT ls l t w h 0), .int (nthT ls l t w h (w * h - 1))])) st := by
  have := area_pos hw
  unfold s_threshold_range b_threshold_range
  simp! [require_screen_ok, require_window_ok hw, places_of_i hw, (nth_of_window_i h50 hp hw (N := 0) (by omega) (by omega)).2, (nth_of_window_i h50 hp hw (N := w * h - 1) (by omega) (by omega)).2]
/-- how often a threshold stands in a window -/
def tms (ls : List (List Int)) (l t w h k : Int) : Int := cnt ls (k + 1) l t w h - cnt ls k l t w h
theorem times_of_i (h50 : ls.length ≤ 50) (hp : Lvs ls) (hw : WinOk l t w h) {k : Int} (k0 : 0 ≤ k) (k1 : k < 4 ^ ls.length) (st : Store) :
    s_times_of [.p (.scr (lvD ls)), .p (winD l t w h), .p (.int k)] st = .ok (.val (.int (tms ls l t w h k))) st := by
  have e : tms ls l t w h k = pwi l t w h ((plcD ls k 0 0 0).1, (plcD ls k 0 0 0).2, ls.length) := by
    unfold tms
    rw [cnt_next hp k0 k1, plcD_plc k0 k1]; omega
  obtain ⟨a1, a2, a3, a4⟩ := plcD_bd (ls := ls) (k := k) (x := 0) (y := 0) (s := 0) hp (by decide) (by decide) (by decide) (by decide)
  rw [Nat.zero_add] at a2 a4
  have pb := pow_bd h50
  have pw := fun st => places_with_i (l := l) (t := t) (w := w) (h := h) (c := ((plcD ls k 0 0 0).1, (plcD ls k 0 0 0).2, ls.length)) hw ⟨a1, Int.lt_of_lt_of_le a2 pb, a3, Int.lt_of_lt_of_le a4 pb, h50⟩ st
  simp only at pw
  rw [← e] at pw
  unfold s_times_of b_times_of
  simp! [require_screen_ok, require_window_ok hw, shades_p ls h50, require_number_ok k0 (show k ≤ 4 ^ ls.length - 1 by omega), place_of_i h50 hp, depth_p, pw]
/-- the least shade with so many dots -/
noncomputable def lst (ls : List (List Int)) (l t w h n : Int) : Int := if n = 0 then 0 else nthT ls l t w h (n - 1) + 1
theorem least_with_i (h50 : ls.length ≤ 50) (hp : Lvs ls) (hw : WinOk l t w h) {n : Int} (n0 : 0 ≤ n) (n1 : n ≤ w * h) (st : Store) :
    s_least_with [.p (.scr (lvD ls)), .p (winD l t w h), .p (.int n)] st = .ok (.val (.int (lst ls l t w h n))) st := by
  unfold s_least_with b_least_with lst
  by_cases e : n = 0
  · simp! [e]
  · simp! [e, (nth_of_window_i h50 hp hw (N := n - 1) (by omega) (by omega)).2]
theorem least_shade_i (h50 : ls.length ≤ 50) (hp : Lvs ls) (hw : WinOk l t w h) {n : Int} (n0 : 0 ≤ n) (n1 : n ≤ w * h) (st : Store) :
    s_least_shade [.p (.scr (lvD ls)), .p (winD l t w h), .p (.int n)] st = .ok (.val (.int (lst ls l t w h n))) st := by
  unfold s_least_shade b_least_shade
  simp! [require_screen_ok, require_window_ok hw, places_of_i hw, require_number_ok n0 n1, least_with_i h50 hp hw n0 n1]
/-- the greatest one -/
noncomputable def grt (ls : List (List Int)) (l t w h n : Int) : Int := if n < w * h then nthT ls l t w h n else 4 ^ ls.length
theorem stretch_with_i (h50 : ls.length ≤ 50) (hp : Lvs ls) (hw : WinOk l t w h) {n : Int} (n0 : 0 ≤ n) (n1 : n ≤ w * h) (st : Store) :
    s_stretch_with [.p (.scr (lvD ls)), .p (winD l t w h), .p (.int n)] st = .ok (.val (if lst ls l t w h n ≤ grt ls l t w h n then .tup [.int (lst ls l t w h n), .int (grt ls l t w h n)] else .non)) st := by
  unfold s_stretch_with b_stretch_with grt
  by_cases e : n < w * h
  · simp! [least_with_i h50 hp hw n0 n1, shades_p ls h50, places_of_i hw, e, (nth_of_window_i h50 hp hw n0 e).2]
    split <;> simp! []
  · simp! [least_with_i h50 hp hw n0 n1, shades_p ls h50, places_of_i hw, e]
    split <;> simp! []
theorem shades_with_i (h50 : ls.length ≤ 50) (hp : Lvs ls) (hw : WinOk l t w h) {n : Int} (n0 : 0 ≤ n) (n1 : n ≤ w * h) (st : Store) :
    s_shades_with [.p (.scr (lvD ls)), .p (winD l t w h), .p (.int n)] st = .ok (.val (if lst ls l t w h n ≤ grt ls l t w h n then .tup [.int (lst ls l t w h n), .int (grt ls l t w h n)] else .non)) st := by
  unfold s_shades_with b_shades_with
  simp! [require_screen_ok, require_window_ok hw, places_of_i hw, require_number_ok n0 n1, stretch_with_i h50 hp hw n0 n1]
/-- what these are -/
theorem nth_is (h50 : ls.length ≤ 50) (hp : Lvs ls) (hw : WinOk l t w h) {n : Int} (n0 : 0 ≤ n) (n1 : n < w * h) : IsNth ls l t w h n (nthT ls l t w h n) := (nth_of_window_i h50 hp hw n0 n1).1
theorem lst_is (h50 : ls.length ≤ 50) (hp : Lvs ls) (hw : WinOk l t w h) {n : Int} (n0 : 0 ≤ n) (n1 : n ≤ w * h) : 0 ≤ lst ls l t w h n ∧ lst ls l t w h n ≤ 4 ^ ls.length ∧ n ≤ cnt ls (lst ls l t w h n) l t w h ∧ (0 < lst ls l t w h n → cnt ls (lst ls l t w h n - 1) l t w h < n) := by
  unfold lst
  by_cases e : n = 0
  · rw [if_pos e, cnt_none hp]
    exact ⟨by omega, Int.le_of_lt (four_pos _), by omega, fun z => by omega⟩
  · rw [if_neg e]
    obtain ⟨a, b, c, d⟩ := nth_is h50 hp hw (n := n - 1) (by omega) (by omega)
    exact ⟨by omega, by omega, by omega, fun _ => by rw [show nthT ls l t w h (n - 1) + 1 - 1 = nthT ls l t w h (n - 1) by omega]; omega⟩
theorem grt_is (h50 : ls.length ≤ 50) (hp : Lvs ls) (hw : WinOk l t w h) {n : Int} (n0 : 0 ≤ n) (n1 : n ≤ w * h) : 0 ≤ grt ls l t w h n ∧ grt ls l t w h n ≤ 4 ^ ls.length ∧ cnt ls (grt ls l t w h n) l t w h ≤ n ∧ (grt ls l t w h n < 4 ^ ls.length → n < cnt ls (grt ls l t w h n + 1) l t w h) := by
  unfold grt
  by_cases e : n < w * h
  · rw [if_pos e]
    obtain ⟨a, b, c, d⟩ := nth_is h50 hp hw n0 e
    exact ⟨a, by omega, c, fun _ => d⟩
  · rw [if_neg e, cnt_full]
    exact ⟨Int.le_of_lt (four_pos _), Int.le_refl _, by omega, fun z => by omega⟩
end
end Lib

set_option Elab.async false
set_option linter.all false
set_option maxRecDepth 100000
set_option exponentiation.threshold 2000
namespace Lib
open PySem PySem.Spec PyProof.Rows L2 Dd
/-- the other laws' bag -/
def ReelC (c : Cell) (C : Nat) : Prop := ∃ a b k : Int, c = .mu (.lst [.int a, .int b, .int k]) ∧ 0 ≤ b ∧ b < 2 ^ 150 ∧ 0 ≤ k ∧ k ≤ C
theorem ReelC.mono {c : Cell} {C C' : Nat} (h : ReelC c C) (k : C ≤ C') : ReelC c C' := by
  obtain ⟨a, b, i, e, h2, h3, h0, h1⟩ := h
  exact ⟨a, b, i, e, h2, h3, h0, by omega⟩
abbrev Spins := Dr ReelC
abbrev SpinsL := DrL ReelC
theorem spin_d {m : Int} (h0 : 0 < m) (h1 : m < 2 ^ 200) : Spins s_z_law_spin (fun n => [.r n, .p (.int m)]) (InR 0 m) 1 := by
  apply dr_of
  intro st n c C hn hb hC
  obtain ⟨a, b, k, rfl, b0, b1, k0, k1⟩ := hb
  have hs : ∀ x : Cell, (st.set n x)[n]? = some x := fun x => List.getElem?_set_self hn
  have dm : CDivW a m := cdivw h0 (Int.lt_of_lt_of_le h1 (by decide))
  unfold s_z_law_spin b_z_law_spin
  by_cases ha : 0 < a
  · simp! [hs, ha, opMod_i h0, opDiv_i dm, List.set_set]
    exact wpf_ok ⟨_, _, rfl, rfl, ⟨a % m, rfl, Int.emod_nonneg _ (by omega), Int.emod_lt_of_pos _ h0⟩, a / m, b, k, rfl, b0, b1, k0, by omega⟩
  · have m1 : CMulW 86028121 (k + 1) := cmulw (Bt.of (n := 40) (by decide)) (Bt.of (n := 40) (by omega))
    have p1 : CPowW (b + 86028121 * (k + 1)) 3 := cpoww (Bt.of (n := 160) (by omega)) (by decide) (by decide)
    generalize hf : (b + 86028121 * (k + 1)) ^ (3 : Int).toNat % 1000000000000000000000000000000000000000063 = f
    have f0 : 0 ≤ f := hf ▸ Int.emod_nonneg _ (by decide)
    have f1 : f < 1000000000000000000000000000000000000000063 := hf ▸ Int.emod_lt_of_pos _ (by decide)
    have m2 : CMulW 67867967 (k + 1) := cmulw (Bt.of (n := 40) (by decide)) (Bt.of (n := 40) (by omega))
    have p2 : CPowW (f + 67867967 * (k + 1)) 3 := cpoww (Bt.of (n := 160) (by omega)) (by decide) (by decide)
    generalize hg : (f + 67867967 * (k + 1)) ^ (3 : Int).toNat % 100000000000000000000000000000000000000000057 = g
    have q1 : CPowW 10 42 := by decide
    have q2 : CPowW 10 44 := by decide
    have z1 : (0 : Int) < 1000000000000000000000000000000000000000063 := by decide
    have z2 : (0 : Int) < 100000000000000000000000000000000000000000057 := by decide
    simp! [hs, ha, List.set_set, opMul_i m1, opPow_i p1, opPow_i q1, opMod_i z1]
    simp only [Int.reduceToNat] at hf hg
    simp! [hf, hs, opMul_i m2, opPow_i p2, opPow_i q2, opMod_i z2]
    simp! [hg, opDiv_i (cdivw (i := g) (j := 655331) (by decide) (by decide)), opMod_i h0]
    exact wpf_ok ⟨_, _, rfl, rfl, ⟨g / 655331 % m, rfl, Int.emod_nonneg _ (by omega), Int.emod_lt_of_pos _ h0⟩, a, b, k + 1, rfl, b0, b1, by omega, by omega⟩
theorem power_i {d : Nat} (h : d ≤ 200) (st : Store) : s_z_law_power [.p (.int (d : Int))] st = .ok (.val (.int (2 ^ d))) st := by
  unfold s_z_law_power b_z_law_power
  simp! [rngK1_n (show d ≤ 1000000 by omega)]
  refine fin_eq (wpf_bnd (wp_loop (I := fun i S => ∃ z, i ≤ d ∧ S = ⟨[some (.p (.int (d : Int))), some (.p (.int (2 ^ i))), z], st⟩) ?_ ?_ ?_ ?_))
  · exact ⟨none, Nat.zero_le _, rfl⟩
  · intros; trivial
  · rintro j q S hj ⟨z, hi, rfl⟩
    obtain ⟨rfl, hj'⟩ := intsFrom_at hj
    rw [bind_bnd]
    have pj : (2 : Int) ^ j ≤ 2 ^ 200 := pow_bd (by omega)
    have pp := two_pos j
    have e3 : (2 : Int) ^ 200 < ((2 ^ 300 : Nat) : Int) := by decide
    simp! [opMul_i (i := 2) (j := 2 ^ j) (cmulw (n := 2) (m := 300) (Bt.of (by decide)) (Bt.of ⟨by omega, by omega⟩))]
    refine wp_ok ⟨some (.p (.int (0 + (j : Int)))), hj', ?_⟩
    rw [Int.pow_succ, Int.mul_comm]
  · rintro S ⟨z, hi, rfl⟩
    rw [Dd.intsFrom_length]
    simp! []
    exact wpf_ok ⟨rfl, rfl⟩
theorem opNeD_ints {k m : Nat} {S : Sg} {l : List Int} (hk : S.st[k]? = some (.mu (.lst (l.map .int)))) (hm : S.st[m]? = some (.mu (.lst []))) : opNeD (.r k) (.r m) S = .ok (.p (.bl (!decide (l = [])))) S := by
  rw [opNeD_of (d := .list (l.map .int)) (e := .list ([].map PyData.int)) (by rw [dataR_r, hk, dataK_ints]) (by rw [dataR_r, hm]; rfl) (shaped_li _) (shaped_li _)]
  show Res.ok (R.p (.bl (!PyData.eqvAll (l.map PyData.int) ([].map PyData.int)))) S = _
  rw [eqvAll_ints]
theorem mixed_d : SpinsL s_z_law_mixed (fun n => [.r n, .p (.lst [.int 0, .int 1, .int 2, .int 3])]) (fun v => ∃ l : List Int, v = l.map .int ∧ l.Perm [0, 1, 2, 3]) 4 := by
  apply drL_of
  intro st n c C hn hb hC
  unfold s_z_law_mixed b_z_law_mixed
  simp! [bnd_bnd, opList, getL_lst, finishR_mu]
  refine wpf_bnd (wp_while (I := fun m S => ∃ (c' : Cell) (left lev : List Int) (rest : Store), S = ⟨[some (.r n), some (.p (.lst [.int 0, .int 1, .int 2, .int 3])), some (.r st.length), some (.r (st.length + 1))], st.set n c' ++ (.mu (.lst (left.map .int)) :: .mu (.lst (lev.map .int)) :: rest)⟩ ∧ left.length = m ∧ lev.length + m = 4 ∧ (lev ++ left).Perm [0, 1, 2, 3] ∧ ReelC c' (C + lev.length)) 4 ?_ ?_)
  · exact ⟨c, [0, 1, 2, 3], [], [], rfl, rfl, rfl, List.Perm.refl _, hb⟩
  · rintro m S ⟨c', left, lev, rest, rfl, hm, hlen, hp, B⟩
    have ne : ∀ k S, S.st[st.length]? = some (.mu (.lst (left.map .int))) → S.st[k]? = some (.mu (.lst [])) → opNeD (.r st.length) (.r k) S = .ok (.p (.bl (!decide (left = [])))) S := fun k S h1 h2 => opNeD_ints h1 h2
    simp! [bnd_bnd]
    rw [ne]
    rotate_left
    · show (List.set st n c' ++ _)[st.length]? = _
      rw [get_set_app0]; rfl
    · show (List.set st n c' ++ _)[_]? = _
      rw [get_set_app]; simp
    · cases left with
      | nil =>
        simp! []
        refine wp_ok ?_
        rw [if_neg (by decide)]
        simp! [bnd_bnd]
        rw [finishR_mu (o := .lst (lev.map .int)) (by show (List.set st n c' ++ _)[_]? = _; rw [get_set_app]; rfl) (by omega), take_set_app]
        have h4 : lev.length = 4 := by simp at hm; omega
        rw [h4] at B
        rw [List.append_nil] at hp
        exact wpf_ok ⟨_, c', rfl, rfl, ⟨lev, rfl, hp⟩, B⟩
      | cons z left =>
        simp! [List.cons_ne_nil]
        refine wp_ok ?_
        rw [if_pos rfl]
        simp! [bnd_bnd, List.length_map]
        have hm' : left.length + 1 = m := by simpa using hm
        have hl5 : left.length + 1 ≤ 4 := by omega
        refine wp_bnd (wp_draw (spin_d (m := ((left.length + 1 : Nat) : Int)) (by omega) (Int.lt_of_le_of_lt (show ((left.length + 1 : Nat) : Int) ≤ 4 by omega) (by decide))) hn B (by omega) fun v2 c2 ⟨v, e2, a2, b2⟩ B2 => ?_)
        subst e2
        have hk : v.toNat < (z :: left).length := by rw [List.length_cons]; omega
        have hd : (D.int z :: left.map D.int)[v.toNat]? = some (.int (z :: left)[v.toNat]) := by
          show ((z :: left).map D.int)[v.toNat]? = _
          rw [List.getElem?_map, List.getElem?_eq_getElem hk]; rfl
        simp! [bnd_bnd, popC_of a2 hd (show (D.int z :: left.map D.int).length < 1000000 by rw [List.length_cons, List.length_map]; omega), appK_ap (show (lev.map D.int).length < 1000000 by rw [List.length_map]; omega)]
        refine wp_ok ⟨left.length, by simp at hm; omega, c2, (z :: left).eraseIdx v.toNat, lev ++ [(z :: left)[v.toNat]], rest ++ [.mu (.lst [])], ?_, ?_, ?_, ?_, ?_⟩
        · rw [List.map_append]
          show _ = (⟨_, st.set n c2 ++ (.mu (.lst (((z :: left).eraseIdx v.toNat).map D.int)) :: _)⟩ : Sg)
          rw [← map_erase]; rfl
        · rw [List.length_eraseIdx_of_lt hk]; rfl
        · rw [List.length_append]; simp at hm ⊢; omega
        · refine List.Perm.trans ?_ hp
          rw [List.append_assoc]
          exact (perm_getE hk).append_left lev
        · rw [List.length_append]; exact B2
theorem drawn_levels_d {most : Int} (h0 : 0 < most) (h1 : most ≤ 50) : SpinsL s_z_law_drawn_levels (fun n => [.r n, .p (.int most)]) (fun v => ∃ ls, v = lvD ls ∧ LvOk ls ∧ (ls.length : Int) ≤ most) 250 := by
  apply drL_of
  intro st n c C hn hb hC
  unfold s_z_law_drawn_levels b_z_law_drawn_levels
  simp! [bnd_bnd]
  refine wpf_bnd (wp_draw (spin_d (m := most) h0 (by omega)) hn hb (by omega) fun v2 c2 ⟨v, e2, a2, b2⟩ B2 => ?_)
  subst e2
  obtain ⟨d, hd⟩ : ∃ d : Nat, 1 + v = (d : Int) := ⟨(1 + v).toNat, by omega⟩
  simp! [bnd_bnd, hd, rngK1_n (show d ≤ 1000000 by omega)]
  refine wpf_bnd (wp_loop (I := fun i S => ∃ (c' : Cell) (ls : List (List Int)) (rest : Store) (z : Option R), S = ⟨[some (.r n), some (.p (.int most)), some (.r st.length), z], st.set n c' ++ (.mu (.lst (lvD ls)) :: rest)⟩ ∧ ls.length = i ∧ Lvs ls ∧ i ≤ d ∧ ReelC c' (C + 1 + 4 * i)) ?_ ?_ ?_ ?_)
  · exact ⟨c2, [], [], none, rfl, rfl, fun _ h => by simp at h, Nat.zero_le _, B2⟩
  · intros; trivial
  · rintro j q S hj ⟨c', ls, rest, z, rfl, hl, hp, hi, B⟩
    obtain ⟨rfl, hj'⟩ := intsFrom_at hj
    rw [bind_bnd]
    simp! [bnd_bnd]
    refine wp_bnd (wp_drawL mixed_d hn B (by omega) fun v4 c4 ⟨l, e4, hl4⟩ B4 => ?_)
    subst e4
    have e5 : ∀ x : Cell, st.length + (Cell.mu (Con.lst (lvD ls)) :: (rest ++ [x])).length = st.length + (rest.length + 1 + 1) := fun x => by simp
    rw [e5]
    simp! [bnd_bnd, appK_ap (show (lvD ls).length < 1000000 by rw [lvD_len]; omega), getLK_mu]
    refine wp_ok ⟨c4, ls ++ [l], rest ++ [.fz [.int 0, .int 1, .int 2, .int 3], .mu (.lst (l.map .int))], some (.p (.int (0 + (j : Int)))), ?_, ?_, ?_, hj', ?_⟩
    · unfold lvD; rw [List.map_append]; rfl
    · rw [List.length_append, hl]; rfl
    · intro z hz
      rcases List.mem_append.mp hz with hz | hz
      · exact hp z hz
      · rw [List.mem_singleton.mp hz]; exact hl4
    · exact B4.mono (by omega)
  · rintro S ⟨c', ls, rest, z, rfl, hl, hp, hi, B⟩
    rw [Dd.intsFrom_length] at hl B
    simp! []
    rw [finishR_mu (o := .lst (lvD ls)) (by show (List.set st n c' ++ _)[_]? = _; rw [get_set_app0]; rfl) (Nat.le_refl _), take_set_app]
    exact wpf_ok ⟨_, c', rfl, rfl, ⟨ls, rfl, ⟨by omega, by omega, hp⟩, by omega⟩, B.mono (by omega)⟩
theorem ix6 {a b c d e f i : Int} (h0 : 0 ≤ i) (h1 : i < 6) : ∃ z, (∀ S, ixK [.int a, .int b, .int c, .int d, .int e, .int f] i S = .ok (.p (.int z)) S) ∧ (z = a ∨ z = b ∨ z = c ∨ z = d ∨ z = e ∨ z = f) := by
  have h : i = 0 ∨ i = 1 ∨ i = 2 ∨ i = 3 ∨ i = 4 ∨ i = 5 := by omega
  rcases h with rfl | rfl | rfl | rfl | rfl | rfl
  · exact ⟨a, fun S => ixK_0, .inl rfl⟩
  · exact ⟨b, fun S => ixK_1, .inr (.inl rfl)⟩
  · exact ⟨c, fun S => ixK_2, .inr (.inr (.inl rfl))⟩
  · exact ⟨d, fun S => ixK_3, .inr (.inr (.inr (.inl rfl)))⟩
  · exact ⟨e, fun S => ixK_of (atI_of (by decide) rfl), .inr (.inr (.inr (.inr (.inl rfl))))⟩
  · exact ⟨f, fun S => ixK_of (atI_of (by decide) rfl), .inr (.inr (.inr (.inr (.inr rfl))))⟩
theorem four_two (n : Nat) : (2 : Int) ^ (2 * n) = 4 ^ n := by rw [Int.pow_mul]; rfl
theorem drawn_shade_d {ls : List (List Int)} (hl : ls.length ≤ 50) : Spins s_z_law_drawn_shade (fun n => [.r n, .p (.lst (lvD ls))]) (InR 0 (4 ^ ls.length + 1)) 3 := by
  apply dr_of
  intro st n c C hn hb hC
  obtain ⟨q1, q2⟩ := four_bd hl
  have q3 : (2 : Int) ^ 100 < 2 ^ 199 := by decide
  have pw := power_i (d := 2 * ls.length) (by omega)
  rw [four_two] at pw
  have e2 : (2 : Int) * (ls.length : Int) = ((2 * ls.length : Nat) : Int) := by omega
  unfold s_z_law_drawn_shade b_z_law_drawn_shade
  simp! [bnd_bnd, lvD_len, opMul_i (two_len hl), e2, pw]
  refine wpf_bnd (wp_draw0 (spin_d (m := 4 ^ ls.length + 1) (by omega) (by omega)) hn hb (by omega) fun v1 c1 ⟨x1, e1, a1, b1⟩ B1 => ?_); subst e1
  simp! [bnd_bnd]
  refine wpf_bnd (wp_draw0 (spin_d (m := 4 ^ ls.length + 1) (by omega) (by omega)) hn B1 (by omega) fun v2 c2 ⟨x2, e2, a2, b2⟩ B2 => ?_); subst e2
  simp! [bnd_bnd]
  refine wpf_bnd (wp_draw (spin_d (m := 6) (by decide) (by decide)) hn B2 (by omega) fun v3 c3 ⟨x3, e3, a3, b3⟩ B3 => ?_); subst e3
  obtain ⟨z, hz, hz'⟩ := ix6 (a := x1) (b := 0) (c := 4 ^ ls.length) (d := 1) (e := 4 ^ ls.length - 1) (f := x2) a3 b3
  simp! [bnd_bnd, hz]
  exact wpf_ok ⟨_, c3, rfl, rfl, ⟨z, rfl, by omega, by omega⟩, B3⟩
theorem drawn_window_d {far wide : Int} (h0 : 0 ≤ far) (h1 : far ≤ (1000000000000000000000000000000 : Int)) (h2 : 1 ≤ wide) (h3 : wide ≤ (1000000000000000000000000000000 : Int)) : Spins s_z_law_drawn_window (fun n => [.r n, .p (.int far), .p (.int wide)]) (fun v => ∃ l t w h, v = winD l t w h ∧ WinOk l t w h ∧ -far ≤ l ∧ l ≤ far ∧ -far ≤ t ∧ t ≤ far ∧ w ≤ wide ∧ h ≤ wide) 4 := by
  apply dr_of
  intro st n c C hn hb hC
  have m2 : CMulW 2 far := cmulw (n := 3) (m := 110) (Bt.of (by decide)) (Bt.of (by omega))
  unfold s_z_law_drawn_window b_z_law_drawn_window
  simp! [bnd_bnd, opMul_i m2]
  refine wpf_bnd (wp_draw0 (spin_d (m := 2 * far + 1) (by omega) (by omega)) hn hb (by omega) fun v1 c1 ⟨x1, e1, a1, b1⟩ B1 => ?_); subst e1
  simp! [bnd_bnd, opMul_i m2]
  refine wpf_bnd (wp_draw0 (spin_d (m := 2 * far + 1) (by omega) (by omega)) hn B1 (by omega) fun v2 c2 ⟨x2, e2, a2, b2⟩ B2 => ?_); subst e2
  simp! [bnd_bnd]
  refine wpf_bnd (wp_draw0 (spin_d (m := wide) (by omega) (by omega)) hn B2 (by omega) fun v3 c3 ⟨x3, e3, a3, b3⟩ B3 => ?_); subst e3
  simp! [bnd_bnd]
  refine wpf_bnd (wp_draw0 (spin_d (m := wide) (by omega) (by omega)) hn B3 (by omega) fun v4 c4 ⟨x4, e4, a4, b4⟩ B4 => ?_); subst e4
  simp! [bnd_bnd]
  exact wpf_ok ⟨_, c4, rfl, rfl, ⟨_, _, _, _, rfl, ⟨by omega, by omega, by omega, by omega, by omega, by omega, by omega, by omega⟩, by omega, by omega, by omega, by omega, by omega, by omega⟩, B4⟩
theorem wound_i {ns : List Int} (hn : ns.length ≤ 63) {k : Nat} (hk : k ≤ 6) (st : Store) : ∃ c, s_z_law_wound [.p (.scp (ns.map .int)), .p (.int (k : Int))] st = .ok (.new c) st ∧ ReelC (.mu c) 0 := by
  have z1 : (0 : Int) < 100000000000000000000000000000000000133 := by decide
  have gen : ∀ i : Int, CMulW (i % 100000000000000000000000000000000000133) 67 := fun i => cmulw (n := 130) (m := 8) (Bt.of (by
    have := Int.emod_nonneg i (Int.ne_of_gt z1); have := Int.emod_lt_of_pos i z1; omega)) (Bt.of (by decide))
  have mk : CMulW 141650939 (k : Int) := cmulw (n := 40) (m := 8) (Bt.of (by decide)) (Bt.of (by omega))
  have q0 : CPowW 10 18 := by decide
  have q1 : CPowW 10 38 := by decide
  have fin : ∀ i : Int, ReelC (.mu (.lst [.int (max 0 (i - 1000000000000000000)), .int (i % 100000000000000000000000000000000000133 * 67 + 141650939 * (k : Int) + 23), .int 0])) 0 := fun i =>
    ⟨_, _, _, rfl, by have := Int.emod_nonneg i (Int.ne_of_gt z1); omega, by have := Int.emod_lt_of_pos i z1; omega, by decide, by decide⟩
  by_cases h : k < ns.length
  · have hg : L2.atI (ns.map D.int) (k : Int) = some (.int ns[k]) := Dd.atI_nat (by rw [List.getElem?_map, List.getElem?_eq_getElem h]; rfl)
    refine ⟨_, ?_, fin ns[k]⟩
    unfold s_z_law_wound b_z_law_wound
    have h' : (k : Int) < ((ns.map D.int).length : Nat) := by rw [List.length_map]; omega
    simp! [h', ixK_of hg, opPow_i q0, opPow_i q1, opMod_i z1, opMul_i (gen _), opMul_i mk]
    rw [finishR_mu get_app0 (Nat.le_refl _), take_app]
  · refine ⟨_, ?_, fin 0⟩
    unfold s_z_law_wound b_z_law_wound
    have h' : ¬ (k : Int) < ((ns.map D.int).length : Nat) := by rw [List.length_map]; omega
    have m0 := gen 0
    simp only [Int.reduceMod] at m0
    simp! [h', opPow_i q0, opPow_i q1, opMod_i z1, opMul_i m0, opMul_i mk]
    rw [finishR_mu get_app0 (Nat.le_refl _), take_app]
end Lib

set_option Elab.async false
set_option linter.all false
set_option maxRecDepth 100000
set_option exponentiation.threshold 2000
namespace Lib
open PySem PySem.Spec PyProof.Rows L2 Dd
def isNK : R → Sg → Res R := fun x S => match x with
  | .p .non => .ok (.p (.bl true)) S
  | _ => .ok (.p (.bl false)) S
def notNK : R → Sg → Res R := fun x S => match x with
  | .p .non => .ok (.p (.bl false)) S
  | _ => .ok (.p (.bl true)) S
theorem isN_ap (f : M R) (S : Sg) : isN f S = (f S).bnd isNK := by unfold isN; rw [bind_bnd]; rfl
theorem notN_ap (f : M R) (S : Sg) : notN f S = (f S).bnd notNK := by unfold notN; rw [bind_bnd]; rfl
section
variable {S : Sg}
theorem isNK_n : isNK (.p .non) S = .ok (.p (.bl true)) S := Eq.trans rfl rfl
theorem isNK_t {l : List D} : isNK (.p (.tup l)) S = .ok (.p (.bl false)) S := Eq.trans rfl rfl
theorem isNK_i {l : Int} : isNK (.p (.int l)) S = .ok (.p (.bl false)) S := Eq.trans rfl rfl
theorem notNK_n : notNK (.p .non) S = .ok (.p (.bl false)) S := Eq.trans rfl rfl
theorem notNK_t {l : List D} : notNK (.p (.tup l)) S = .ok (.p (.bl true)) S := Eq.trans rfl rfl
theorem notNK_i {l : Int} : notNK (.p (.int l)) S = .ok (.p (.bl true)) S := Eq.trans rfl rfl
theorem opNeD_b {a b : Bool} : opNeD (.p (.bl a)) (.p (.bl b)) S = .ok (.p (.bl (!decide (a = b)))) S := by
  rw [opNeD_of (d := .bool a) (e := .bool b) rfl rfl rfl rfl]
  cases a <;> cases b <;> rfl
theorem opEqD_b {a b : Bool} : opEqD (.p (.bl a)) (.p (.bl b)) S = .ok (.p (.bl (decide (a = b)))) S := by
  rw [opEqD_of (d := .bool a) (e := .bool b) rfl rfl rfl rfl]
  cases a <;> cases b <;> rfl
theorem opNeD_tt {a b c d : Int} : opNeD (.p (.tup [.int a, .int b])) (.p (.tup [.int c, .int d])) S = .ok (.p (.bl (!decide (a = c ∧ b = d)))) S := by
  have e1 : dataR (.p (.tup [D.int a, D.int b])) S = some (.tuple ([a, b].map PyData.int)) := rfl
  have e2 : dataR (.p (.tup [D.int c, D.int d])) S = some (.tuple ([c, d].map PyData.int)) := rfl
  rw [opNeD_of e1 e2 (shaped_ti _) (shaped_ti _)]
  show Res.ok (R.p (.bl (!PyData.eqvAll ([a, b].map PyData.int) ([c, d].map PyData.int)))) S = _
  rw [eqvAll_ints]
  congr 4
  simp
end
theorem sortI_props (ns : List Int) : (sortI ns).Perm ns ∧ (sortI ns).Pairwise (· ≤ ·) := by
  refine ⟨List.mergeSort_perm _ _, ?_⟩
  have := List.pairwise_mergeSort (le := fun a b : Int => decide (a ≤ b)) (fun a b c h1 h2 => by simp at *; omega) (fun a b => by simp; omega) ns
  exact this.imp fun h => by simpa using h
theorem sortI_mono {ns : List Int} {i j : Nat} {a b : Int} (hij : i ≤ j) (ha : (sortI ns)[i]? = some a) (hb : (sortI ns)[j]? = some b) : a ≤ b := by
  by_cases e : i = j
  · subst e; rw [ha] at hb; cases hb; exact Int.le_refl _
  · obtain ⟨hi, ei⟩ := List.getElem?_eq_some_iff.mp ha
    obtain ⟨hj, ej⟩ := List.getElem?_eq_some_iff.mp hb
    have := List.pairwise_iff_getElem.mp (sortI_props ns).2 i j hi hj (by omega)
    rwa [ei, ej] at this
section
variable {ls : List (List Int)} {l t w h : Int}
theorem nth_mono (h50 : ls.length ≤ 50) (hp : Lvs ls) (hw : WinOk l t w h) {a b : Int} (a0 : 0 ≤ a) (hab : a ≤ b) (b1 : b < w * h) : nthT ls l t w h a ≤ nthT ls l t w h b := by
  have hw' := hw
  obtain ⟨w1, w2, w3, w4, w5, w6, w7, w8⟩ := hw'
  obtain ⟨p1, p2, p3, p4⟩ := nth_is h50 hp hw a0 (by omega)
  obtain ⟨q1, q2, q3, q4⟩ := nth_is h50 hp hw (n := b) (by omega) b1
  apply Classical.byContradiction
  intro hc
  have := cnt_mono hp (l := l) (t := t) (w := w) (h := h) (by omega) (by omega) (a := nthT ls l t w h b + 1) (b := nthT ls l t w h a) (by omega) (by omega) (by omega)
  omega
theorem lst_grt (h50 : ls.length ≤ 50) (hp : Lvs ls) (hw : WinOk l t w h) {n : Int} (n0 : 0 ≤ n) (n1 : n ≤ w * h) :
    (lst ls l t w h n ≤ grt ls l t w h n → cnt ls (lst ls l t w h n) l t w h = n ∧ cnt ls (grt ls l t w h n) l t w h = n) ∧ (¬ lst ls l t w h n ≤ grt ls l t w h n → cnt ls (lst ls l t w h n) l t w h ≠ n) := by
  have hw' := hw
  obtain ⟨w1, w2, w3, w4, w5, w6, w7, w8⟩ := hw'
  obtain ⟨a1, a2, a3, a4⟩ := lst_is h50 hp hw n0 n1
  obtain ⟨b1, b2, b3, b4⟩ := grt_is h50 hp hw n0 n1
  refine ⟨fun hle => ?_, fun hle e => ?_⟩
  · have := cnt_mono hp (l := l) (t := t) (w := w) (h := h) (by omega) (by omega) a1 hle b2
    omega
  · have := cnt_mono hp (l := l) (t := t) (w := w) (h := h) (by omega) (by omega) (a := grt ls l t w h n + 1) (b := lst ls l t w h n) (by omega) (by omega) a2
    have := b4 (by omega)
    omega
end
theorem opIx0 {d : D} {l : List D} {S : Sg} : opIx (.p (.tup (d :: l))) (.p (.int 0)) S = .ok (.p d) S := by rw [opIx_t, ixK_0]
theorem reps {n : Nat} : ∃ K : Nat, max 1 (min 6 (n : Int)) = (K : Int) ∧ K ≤ 6 := ⟨(max 1 (min 6 (n : Int))).toNat, by omega, by omega⟩
theorem mulK_rep {d : D} {k : Nat} {S : Sg} (h : k ≤ 1000) : mulK (k : Int) S (some [d]) = .ok (.r S.st.length) ⟨S.sl, S.st ++ [.mu (.lst (List.replicate k d))]⟩ := by
  unfold mulK
  simp only
  rw [if_pos ⟨by omega, by omega, Nat.le_trans (show [d].length * (k : Int).toNat ≤ 1000 by simp; omega) (by rw [sizeLine_eq]; decide)⟩, Int.toNat_natCast]
  congr
  induction k with
  | zero => rfl
  | succ k ih => rw [List.replicate_succ, List.replicate_succ, List.flatten_cons, ih (by omega)]; rfl
/-- the deep screen -/
def deep : List (List Int) := List.replicate 50 [0, 2, 3, 1]
theorem deep_ok : LvOk deep := ⟨by decide, by decide, by intro l hl; unfold deep at hl; rw [(List.mem_replicate.mp hl).2]; decide⟩
theorem deep_len : deep.length = 50 := List.length_replicate ..
theorem deep_D : lvD deep = List.replicate 50 (.tup [.int 0, .int 2, .int 3, .int 1]) := by unfold lvD deep; rw [List.map_replicate]; rfl
theorem mulK_50 {d : D} {S : Sg} : mulK 50 S (some [d]) = .ok (.r S.st.length) ⟨S.sl, S.st ++ [.mu (.lst (List.replicate 50 d))]⟩ := mulK_rep (k := 50) (by decide)
/-- whole periods -/
theorem nth_whole {ls : List (List Int)} (h50 : ls.length ≤ 50) (hp : Lvs ls) {l t n : Int} (n0 : 0 ≤ n) (n1 : n < 4 ^ ls.length) : nthT ls l t (2 ^ ls.length) (2 ^ ls.length) n = n := by
  have p := two_pos ls.length
  have cw := fun k (k0 : 0 ≤ k) (k1 : k ≤ 4 ^ ls.length) => cnt_whole h50 hp k0 k1 l t 1 1
  simp only [Int.one_mul] at cw
  refine nthT_of hp (Int.le_of_lt p) (Int.le_of_lt p) ⟨n0, n1, ?_, ?_⟩
  · rw [cw n n0 (Int.le_of_lt n1)]; exact Int.le_refl _
  · rw [cw (n + 1) (by omega) (by omega)]; omega
theorem mulK_deep {S : Sg} : mulK 50 S (some [.tup [.int 0, .int 2, .int 3, .int 1]]) = .ok (.r S.st.length) ⟨S.sl, S.st ++ [.mu (.lst (lvD deep))]⟩ := by rw [mulK_50, deep_D]
theorem winE (l t w h : Int) : winD l t w h = .tup [.int l, .int t, .int w, .int h] := rfl
end Lib

set_option Elab.async false
set_option linter.all false
set_option maxRecDepth 100000
set_option exponentiation.threshold 2000
namespace Lib
open PySem PySem.Spec PyProof.Rows L2 Dd
theorem thr_app : ∀ (A B : List (List Int)) (x y : Int), thr (A ++ B) x y = thr A x y * 4 ^ B.length + thr B (x / 2 ^ A.length) (y / 2 ^ A.length)
  | [], B, x, y => by simp [thr]
  | lv :: A, B, x, y => by
    have e1 : ∀ z : Int, z / 2 / 2 ^ A.length = z / 2 ^ (lv :: A).length := fun z => by
      rw [List.length_cons, Int.pow_succ, Int.mul_comm, Int.ediv_ediv_of_nonneg (by decide)]
    show dg lv x y * 4 ^ (A ++ B).length + thr (A ++ B) (x / 2) (y / 2) = (dg lv x y * 4 ^ A.length + thr A (x / 2) (y / 2)) * 4 ^ B.length + _
    rw [thr_app A B, e1, e1, List.length_append, Int.pow_add, Int.add_mul, Int.mul_assoc]
    omega
theorem thr_low : ∀ (A : List (List Int)) (x y a b : Int), thr A (x + a * 2 ^ A.length) (y + b * 2 ^ A.length) = thr A x y
  | [], x, y, a, b => rfl
  | lv :: A, x, y, a, b => by
    have e : ∀ z c : Int, (z + c * 2 ^ (lv :: A).length) % 2 = z % 2 ∧ (z + c * 2 ^ (lv :: A).length) / 2 = z / 2 + c * 2 ^ A.length := fun z c => by
      rw [List.length_cons, Int.pow_succ, ← Int.mul_assoc]
      generalize c * 2 ^ A.length = k
      omega
    have hd : dg lv (x + a * 2 ^ (lv :: A).length) (y + b * 2 ^ (lv :: A).length) = dg lv x y := by unfold dg; rw [(e x a).1, (e y b).1]
    show dg lv _ _ * 4 ^ A.length + thr A (_ / 2) (_ / 2) = dg lv x y * 4 ^ A.length + thr A (x / 2) (y / 2)
    rw [hd, (e x a).2, (e y b).2, thr_low A]
theorem plc_low : ∀ (r : List (List Int)) (k x y : Int) (s : Nat), ∃ a b : Int, (plc r k x y s).1 = x + a * 2 ^ s ∧ (plc r k x y s).2 = y + b * 2 ^ s
  | [], k, x, y, s => ⟨0, 0, by simp [plc], by simp [plc]⟩
  | lv :: r, k, x, y, s => by
    obtain ⟨a, b, e1, e2⟩ := plc_low r (k - k / 4 ^ r.length * 4 ^ r.length) (pl (ci4 lv (k / 4 ^ r.length)) x y s).1 (pl (ci4 lv (k / 4 ^ r.length)) x y s).2 (s + 1)
    refine ⟨(ci4 lv (k / 4 ^ r.length) : Int) % 2 + 2 * a, (ci4 lv (k / 4 ^ r.length) : Int) / 2 + 2 * b, ?_, ?_⟩
    · simp only [plc]
      rw [e1, Int.pow_succ]
      simp only [pl, Int.add_mul]
      have : a * (2 ^ s * 2) = 2 * a * 2 ^ s := by simp only [Int.mul_assoc, Int.mul_comm, Int.mul_left_comm]
      omega
    · simp only [plc]
      rw [e2, Int.pow_succ]
      simp only [pl, Int.add_mul]
      have : b * (2 ^ s * 2) = 2 * b * 2 ^ s := by simp only [Int.mul_assoc, Int.mul_comm, Int.mul_left_comm]
      omega
theorem div_low {x a : Int} {s : Nat} (h0 : 0 ≤ x) (h1 : x < 2 ^ s) : (x + a * 2 ^ s) / 2 ^ s = a := by
  rw [Int.add_mul_ediv_right _ _ (Int.ne_of_gt (two_pos s)), Int.ediv_eq_zero_of_lt h0 h1, Int.zero_add]
/-- the place of a threshold has it -/
theorem thr_plc : ∀ (r : List (List Int)) (k x y : Int) (s : Nat), Lvs r → 0 ≤ k → k < 4 ^ r.length → 0 ≤ x → x < 2 ^ s → 0 ≤ y → y < 2 ^ s → thr r ((plc r k x y s).1 / 2 ^ s) ((plc r k x y s).2 / 2 ^ s) = k
  | [], k, x, y, s, hp, k0, k1, _, _, _, _ => by
    have : k = 0 := by simp at k1; omega
    subst this; rfl
  | lv :: r, k, x, y, s, hp, k0, k1, x0, x1, y0, y1 => by
    obtain ⟨g0, g1, m0, m1⟩ := k_parts (n := r.length) k0 (by rwa [List.length_cons] at k1)
    have hlv := hp lv List.mem_cons_self
    obtain ⟨ix1, ix2, ix3⟩ := ci4_get hlv g0 g1
    obtain ⟨a1, a2, a3, a4⟩ := pl_bd (c := ci4 lv (k / 4 ^ r.length)) (s := s) ix3 x0 x1 y0 y1
    have ih := thr_plc r (k - k / 4 ^ r.length * 4 ^ r.length) (pl (ci4 lv (k / 4 ^ r.length)) x y s).1 (pl (ci4 lv (k / 4 ^ r.length)) x y s).2 (s + 1) hp.tail m0 m1 a1 a2 a3 a4
    obtain ⟨a, b, e1, e2⟩ := plc_low r (k - k / 4 ^ r.length * 4 ^ r.length) (pl (ci4 lv (k / 4 ^ r.length)) x y s).1 (pl (ci4 lv (k / 4 ^ r.length)) x y s).2 (s + 1)
    rw [e1, e2, div_low a1 a2, div_low a3 a4] at ih
    simp only [plc]
    rw [e1, e2]
    generalize ci4 lv (k / 4 ^ r.length) = c at *
    have f1 : (pl c x y s).1 + a * 2 ^ (s + 1) = x + ((c : Int) % 2 + 2 * a) * 2 ^ s := by
      rw [Int.pow_succ]
      simp only [pl, Int.add_mul]
      have : a * (2 ^ s * 2) = 2 * a * 2 ^ s := by simp only [Int.mul_assoc, Int.mul_comm, Int.mul_left_comm]
      omega
    have f2 : (pl c x y s).2 + b * 2 ^ (s + 1) = y + ((c : Int) / 2 + 2 * b) * 2 ^ s := by
      rw [Int.pow_succ]
      simp only [pl, Int.add_mul]
      have : b * (2 ^ s * 2) = 2 * b * 2 ^ s := by simp only [Int.mul_assoc, Int.mul_comm, Int.mul_left_comm]
      omega
    rw [f1, f2, div_low x0 x1, div_low y0 y1]
    show dg lv _ _ * 4 ^ r.length + thr r (_ / 2) (_ / 2) = k
    have hd : dg lv ((c : Int) % 2 + 2 * a) ((c : Int) / 2 + 2 * b) = k / 4 ^ r.length := by
      unfold dg
      have : ((c : Int) % 2 + 2 * a) % 2 + 2 * (((c : Int) / 2 + 2 * b) % 2) = c := by omega
      rw [this, Int.toNat_natCast, List.getD_eq_getElem?_getD, ix2]; rfl
    rw [hd, show ((c : Int) % 2 + 2 * a) / 2 = a by omega, show ((c : Int) / 2 + 2 * b) / 2 = b by omega, ih]
    omega
theorem cx_app {l t w h : Int} {B : List (List Int)} {r : Int} (r0 : 0 ≤ r) (r1 : r ≤ 4 ^ B.length) : ∀ (A : List (List Int)) (q x y : Int) (s : Nat), Lvs (A ++ B) → 0 ≤ q → q < 4 ^ A.length →
    cx l t w h (A ++ B) (q * 4 ^ B.length + r) x y s = cx l t w h A q x y s + cx l t w h B r (plc A q x y s).1 (plc A q x y s).2 (s + A.length)
  | [], q, x, y, s, hp, q0, q1 => by
    have : q = 0 := by simp at q1; omega
    subst this
    simp [cx, cells, csum, plc]
  | lv :: A, q, x, y, s, hp, q0, q1 => by
    obtain ⟨g0, g1, m0, m1⟩ := k_parts (n := A.length) q0 (by rwa [List.length_cons] at q1)
    have fb := four_pos B.length
    have hpA : Lvs (lv :: A) := fun z hz => hp z (List.mem_append_left _ hz)
    have eq : q = q / 4 ^ A.length * 4 ^ A.length + (q - q / 4 ^ A.length * 4 ^ A.length) := by omega
    have ih := cx_app (l := l) (t := t) (w := w) (h := h) r0 r1 A (q - q / 4 ^ A.length * 4 ^ A.length) (pl (ci4 lv (q / 4 ^ A.length)) x y s).1 (pl (ci4 lv (q / 4 ^ A.length)) x y s).2 (s + 1) (fun z hz => hp z (List.mem_cons_of_mem _ hz)) m0 m1
    generalize hg : q / 4 ^ A.length = g at *
    generalize hm : q - g * 4 ^ A.length = m at *
    have mm : m * 4 ^ B.length + r ≤ 4 ^ (A ++ B).length := by
      rw [List.length_append, Int.pow_add]
      have : (m + 1) * 4 ^ B.length ≤ 4 ^ A.length * 4 ^ B.length := Int.mul_le_mul_of_nonneg_right (by omega) (by omega)
      rw [Int.add_mul, Int.one_mul] at this
      omega
    have m2 : 0 ≤ m * 4 ^ B.length := Int.mul_nonneg m0 (by omega)
    have a := cx_step (l := l) (t := t) (w := w) (h := h) (lv := lv) (r := A ++ B) (g := g) (m := m * 4 ^ B.length + r) (x := x) (y := y) (s := s) hp g0 g1 (by omega) mm
    have b := cx_step (l := l) (t := t) (w := w) (h := h) (lv := lv) (r := A) (g := g) (m := m) (x := x) (y := y) (s := s) hpA g0 g1 m0 (Int.le_of_lt m1)
    have ek : q * 4 ^ B.length + r = g * 4 ^ (A ++ B).length + (m * 4 ^ B.length + r) := by
      rw [eq, List.length_append, Int.pow_add, Int.add_mul, Int.mul_assoc]
      omega
    show cx l t w h (lv :: (A ++ B)) _ x y s = _
    rw [ek, a, ih]
    have eb : cx l t w h (lv :: A) q x y s = cx l t w h (lv :: A) (g * 4 ^ A.length + m) x y s := by rw [← eq]
    rw [eb, b, List.length_cons, show s + (A.length + 1) = s + 1 + A.length by omega]
    simp only [plc, hg, hm]
    omega
/-- whether the square at a place has a dot more -/
def full (ls : List (List Int)) (k : Int) (j : Nat) (x y : Int) : Prop := k % 4 ^ (ls.length - j) ≠ 0 ∧
  thr ls ((plcD (ls.take j) (k / 4 ^ (ls.length - j)) 0 0 0).1 + LO x (plcD (ls.take j) (k / 4 ^ (ls.length - j)) 0 0 0).1 j * 2 ^ j) ((plcD (ls.take j) (k / 4 ^ (ls.length - j)) 0 0 0).2 + LO y (plcD (ls.take j) (k / 4 ^ (ls.length - j)) 0 0 0).2 j * 2 ^ j) < k
instance (ls : List (List Int)) (k : Int) (j : Nat) (x y : Int) : Decidable (full ls k j x y) := inferInstanceAs (Decidable (_ ∧ _))
/-- THE SQUARES -/
theorem square_cnt {ls : List (List Int)} (h50 : ls.length ≤ 50) (hp : Lvs ls) {k : Int} (k0 : 0 ≤ k) (k1 : k ≤ 4 ^ ls.length) {j : Nat} (hj : j ≤ ls.length) (x y : Int) :
    cnt ls k x y (2 ^ j) (2 ^ j) = k / 4 ^ (ls.length - j) + (if full ls k j x y then 1 else 0) := by
  have fm := four_pos (ls.length - j)
  have hA : (ls.take j).length = j := by rw [List.length_take]; omega
  have hB : (ls.drop j).length = ls.length - j := List.length_drop
  have hAB : ls.take j ++ ls.drop j = ls := List.take_append_drop j ls
  have pA : Lvs (ls.take j) := hp.take j
  have pB : Lvs (ls.drop j) := fun z hz => hp z (List.mem_of_mem_drop hz)
  have n4 : (4 : Int) ^ ls.length = 4 ^ j * 4 ^ (ls.length - j) := by rw [← Int.pow_add]; congr 1; omega
  have q0 : 0 ≤ k / 4 ^ (ls.length - j) := Int.ediv_nonneg k0 (Int.le_of_lt fm)
  have r0 := Int.emod_nonneg k (Int.ne_of_gt fm)
  have r1 := Int.emod_lt_of_pos k fm
  have ek : k = k / 4 ^ (ls.length - j) * 4 ^ (ls.length - j) + k % 4 ^ (ls.length - j) := by
    rw [Int.emod_def, Int.mul_comm]; omega
  by_cases e : k = 4 ^ ls.length
  · have er : k % 4 ^ (ls.length - j) = 0 := by rw [e, n4, Int.mul_emod_left]
    have eq : k / 4 ^ (ls.length - j) = 4 ^ j := by rw [e, n4, Int.mul_ediv_cancel _ (Int.ne_of_gt fm)]
    rw [if_neg (show ¬ full ls k j x y from fun z => z.1 er), eq]
    have := cnt_full ls x y (2 ^ j) (2 ^ j)
    rw [← e] at this
    rw [this, pow_sq]; omega
  · have q1 : k / 4 ^ (ls.length - j) < 4 ^ j := Int.ediv_lt_of_lt_mul fm (by omega)
    have fi : full ls k j x y ↔ (k % 4 ^ (ls.length - j) ≠ 0 ∧ thr ls ((plc (ls.take j) (k / 4 ^ (ls.length - j)) 0 0 0).1 + LO x (plc (ls.take j) (k / 4 ^ (ls.length - j)) 0 0 0).1 j * 2 ^ j) ((plc (ls.take j) (k / 4 ^ (ls.length - j)) 0 0 0).2 + LO y (plc (ls.take j) (k / 4 ^ (ls.length - j)) 0 0 0).2 j * 2 ^ j) < k) := by
      unfold full; rw [plcD_plc q0 (by rw [hA]; exact q1)]
    have ca := cx_app (l := x) (t := y) (w := 2 ^ j) (h := 2 ^ j) (B := ls.drop j) (r := k % 4 ^ (ls.length - j)) r0 (by rw [hB]; omega) (ls.take j) (k / 4 ^ (ls.length - j)) 0 0 0 (by rw [hAB]; exact hp) q0 (by rw [hA]; exact q1)
    rw [hAB, hB, ← ek, Nat.zero_add, hA, ← cx_cnt, ← cx_cnt] at ca
    have cw := cnt_whole (ls := ls.take j) (by omega) pA q0 (by rw [hA]; omega) x y 1 1
    rw [hA] at cw
    simp only [Int.one_mul] at cw
    rw [ca, cw]
    congr 1
    have tp := thr_plc (ls.take j) (k / 4 ^ (ls.length - j)) 0 0 0 pA q0 (by rw [hA]; exact q1) (by decide) (by decide) (by decide) (by decide)
    simp only [Int.pow_zero, Int.ediv_one] at tp
    have bd := plcD_bd (ls := ls.take j) (k := k / 4 ^ (ls.length - j)) (x := 0) (y := 0) (s := 0) pA (by decide) (by decide) (by decide) (by decide)
    rw [plcD_plc q0 (by rw [hA]; exact q1), Nat.zero_add, hA] at bd
    generalize plc (ls.take j) (k / 4 ^ (ls.length - j)) 0 0 0 = p at *
    obtain ⟨b1, b2, b3, b4⟩ := bd
    unfold cx
    rw [if_neg (by rw [hB]; omega)]
    have rcc := rc_cells (ls.drop j) (k % 4 ^ (ls.length - j)) x y (2 ^ j) (2 ^ j) p.1 p.2 j pB r0 (by rw [hB]; exact r1)
    have w1 : ∀ f r : Int, resi f (2 ^ j) r j = 1 := fun f r => by
      have := resi_whole f r 1 (Nat.le_refl j)
      rw [Int.one_mul, Nat.sub_self] at this
      exact this
    rw [w1, w1] at rcc
    rw [← rcc, rc_one (ls.drop j) _ _ _ pB r0 (by rw [hB]; exact r1)]
    have ta := thr_app (ls.take j) (ls.drop j) (p.1 + LO x p.1 j * 2 ^ j) (p.2 + LO y p.2 j * 2 ^ j)
    have tl := thr_low (ls.take j) p.1 p.2 (LO x p.1 j) (LO y p.2 j)
    rw [hA] at tl
    rw [hAB, hA, tl, tp, hB, div_low b1 b2, div_low b3 b4] at ta
    rw [ta] at fi
    have tb := (thr_bd (LO x p.1 j) (LO y p.2 j) pB).1
    generalize k / 4 ^ (ls.length - j) * 4 ^ (ls.length - j) = Q at *
    generalize thr (ls.drop j) (LO x p.1 j) (LO y p.2 j) = T at *
    by_cases c : T < k % 4 ^ (ls.length - j)
    · rw [if_pos c, if_pos (fi.mpr ⟨by omega, by omega⟩)]
    · rw [if_neg c, if_neg (fun z => c (by have := (fi.mp z).2; omega))]
end Lib

set_option Elab.async false
set_option linter.all false
set_option maxRecDepth 100000
set_option exponentiation.threshold 2000
namespace Lib
open PySem PySem.Spec PyProof.Rows L2 Dd
section
variable {ls : List (List Int)} {k : Int} {j : Nat}
theorem require_square_ok (h50 : ls.length ≤ 50) (k0 : 0 ≤ k) (k1 : k ≤ 4 ^ ls.length) (hj : j ≤ ls.length) (st : Store) :
    s_require_square [.p (.scr (lvD ls)), .p (.int k), .p (.int (j : Int))] st = .ok (.val .non) st := by
  have a : (0 : Int) ≤ (j : Int) := by omega
  have b : (j : Int) ≤ (ls.length : Int) := by omega
  unfold s_require_square b_require_square
  simp! [require_screen_ok, require_shade_ok ls h50 k k0 k1, depth_p, is_whole_i, a, b]
theorem mask4 (k : Int) (n : Nat) : Builtin.bitAnd k (4 ^ n - 1) = k % 4 ^ n := by
  have := PySem.W.kbt_mask k (2 * n)
  rw [four_two] at this
  exact this
theorem shl_four' (n : Nat) (h : n ≤ 50) (S : Sg) : opShl (.p (.int 1)) (.p (.int (2 * (n : Int)))) S = .ok (.p (.int (4 ^ n))) S := by
  rw [opShl_i (cshl1 (j := 2 * (n : Int)) (by omega) (by omega)), shl_four]
theorem parted_i (h50 : ls.length ≤ 50) (hj : j ≤ ls.length) (st : Store) :
    s_parted_shade [.p (.scr (lvD ls)), .p (.int k), .p (.int (j : Int))] st = .ok (.val (.tup [.int (k / 4 ^ (ls.length - j)), .int (k % 4 ^ (ls.length - j))])) st := by
  have e : (ls.length : Int) - (j : Int) = ((ls.length - j : Nat) : Int) := by omega
  unfold s_parted_shade b_parted_shade
  simp! [depth_p, e, opMul_i (two_len (n := ls.length - j) (by omega)), shr_four', shl_four' (ls.length - j) (by omega), mask4]
theorem spot_behind_i (f r : Int) (s : Nat) (st : Store) : s_spot_behind [.p (.int f), .p (.int r), .p (.int (s : Int))] st = .ok (.val (.int (LO f r s))) st := by
  have e : 0 - (r - f) / 2 ^ s = LO f r s := by
    have gen : ∀ (P D M z : Int), 0 < P → 0 ≤ M → M < P → z = D * P + M → 0 - D = (-z - 1) / P + 1 := fun P D M z p m0 m1 e => by
      rw [show -z - 1 = (P - 1 - M) + (-D - 1) * P by rw [e, Int.sub_mul, Int.one_mul, Int.neg_mul]; omega]
      rw [Int.add_mul_ediv_right _ _ (Int.ne_of_gt p), Int.ediv_eq_zero_of_lt (by omega) (by omega)]
      omega
    have p := two_pos s
    have := gen (2 ^ s) ((r - f) / 2 ^ s) ((r - f) % 2 ^ s) (r - f) p (Int.emod_nonneg _ (Int.ne_of_gt p)) (Int.emod_lt_of_pos _ p) (by
      have h1 := Int.mul_ediv_add_emod (r - f) (2 ^ s)
      rw [Int.mul_comm] at h1
      exact h1.symm)
    rw [this]
    unfold LO
    rw [show -(r - f) - 1 = f - 1 - r by omega]
  unfold s_spot_behind b_spot_behind
  simp! [opShr_i (i := r - f) (j := (s : Int)) (by omega), Int.toNat_natCast, e]
theorem opSl_tup {l : List D} {S : Sg} (h : j ≤ l.length) : opSl (.p (.tup l)) none (some (j : Int)) S = .ok (.p (.tup (l.take j))) S := by
  show (if HT.sIx l.length 0 none = 0 ∧ HT.sIx l.length l.length (some (j : Int)) = l.length then Res.ok (R.p (.tup l)) S else .ok (.p (.tup (Dd.cutD l none (some (j : Int))))) S) = _
  rw [cutD_to]
  split
  · rename_i c
    have c2 := c.2
    unfold HT.sIx at c2
    simp only at c2
    rw [if_neg (show ¬ ((j : Int) < 0) by omega), Int.toNat_natCast, Nat.min_eq_left h] at c2
    rw [c2, List.take_length]
  · rfl
theorem lvD_take (ls : List (List Int)) (j : Nat) : (lvD ls).take j = lvD (ls.take j) := by unfold lvD; rw [List.map_take]
def opt1K : R → Sg → Res (Option Int) := fun x S => match asI x with
  | some i => .ok (some i) S
  | none => .bad
theorem opt1_ap (f : M R) (S : Sg) : opt1 f S = (f S).bnd opt1K := by unfold opt1; rw [bind_bnd]; rfl
theorem opt1K_i {i : Int} {S : Sg} : opt1K (.p (.int i)) S = .ok (some i) S := Eq.trans rfl rfl
theorem decider_i (h50 : ls.length ≤ 50) (hp : Lvs ls) (hj : j ≤ ls.length) (st : Store) :
    s_decider [.p (.scr (lvD ls)), .p (.int k), .p (.int (j : Int))] st = .ok (.val (if k % 4 ^ (ls.length - j) = 0 then .non else .tup [.int (plcD (ls.take j) (k / 4 ^ (ls.length - j)) 0 0 0).1, .int (plcD (ls.take j) (k / 4 ^ (ls.length - j)) 0 0 0).2])) st := by
  unfold s_decider b_decider
  by_cases e : k % 4 ^ (ls.length - j) = 0
  · simp! [parted_i h50 hj, e]
  · simp! [parted_i h50 hj, e, slE_ap, opt0_ap, opt1_ap, opt1K_i, opSl_tup (l := lvD ls) (j := j) (by rw [lvD_len]; exact hj), lvD_take, place_of_i (ls := ls.take j) (by rw [List.length_take]; omega) (hp.take j)]
theorem even_part_i (h50 : ls.length ≤ 50) (k0 : 0 ≤ k) (k1 : k ≤ 4 ^ ls.length) (hj : j ≤ ls.length) (st : Store) :
    s_even_part [.p (.scr (lvD ls)), .p (.int k), .p (.int (j : Int))] st = .ok (.val (.int (k / 4 ^ (ls.length - j)))) st := by
  unfold s_even_part b_even_part
  simp! [require_square_ok h50 k0 k1 hj, parted_i h50 hj]
theorem LO_bd {f r : Int} {s : Nat} (h1 : -(1000000000000000000000000000000 : Int) ≤ f) (h2 : f ≤ (1000000000000000000000000000000 : Int)) (h3 : 0 ≤ r) (h4 : r ≤ (1000000000000000000000000000000 : Int)) : Bt 110 (LO f r s) := by
  have := div_bd (x := f - 1 - r) (B := 3 * (1000000000000000000000000000000 : Int)) (s := s) (by omega) (by omega)
  unfold LO
  exact Bt.of (by omega)
theorem is_fuller_i (h50 : ls.length ≤ 50) (hp : Lvs ls) (k0 : 0 ≤ k) (k1 : k ≤ 4 ^ ls.length) (hj : j ≤ ls.length) {x y : Int} (x0 : -(1000000000000000000000000000000 : Int) ≤ x) (x1 : x ≤ (1000000000000000000000000000000 : Int)) (y0 : -(1000000000000000000000000000000 : Int) ≤ y) (y1 : y ≤ (1000000000000000000000000000000 : Int)) (st : Store) :
    s_is_fuller [.p (.scr (lvD ls)), .p (.int k), .p (.int (j : Int)), .p (.int x), .p (.int y)] st = .ok (.val (.bl (decide (full ls k j x y)))) st := by
  unfold s_is_fuller b_is_fuller
  by_cases e : k % 4 ^ (ls.length - j) = 0
  · have nf : ¬ full ls k j x y := fun z => z.1 e
    simp! [require_square_ok h50 k0 k1 hj, require_place_ok x0 x1 y0 y1, decider_i h50 hp hj, e, isN_ap, isNK_n, nf]
  · have bd := plcD_bd (ls := ls.take j) (k := k / 4 ^ (ls.length - j)) (x := 0) (y := 0) (s := 0) (hp.take j) (by decide) (by decide) (by decide) (by decide)
    have hA : (ls.take j).length = j := by rw [List.length_take]; omega
    rw [Nat.zero_add, hA] at bd
    obtain ⟨b1, b2, b3, b4⟩ := bd
    have pj := pow_bd (show j ≤ 50 by omega)
    have m50 : (2 : Int) ^ 50 ≤ (1000000000000000000000000000000 : Int) := by decide
    have s1 : CShl (LO x (plcD (ls.take j) (k / 4 ^ (ls.length - j)) 0 0 0).1 j) (j : Int) := cshl_sm ((LO_bd x0 x1 b1 (by omega)).mono (by decide)) (by omega) (by omega)
    have s2 : CShl (LO y (plcD (ls.take j) (k / 4 ^ (ls.length - j)) 0 0 0).2 j) (j : Int) := cshl_sm ((LO_bd y0 y1 b3 (by omega)).mono (by decide)) (by omega) (by omega)
    have fe : full ls k j x y ↔ thr ls ((plcD (ls.take j) (k / 4 ^ (ls.length - j)) 0 0 0).1 + LO x (plcD (ls.take j) (k / 4 ^ (ls.length - j)) 0 0 0).1 j * 2 ^ j) ((plcD (ls.take j) (k / 4 ^ (ls.length - j)) 0 0 0).2 + LO y (plcD (ls.take j) (k / 4 ^ (ls.length - j)) 0 0 0).2 j * 2 ^ j) < k := ⟨fun z => z.2, fun z => ⟨e, z⟩⟩
    simp! [require_square_ok h50 k0 k1 hj, require_place_ok x0 x1 y0 y1, decider_i h50 hp hj, e, isN_ap, isNK_t, spot_behind_i, opShl_i s1, opShl_i s2, Int.toNat_natCast, threshold_at_i hp h50, fe]
end
/-! comprehensions with a test -/
def lcbK (own : List Nat) (f : M R) (b : Bool) (S : Sg) : Res (Option D) := if b = true then (f S).bnd fun x S => (pure1 x S).bnd fun y S => .ok (some y) (wipeS S own) else .ok none (wipeS S own)
theorem lcbK_t {own : List Nat} {f : M R} {S : Sg} : lcbK own f true S = (f S).bnd fun x S => (pure1 x S).bnd fun y S => .ok (some y) (wipeS S own) := Eq.trans rfl rfl
theorem lcbK_f {own : List Nat} {f : M R} {S : Sg} : lcbK own f false S = .ok none (wipeS S own) := Eq.trans rfl rfl
theorem lcB_body (own : List Nat) (tt : M Bool) (f : M R) (S : Sg) : (do
      let b ← tt
      if b = true then do
        let x ← f
        let y ← pure1 x
        fun S => .ok (some y) (wipeS S own)
      else fun S => .ok none (wipeS S own) : M (Option D)) S = (tt S).bnd (lcbK own f) := by
  rw [bind_bnd]
  refine bnd_ext fun b S1 => ?_
  cases b with
  | false => rfl
  | true =>
    show (f >>= fun x => pure1 x >>= fun y => fun S => .ok (some y) (wipeS S own)) S1 = _
    rw [bind_bnd]
    rfl
theorem lcBT_t {own ks : List Nat} {tt : M Bool} {f : M R} {ds : List D} {S : Sg} (h : ds.length = ks.length) : lcB own ks unpT tt f (.tup ds) S = (tt (setS S ks ds)).bnd (lcbK own f) := by
  show (if ds.length = ks.length then _ else _ : Res (Option D)) = _
  rw [if_pos h]
  exact lcB_body own tt f _
theorem lcBW_t {own ks : List Nat} {tt : M Bool} {f : M R} {ds : List D} {S : Sg} (h : ds.length = ks.length) : lcB own ks unpW tt f ds S = (tt (setS S ks ds)).bnd (lcbK own f) := by
  show (if ds.length = ks.length then _ else _ : Res (Option D)) = _
  rw [if_pos h]
  exact lcB_body own tt f _
theorem lcB1_t {own : List Nat} {k : Nat} {tt : M Bool} {f : M R} {x : D} {S : Sg} : lcB own [k] unp1 tt f x S = (tt ⟨S.sl.set k (some (.p x)), S.st⟩).bnd (lcbK own f) := by
  exact lcB_body own tt f ⟨S.sl.set k (some (.p x)), S.st⟩
theorem lcL_filter {α : Type} {ok : Sg → Prop} {body : α → M (Option D)} {p : α → Bool} {g : α → D} {S : Sg} (hok : ok S) : ∀ (l : List α) (acc : List D), (∀ d ∈ l, body d S = .ok (if p d = true then some (g d) else none) S) → acc.length + l.length ≤ 1000000 → lcL ok body l acc S = .ok (acc ++ (l.filter p).map g) S
  | [], acc, h, hl => by rw [lcL_nil' hok]; simp
  | d :: ds, acc, h, hl => by
    rw [lcL_cons hok (h d List.mem_cons_self)]
    rw [List.length_cons] at hl
    by_cases e : p d = true
    · rw [if_pos e]
      show (if acc.length < sizeLine then lcL ok body ds (acc ++ [g d]) S else .bad) = _
      rw [if_pos (Nat.lt_of_lt_of_le (by omega : acc.length < 1000000) (by rw [sizeLine_eq]; decide))]
      rw [lcL_filter hok ds (acc ++ [g d]) (fun x hx => h x (List.mem_cons_of_mem _ hx)) (by rw [List.length_append]; simp only [List.length_cons, List.length_nil]; omega)]
      rw [List.filter_cons_of_pos e, List.map_cons, List.append_assoc]; rfl
    · rw [if_neg e]
      show lcL ok body ds acc S = _
      rw [lcL_filter hok ds acc (fun x hx => h x (List.mem_cons_of_mem _ hx)) (by omega), List.filter_cons_of_neg e]
theorem full_shift {ls : List (List Int)} (h50 : ls.length ≤ 50) (hp : Lvs ls) {k : Int} (k0 : 0 ≤ k) (k1 : k ≤ 4 ^ ls.length) {j : Nat} (hj : j ≤ ls.length) (x y q r : Int) : full ls k j (x + q * 2 ^ ls.length) (y + r * 2 ^ ls.length) ↔ full ls k j x y := by
  have a := square_cnt h50 hp k0 k1 hj (x + q * 2 ^ ls.length) (y + r * 2 ^ ls.length)
  have b := square_cnt h50 hp k0 k1 hj x y
  rw [cnt_shift h50 hp] at a
  rw [b] at a
  by_cases c : full ls k j x y <;> by_cases d : full ls k j (x + q * 2 ^ ls.length) (y + r * 2 ^ ls.length)
  · exact ⟨fun _ => c, fun _ => d⟩
  · rw [if_pos c, if_neg d] at a; omega
  · rw [if_neg c, if_pos d] at a; omega
  · exact ⟨fun z => (d z).elim, fun z => (c z).elim⟩
/-- four squares make one -/
theorem square_four {ls : List (List Int)} (h50 : ls.length ≤ 50) (hp : Lvs ls) {k : Int} (k0 : 0 ≤ k) (k1 : k ≤ 4 ^ ls.length) {j : Nat} (hj : j + 1 ≤ ls.length) (x y : Int) :
    4 * (k / 4 ^ (ls.length - j)) + ((if full ls k j x y then 1 else 0) + (if full ls k j (x + 2 ^ j) y then 1 else 0) + (if full ls k j x (y + 2 ^ j) then 1 else 0) + (if full ls k j (x + 2 ^ j) (y + 2 ^ j) then 1 else 0)) = k / 4 ^ (ls.length - (j + 1)) + (if full ls k (j + 1) x y then 1 else 0) := by
  have a := square_cnt h50 hp k0 k1 hj x y
  have b1 := square_cnt h50 hp k0 k1 (show j ≤ ls.length by omega) x y
  have b2 := square_cnt h50 hp k0 k1 (show j ≤ ls.length by omega) (x + 2 ^ j) y
  have b3 := square_cnt h50 hp k0 k1 (show j ≤ ls.length by omega) x (y + 2 ^ j)
  have b4 := square_cnt h50 hp k0 k1 (show j ≤ ls.length by omega) (x + 2 ^ j) (y + 2 ^ j)
  have e : (2 : Int) ^ (j + 1) = 2 ^ j + 2 ^ j := by rw [Int.pow_succ]; omega
  rw [e, ← cnt_wide, ← cnt_high, ← cnt_high, b1, b2, b3, b4] at a
  omega
end Lib

set_option Elab.async false
set_option linter.all false
set_option maxRecDepth 100000
set_option exponentiation.threshold 2000
namespace Lib
open PySem PySem.Spec PyProof.Rows L2 Dd
theorem thr3_i {ls : List (List Int)} (h : Lvs ls) (hl : ls.length ≤ 50) (x y : Int) (st : Store) : s_z_law_threshold_at [.p (.lst (lvD ls)), .p (.int x), .p (.int y)] st = .ok (.val (.int (thr ls x y))) st := by
  unfold s_z_law_threshold_at b_z_law_threshold_at
  simp! []
  refine fin_eq (wp_fin (wp_bnd (wp_loop (I := fun i S => ∃ z, S = ⟨[some (.p (.lst (lvD ls))), some (.p (.int (x / 2 ^ i))), some (.p (.int (y / 2 ^ i))), some (.p (.int (thr (ls.take i) x y))), z], st⟩) ?_ ?_ ?_ ?_)))
  · refine ⟨none, ?_⟩
    simp only [Int.pow_zero, Int.ediv_one]
    rfl
  · rintro j S ⟨z, rfl⟩; trivial
  · rintro j d S hj ⟨z, rfl⟩
    obtain ⟨lv, hlv, rfl, hm⟩ := lvD_get hj
    rw [bind_bnd]
    have b2 : (0 : Int) < 2 := by decide
    simp! [opMod_i b2, opMul_i (thr_mul h hl j x y), opMul_i (two_mul_sm (z := y / 2 ^ j % 2) (by omega) (by omega)), dg_ix (h lv hm), opDiv_i (d2 _)]
    rw [← thr_take hlv]
    refine wp_ok ⟨some (.p (.tup (lv.map .int))), ?_⟩
    have e1 : ∀ z : Int, z / 2 ^ (j + 1) = z / 2 ^ j / 2 := fun z => by rw [Int.pow_succ, Int.ediv_ediv_of_nonneg (Int.le_of_lt (two_pos j))]
    rw [e1, e1]
  · rintro S ⟨z, rfl⟩
    rw [lvD_len, List.take_length]
    simp! []
    refine wp_ok ?_
    simp! []
    exact wpf_ok ⟨rfl, rfl⟩
/-- the thresholds of a row, of rows -/
def rowT (ls : List (List Int)) (y : Int) : Int → Nat → List Int
  | _, 0 => []
  | l, n + 1 => thr ls l y :: rowT ls y (l + 1) n
theorem rowT_map (ls : List (List Int)) (y : Int) : ∀ (n : Nat) (l : Int), (Dd.intsFrom l n).map (dmap fun x => thr ls x y) = (rowT ls y l n).map .int
  | 0, l => rfl
  | n + 1, l => by
    show dmap _ (.int l) :: (Dd.intsFrom (l + 1) n).map _ = _
    rw [rowT_map ls y n (l + 1), dmap_i]
    rfl
theorem rowT_len (ls : List (List Int)) (y : Int) : ∀ (n : Nat) (l : Int), (rowT ls y l n).length = n
  | 0, l => rfl
  | n + 1, l => by rw [rowT, List.length_cons, rowT_len]
def listed (ls : List (List Int)) (l t : Int) (w : Nat) : Nat → List Int
  | 0 => []
  | n + 1 => listed ls l t w n ++ rowT ls (t + (n : Int)) l w
theorem listed_len (ls : List (List Int)) (l t : Int) (w : Nat) : ∀ n, (listed ls l t w n).length = n * w
  | 0 => by simp [listed]
  | n + 1 => by rw [listed, List.length_append, listed_len, rowT_len, Nat.succ_mul]
def undr (k : Int) (L : List Int) : Nat := (L.filter fun x => decide (x < k)).length
theorem undr_app (k : Int) (a b : List Int) : undr k (a ++ b) = undr k a + undr k b := by unfold undr; rw [List.filter_append, List.length_append]
theorem row_cnt {ls : List (List Int)} (hp : Lvs ls) {k : Int} (k0 : 0 ≤ k) (k1 : k ≤ 4 ^ ls.length) (y : Int) : ∀ (n : Nat) (l : Int), (undr k (rowT ls y l n) : Int) = cnt ls k l y n 1
  | 0, l => by rw [show ((0 : Nat) : Int) = 0 from rfl, cnt_0w]; rfl
  | n + 1, l => by
    have ih := row_cnt hp k0 k1 y n (l + 1)
    have e := cnt_wide ls k l y 1 n 1
    rw [cnt_one hp k0 k1, ← ih] at e
    rw [show ((n + 1 : Nat) : Int) = 1 + (n : Int) by omega, ← e]
    unfold undr
    rw [rowT, List.filter_cons]
    by_cases h : thr ls l y < k
    · rw [if_pos h, if_pos (decide_eq_true h), List.length_cons]; omega
    · rw [if_neg h, if_neg (by simpa using h)]; omega
theorem listed_cnt {ls : List (List Int)} (hp : Lvs ls) {k : Int} (k0 : 0 ≤ k) (k1 : k ≤ 4 ^ ls.length) (l t : Int) (w : Nat) : ∀ n : Nat, (undr k (listed ls l t w n) : Int) = cnt ls k l t w n
  | 0 => by rw [show ((0 : Nat) : Int) = 0 from rfl, cnt_0h]; rfl
  | n + 1 => by
    rw [listed, undr_app]
    have e := cnt_high ls k l t w n 1
    rw [← listed_cnt hp k0 k1 l t w n, ← row_cnt hp k0 k1] at e
    rw [show ((n + 1 : Nat) : Int) = (n : Int) + 1 by omega, ← e]
    omega
theorem opAdd_pr {a : List D} {m : Nat} {S : Sg} : opAdd (.p (.lst a)) (.r m) S = catK (some a) (getLK S.st[m]?) S := by
  unfold opAdd
  simp only [asI, getM_r, getM_lst]
  cases getLK S.st[m]? <;> rfl
theorem catK_big {a b : List D} {S : Sg} (h : a.length + b.length ≤ 1000000) : catK (some a) (some b) S = .ok (.r S.st.length) ⟨S.sl, S.st ++ [.mu (.lst (a ++ b))]⟩ := if_pos (Nat.le_trans h (by rw [sizeLine_eq]; decide))
theorem listed_i {ls : List (List Int)} (hp : Lvs ls) (hl : ls.length ≤ 50) (l t : Int) (w h : Nat) (hz : h * w ≤ 10000) (hw : w ≤ 10000) (st : Store) :
    s_z_law_listed [.p (.lst (lvD ls)), .p (.tup [.int l, .int t, .int (w : Int), .int (h : Int)])] st = .ok (.val (.lst ((listed ls l t w h).map .int))) st := by
  unfold s_z_law_listed b_z_law_listed
  simp! []
  refine fin_eq (wp_fin (wp_bnd (wp_loop (I := fun i S => ∃ s7 s8 rest, S = ⟨[some (.p (.lst (lvD ls))), some (.p (.tup [.int l, .int t, .int (w : Int), .int (h : Int)])), some (.p (.int l)), some (.p (.int t)), some (.p (.int w)), some (.p (.int h)), some (.p (.lst ((listed ls l t w i).map .int))), s7, s8], st ++ rest⟩ ∧ i ≤ h) ?_ ?_ ?_ ?_)))
  · exact ⟨none, none, _, rfl, Nat.zero_le _⟩
  · rintro j S ⟨s7, s8, rest, rfl, _⟩; trivial
  · rintro j d S hj ⟨s7, s8, rest, rfl, _⟩
    obtain ⟨rfl, hj'⟩ := intsFrom_at hj
    have hjh : j < h := by omega
    have hjw : (j + 1) * w ≤ h * w := Nat.mul_le_mul_right w hjh
    have e1 : (l + (w : Int) - l).toNat = w := by omega
    have hln := listed_len ls l t w j
    have hsz : (listed ls l t w j).length + (rowT ls (t + (j : Int)) l w).length ≤ 1000000 := by rw [rowT_len, hln]; rw [Nat.succ_mul] at hjw; omega
    rw [bind_bnd]
    simp! [e1]
    rw [lcL_map (g := dmap fun x => thr ls x (t + (j : Int))) trivial _ _ (fun d hd => by
      obtain ⟨i, hi⟩ := List.getElem?_of_mem hd
      obtain ⟨rfl, _⟩ := intsFrom_at hi
      simp! [thr3_i hp hl, dmap_i]) (by rw [intsFrom_length]; simp; omega)]
    rw [rowT_map]
    simp! [lcFin_ok (acc := (rowT ls (t + (j : Int)) l w).map .int) (by rw [List.length_map, rowT_len]; omega), opAdd_pr, catK_big (a := (listed ls l t w j).map D.int) (b := (rowT ls (t + (j : Int)) l w).map .int) (by simpa using hsz)]
    rw [show listed ls l t w (j + 1) = listed ls l t w j ++ rowT ls (t + (j : Int)) l w from rfl, List.map_append]
    exact wp_ok ⟨_, _, _, rfl, hjh⟩
  · rintro S ⟨s7, s8, rest, rfl, _⟩
    rw [show (Dd.intsFrom t (t + (h : Int) - t).toNat).length = h by rw [intsFrom_length]; omega]
    simp! []
    refine wp_ok ?_
    simp! []
    exact wpf_ok ⟨rfl, rfl⟩
end Lib

set_option Elab.async false
set_option linter.all false
set_option maxRecDepth 100000
set_option exponentiation.threshold 2000
namespace Lib
open PySem PySem.Spec PyProof.Rows L2 Dd
theorem two_two (n : Nat) : (2 : Int) ^ n * 2 ^ n = 4 ^ n := by rw [← four_two, Nat.two_mul, Int.pow_add]
theorem area_wh (W H : Int) (n : Nat) : W * 2 ^ n * (H * 2 ^ n) = W * H * 4 ^ n := by
  rw [← two_two]
  simp only [Int.mul_assoc, Int.mul_left_comm, Int.mul_comm]
section
variable {ls : List (List Int)} {l t W H : Int}
theorem nth_wh (h50 : ls.length ≤ 50) (hp : Lvs ls) (hW : 1 ≤ W) (hH : 1 ≤ H) {n : Int} (n0 : 0 ≤ n) (n1 : n < W * H * 4 ^ ls.length) : nthT ls l t (W * 2 ^ ls.length) (H * 2 ^ ls.length) n = n / (W * H) := by
  have p := two_pos ls.length
  have e1 : 0 < W * H := Int.mul_pos (by omega) (by omega)
  have q0 : 0 ≤ n / (W * H) := Int.ediv_nonneg n0 (Int.le_of_lt e1)
  have q1 : n / (W * H) < 4 ^ ls.length := Int.ediv_lt_of_lt_mul e1 (by rw [Int.mul_comm]; exact n1)
  refine nthT_of hp (Int.le_of_lt (Int.mul_pos (by omega) p)) (Int.le_of_lt (Int.mul_pos (by omega) p)) ⟨q0, q1, ?_, ?_⟩
  · rw [cnt_whole h50 hp q0 (Int.le_of_lt q1)]
    exact Int.mul_ediv_self_le (Int.ne_of_gt e1)
  · rw [cnt_whole h50 hp (by omega) (by omega), Int.mul_add, Int.mul_one]
    exact Int.lt_mul_ediv_self_add e1
theorem tms_wh (h50 : ls.length ≤ 50) (hp : Lvs ls) {k : Int} (k0 : 0 ≤ k) (k1 : k < 4 ^ ls.length) : tms ls l t (W * 2 ^ ls.length) (H * 2 ^ ls.length) k = W * H := by
  unfold tms
  rw [cnt_whole h50 hp (by omega) (by omega), cnt_whole h50 hp k0 (Int.le_of_lt k1), Int.mul_add, Int.mul_one]
  omega
theorem lst_wh (h50 : ls.length ≤ 50) (hp : Lvs ls) (hW : 1 ≤ W) (hH : 1 ≤ H) {n : Int} (n0 : 0 ≤ n) (n1 : n ≤ W * H * 4 ^ ls.length) : lst ls l t (W * 2 ^ ls.length) (H * 2 ^ ls.length) n = (n + W * H - 1) / (W * H) := by
  have e1 : 0 < W * H := Int.mul_pos (by omega) (by omega)
  unfold lst
  by_cases h : n = 0
  · rw [if_pos h, h]
    exact (Int.ediv_eq_zero_of_lt (by omega) (by omega)).symm
  · rw [if_neg h, nth_wh h50 hp hW hH (by omega) (by omega), show n + W * H - 1 = n - 1 + W * H by omega, Int.add_ediv_of_dvd_right (Int.dvd_refl _), Int.ediv_self (Int.ne_of_gt e1)]
theorem grt_wh (h50 : ls.length ≤ 50) (hp : Lvs ls) (hW : 1 ≤ W) (hH : 1 ≤ H) {n : Int} (n0 : 0 ≤ n) (n1 : n < W * H * 4 ^ ls.length) : grt ls l t (W * 2 ^ ls.length) (H * 2 ^ ls.length) n = n / (W * H) := by
  unfold grt
  rw [area_wh, if_pos n1, nth_wh h50 hp hW hH n0 n1]
/-- the stretches -/
noncomputable def bg (ls : List (List Int)) (l t w h n : Int) : Int := if n ≤ w * h then lst ls l t w h n else 4 ^ ls.length + 1
theorem bg_some {w h n : Int} (n1 : n ≤ w * h) (n0 : 0 ≤ n) : grt ls l t w h n + 1 = bg ls l t w h (n + 1) := by
  unfold bg grt lst
  by_cases h1 : n < w * h
  · rw [if_pos h1, if_pos (by omega), if_neg (by omega), show n + 1 - 1 = n by omega]
  · rw [if_neg h1, if_neg (by omega)]
theorem bg_none (h50 : ls.length ≤ 50) (hp : Lvs ls) {w h n : Int} (hw : WinOk l t w h) (n1 : n ≤ w * h) (n0 : 0 ≤ n) (hn : ¬ lst ls l t w h n ≤ grt ls l t w h n) : lst ls l t w h n = bg ls l t w h (n + 1) := by
  have a := (lst_is h50 hp hw n0 n1).2.1
  rw [← bg_some n1 n0]
  unfold grt at hn ⊢
  by_cases h1 : n < w * h
  · rw [if_pos h1] at hn ⊢
    unfold lst at hn ⊢
    by_cases h0 : n = 0
    · rw [if_pos h0] at hn
      have := (nth_is h50 hp hw n0 h1).1
      omega
    · rw [if_neg h0] at hn ⊢
      have := nth_mono h50 hp hw (a := n - 1) (b := n) (by omega) (by omega) h1
      omega
  · rw [if_neg h1] at hn
    omega
/-- a window in a window: x the growth of dots from a shade to another, both windows -/
theorem grow_in (hp : Lvs ls) {a b : Int} (a0 : 0 ≤ a) (ab : a ≤ b) (b1 : b ≤ 4 ^ ls.length) {w h x1 x2 y1 y2 : Int} (hw : 0 ≤ w) (hh : 0 ≤ h) (hx1 : 0 ≤ x1) (hx2 : 0 ≤ x2) (hy1 : 0 ≤ y1) (hy2 : 0 ≤ y2) :
    cnt ls b l t w h - cnt ls a l t w h ≤ cnt ls b (l - x1) (t - y1) (x1 + w + x2) (y1 + h + y2) - cnt ls a (l - x1) (t - y1) (x1 + w + x2) (y1 + h + y2) := by
  have m := fun (l t w h : Int) (hw : 0 ≤ w) (hh : 0 ≤ h) => cnt_mono hp (l := l) (t := t) hw hh a0 ab b1
  have parts : ∀ k, cnt ls k (l - x1) (t - y1) (x1 + w + x2) (y1 + h + y2) = cnt ls k (l - x1) (t - y1) (x1 + w + x2) y1 + (cnt ls k (l - x1) t x1 h + cnt ls k l t w h + cnt ls k (l + w) t x2 h) + cnt ls k (l - x1) (t + h) (x1 + w + x2) y2 := by
    intro k
    have e1 := cnt_high ls k (l - x1) (t - y1) (x1 + w + x2) (y1 + h) y2
    have e2 := cnt_high ls k (l - x1) (t - y1) (x1 + w + x2) y1 h
    have e3 := cnt_wide ls k (l - x1) t (x1 + w) x2 h
    have e4 := cnt_wide ls k (l - x1) t x1 w h
    rw [show t - y1 + (y1 + h) = t + h by omega] at e1
    rw [show t - y1 + y1 = t by omega] at e2
    rw [show l - x1 + (x1 + w) = l + w by omega] at e3
    rw [show l - x1 + x1 = l by omega] at e4
    omega
  have p1 := parts a
  have p2 := parts b
  have m1 := m (l - x1) (t - y1) (x1 + w + x2) y1 (by omega) hy1
  have m2 := m (l - x1) t x1 h hx1 hh
  have m3 := m (l + w) t x2 h hx2 hh
  have m4 := m (l - x1) (t + h) (x1 + w + x2) y2 (by omega) hy2
  omega
theorem range_in (h50 : ls.length ≤ 50) (hp : Lvs ls) {w h x1 x2 y1 y2 : Int} (hw : WinOk l t w h) (hv : WinOk (l - x1) (t - y1) (x1 + w + x2) (y1 + h + y2)) (hx1 : 0 ≤ x1) (hx2 : 0 ≤ x2) (hy1 : 0 ≤ y1) (hy2 : 0 ≤ y2) :
    nthT ls (l - x1) (t - y1) (x1 + w + x2) (y1 + h + y2) 0 ≤ nthT ls l t w h 0 ∧ nthT ls l t w h 0 ≤ nthT ls l t w h (w * h - 1) ∧ nthT ls l t w h (w * h - 1) ≤ nthT ls (l - x1) (t - y1) (x1 + w + x2) (y1 + h + y2) ((x1 + w + x2) * (y1 + h + y2) - 1) := by
  have A1 := area_pos hw
  have A2 := area_pos hv
  have w5 := hw.2.2.2.2.1
  have w7 := hw.2.2.2.2.2.2.1
  have v5 := hv.2.2.2.2.1
  have v7 := hv.2.2.2.2.2.2.1
  have g := fun {a b : Int} (a0 : 0 ≤ a) (ab : a ≤ b) (b1 : b ≤ 4 ^ ls.length) => grow_in hp (l := l) (t := t) (w := w) (h := h) (x1 := x1) (x2 := x2) (y1 := y1) (y2 := y2) a0 ab b1 (by omega) (by omega) hx1 hx2 hy1 hy2
  refine ⟨?_, nth_mono h50 hp hw (by omega) (by omega) (by omega), ?_⟩
  · obtain ⟨p1, p2, p3, p4⟩ := nth_is h50 hp hw (n := 0) (by omega) (by omega)
    obtain ⟨q1, q2, q3, q4⟩ := nth_is h50 hp hv (n := 0) (by omega) (by omega)
    generalize nthT ls l t w h 0 = v at *
    generalize nthT ls (l - x1) (t - y1) (x1 + w + x2) (y1 + h + y2) 0 = u at *
    apply Classical.byContradiction
    intro hc
    have m := cnt_mono hp (l := l - x1) (t := t - y1) (w := x1 + w + x2) (h := y1 + h + y2) (by omega) (by omega) (a := v + 1) (b := u) (by omega) (by omega) (by omega)
    have g1 := g (a := 0) (b := v + 1) (by omega) (by omega) (by omega)
    rw [cnt_none hp, cnt_none hp] at g1
    omega
  · obtain ⟨p1, p2, p3, p4⟩ := nth_is h50 hp hw (n := w * h - 1) (by omega) (by omega)
    obtain ⟨q1, q2, q3, q4⟩ := nth_is h50 hp hv (n := (x1 + w + x2) * (y1 + h + y2) - 1) (by omega) (by omega)
    generalize nthT ls l t w h (w * h - 1) = v at *
    generalize nthT ls (l - x1) (t - y1) (x1 + w + x2) (y1 + h + y2) ((x1 + w + x2) * (y1 + h + y2) - 1) = u at *
    apply Classical.byContradiction
    intro hc
    have m := cnt_mono hp (l := l) (t := t) (w := w) (h := h) (by omega) (by omega) (a := u + 1) (b := v) (by omega) (by omega) (by omega)
    have g1 := g (a := u + 1) (b := 4 ^ ls.length) (by omega) (by omega) (by omega)
    rw [cnt_full, cnt_full] at g1
    omega
end
end Lib

set_option Elab.async false
set_option linter.all false
set_option maxRecDepth 100000
set_option exponentiation.threshold 2000
namespace Lib
open PySem PySem.Spec PyProof.Rows L2 Dd
/-! texts of data of ints, truths and nothing -/
mutual
def sml : PyData → Bool
  | .none => true
  | .bool _ => true
  | .int i => decide (i.natAbs.log2 < 250)
  | .list xs => smlAll xs
  | .tuple xs => smlAll xs
  | .str _ => false
  | .dict _ => false
def smlAll : List PyData → Bool
  | [] => true
  | x :: xs => sml x && smlAll xs
end
mutual
theorem sml_showable : ∀ d : PyData, sml d = true → d.showable = true
  | .none, _ => by simp only [PyData.showable]
  | .bool _, _ => by simp only [PyData.showable]
  | .int i, h => by
    simp only [sml, decide_eq_true_eq] at h
    simp only [PyData.showable, decide_eq_true_eq]; omega
  | .list xs, h => by simp only [PyData.showable]; exact sml_showableAll xs (by simpa only [sml] using h)
  | .tuple xs, h => by simp only [PyData.showable]; exact sml_showableAll xs (by simpa only [sml] using h)
  | .str _, h => by simp [sml] at h
  | .dict _, h => by simp [sml] at h
theorem sml_showableAll : ∀ xs : List PyData, smlAll xs = true → PyData.showableAll xs = true
  | [], _ => by simp only [PyData.showableAll]
  | x :: xs, h => by
    have h' : sml x = true ∧ smlAll xs = true := by simpa only [smlAll, Bool.and_eq_true] using h
    simp only [PyData.showableAll, sml_showable x h'.1, sml_showableAll xs h'.2, Bool.and_self]
end
mutual
theorem sml_noDict : ∀ d : PyData, sml d = true → d.hasDict = false
  | .none, _ => by simp only [PyData.hasDict]
  | .bool _, _ => by simp only [PyData.hasDict]
  | .int i, h => by simp only [PyData.hasDict]
  | .list xs, h => by simp only [PyData.hasDict]; exact sml_noDictAll xs (by simpa only [sml] using h)
  | .tuple xs, h => by simp only [PyData.hasDict]; exact sml_noDictAll xs (by simpa only [sml] using h)
  | .str _, h => by simp [sml] at h
  | .dict _, h => by simp [sml] at h
theorem sml_noDictAll : ∀ xs : List PyData, smlAll xs = true → PyData.hasDictAll xs = false
  | [], _ => by simp only [PyData.hasDictAll]
  | x :: xs, h => by
    have h' : sml x = true ∧ smlAll xs = true := by simpa only [smlAll, Bool.and_eq_true] using h
    simp only [PyData.hasDictAll, sml_noDict x h'.1, sml_noDictAll xs h'.2, Bool.or_self]
end
theorem str_len (s : String) : (Str.ofString s).length = s.length := by
  show (Str.ofString s).cps.size = _
  have h := congrArg List.length (signs_ofString s)
  rw [List.length_map, String.length_toList] at h
  simpa using h
mutual
theorem sml_short : ∀ d : PyData, sml d = true → d.leavesShort 260 = true
  | .none, _ => by simp only [PyData.leavesShort]
  | .bool _, _ => by simp only [PyData.leavesShort]
  | .int i, h => by
    simp only [sml, decide_eq_true_eq] at h
    simp only [PyData.leavesShort, decide_eq_true_eq, PyData.shown_int]
    have := int_text_length_le (a := i) (k := 250) (by decide) h
    have e := str_len (toString i)
    have e' : ((toString i : String) : Str).length = (toString i).length := e
    omega
  | .list xs, h => by simp only [PyData.leavesShort]; exact sml_shortAll xs (by simpa only [sml] using h)
  | .tuple xs, h => by simp only [PyData.leavesShort]; exact sml_shortAll xs (by simpa only [sml] using h)
  | .str _, h => by simp [sml] at h
  | .dict _, h => by simp [sml] at h
theorem sml_shortAll : ∀ xs : List PyData, smlAll xs = true → PyData.leavesShortAll 260 xs = true
  | [], _ => by simp only [PyData.leavesShortAll]
  | x :: xs, h => by
    have h' : sml x = true ∧ smlAll xs = true := by simpa only [smlAll, Bool.and_eq_true] using h
    simp only [PyData.leavesShortAll, sml_short x h'.1, sml_shortAll xs h'.2, Bool.and_self]
end
mutual
theorem sml_free {k : Nat} (hk : 128 ≤ k) : ∀ d : PyData, sml d = true → k ∉ d.shown.cps.toList
  | .none, _ => by
    rw [PyData.shown_none]
    have e : (("None" : String) : Str).cps.toList = [78, 111, 110, 101] := by decide
    rw [e]; intro hm; simp only [List.mem_cons, List.not_mem_nil, or_false] at hm
    omega
  | .bool b, _ => by
    rw [PyData.shown_bool]
    cases b
    · show k ∉ (Str.ofString "False").cps.toList
      have e : (Str.ofString "False").cps.toList = [70, 97, 108, 115, 101] := by decide
      rw [e]; intro hm; simp only [List.mem_cons, List.not_mem_nil, or_false] at hm
      omega
    · show k ∉ (Str.ofString "True").cps.toList
      have e : (Str.ofString "True").cps.toList = [84, 114, 117, 101] := by decide
      rw [e]; intro hm; simp only [List.mem_cons, List.not_mem_nil, or_false] at hm
      omega
  | .int i, h => shown_int_free' ⟨by omega, by omega⟩ i
  | .list xs, h => by
    rw [PyData.shown_list, mem_cps_append, mem_cps_append, signs_lbrack, signs_rbrack, mem_join, signs_sep]
    have := sml_freeAll hk xs (by simpa only [sml] using h)
    rintro ((hm | (⟨t, ht, hc⟩ | ⟨_, hm⟩)) | hm)
    · simp only [List.mem_cons, List.not_mem_nil, or_false] at hm; omega
    · exact this t ht hc
    · simp only [List.mem_cons, List.not_mem_nil, or_false] at hm; omega
    · simp only [List.mem_cons, List.not_mem_nil, or_false] at hm; omega
  | .tuple xs, h => by
    rw [PyData.shown_tuple, mem_cps_append, mem_cps_append, signs_lparen, mem_join, signs_sep]
    have := sml_freeAll hk xs (by simpa only [sml] using h)
    rintro ((hm | (⟨t, ht, hc⟩ | ⟨_, hm⟩)) | hm)
    · simp only [List.mem_cons, List.not_mem_nil, or_false] at hm; omega
    · exact this t ht hc
    · simp only [List.mem_cons, List.not_mem_nil, or_false] at hm; omega
    · split at hm
      · have e : ((",)" : String) : Str).cps.toList = [44, 41] := by decide
        rw [e] at hm
        simp only [List.mem_cons, List.not_mem_nil, or_false] at hm; omega
      · have e : ((")" : String) : Str).cps.toList = [41] := by decide
        rw [e] at hm
        simp only [List.mem_cons, List.not_mem_nil, or_false] at hm; omega
  | .str _, h => by simp [sml] at h
  | .dict _, h => by simp [sml] at h
theorem sml_freeAll {k : Nat} (hk : 128 ≤ k) : ∀ xs : List PyData, smlAll xs = true → ∀ t ∈ PyData.shownAll xs, k ∉ t.cps.toList
  | [], _ => by intro t ht; rw [PyData.shownAll_nil] at ht; cases ht
  | x :: xs, h => by
    have h' : sml x = true ∧ smlAll xs = true := by simpa only [smlAll, Bool.and_eq_true] using h
    intro t ht
    rw [PyData.shownAll_cons, List.mem_cons] at ht
    rcases ht with e | ht
    · rw [e]; exact sml_free hk x h'.1
    · exact sml_freeAll hk xs h'.2 t ht
end
theorem sml_strOk {d : PyData} (h : sml d = true) : PyData.strOk d.shown = true := by
  unfold PyData.strOk
  rw [← Array.all_toList, List.all_eq_true]
  intro c hc
  have : c < 128 := by
    apply Classical.byContradiction
    intro hn
    exact sml_free (k := c) (by omega) d h hc
  simp only [decide_eq_true_eq]
  omega
theorem opNeD_t {a b : Str} {S : Sg} (ha : PyData.strOk a = true) (hb : PyData.strOk b = true) : opNeD (.p (.str a)) (.p (.str b)) S = .ok (.p (.bl (!decide (a = b)))) S := by
  have sh : ∀ {a : Str}, PyData.strOk a = true → SeqAt.shaped (.str a) = true := fun {a} h => by
    show (PyData.strOk a && decide (0 ≤ 64)) = true
    rw [h]; rfl
  rw [opNeD_of (d := .str a) (e := .str b) rfl rfl (sh ha) (sh hb), eqv_str]
theorem opEqD_t {a b : Str} {S : Sg} (ha : PyData.strOk a = true) (hb : PyData.strOk b = true) : opEqD (.p (.str a)) (.p (.str b)) S = .ok (.p (.bl (decide (a = b)))) S := by
  have sh : ∀ {a : Str}, PyData.strOk a = true → SeqAt.shaped (.str a) = true := fun {a} h => by
    show (PyData.strOk a && decide (0 ≤ 64)) = true
    rw [h]; rfl
  rw [opEqD_of (d := .str a) (e := .str b) rfl rfl (sh ha) (sh hb), eqv_str]
/-- the text of data, as one word -/
def Sml (d : PyData) : Prop := sml d = true ∧ d.depth ≤ 64 ∧ d.weight ≤ 50000
theorem opRepr_t {x : R} {d : PyData} {S : Sg} (hx : dataR x S = some d) (h : Sml d) : opRepr x S = .ok (.p (.str d.shown)) S := by
  obtain ⟨h1, h2, h3⟩ := h
  have ln : d.shown.length ≤ sizeLine := by
    have := PyData.shown_le 260 (by decide) d (sml_short d h1)
    rw [sizeLine_eq]; omega
  unfold opRepr
  rw [hx]
  cases d with
  | int i =>
    simp only [sml, decide_eq_true_eq] at h1
    simp only
    rw [if_pos (by omega), PyData.shown_int]
  | list xs => exact if_pos ⟨sml_showable _ h1, sml_noDict _ h1, h2, ln⟩
  | tuple xs => exact if_pos ⟨sml_showable _ h1, sml_noDict _ h1, h2, ln⟩
  | bool b => simp only [PyData.shown_bool]
  | none => simp only [PyData.shown_none]
  | str z => simp [sml] at h1
  | dict z => simp [sml] at h1
theorem smlAll_ints : ∀ {ns : List Int}, (∀ n ∈ ns, Bt 240 n) → smlAll (ns.map .int) = true
  | [], _ => rfl
  | n :: ns, h => by
    have := (h n List.mem_cons_self).log2
    show (sml (.int n) && smlAll (ns.map .int)) = true
    rw [smlAll_ints fun m hm => h m (List.mem_cons_of_mem _ hm)]
    simp only [sml, Bool.and_true, decide_eq_true_eq]; omega
theorem weight_ints : ∀ {ns : List Int}, (∀ n ∈ ns, Bt 240 n) → PyData.weightAll (ns.map .int) ≤ 242 * ns.length
  | [], _ => Nat.zero_le _
  | n :: ns, h => by
    have := (h n List.mem_cons_self).log2
    have ih := weight_ints fun m hm => h m (List.mem_cons_of_mem n hm)
    show PyData.weight (.int n) + 1 + PyData.weightAll (ns.map .int) ≤ _
    have e : PyData.weight (.int n) ≤ 241 := by
      simp only [PyData.weight]; split <;> omega
    rw [List.length_cons]; omega
theorem depth_ints : ∀ {ns : List Int}, PyData.depthAll (ns.map .int) = 0
  | [] => rfl
  | n :: ns => by
    show max (PyData.depth (.int n)) (PyData.depthAll (ns.map .int)) = 0
    rw [depth_ints]; rfl
theorem Sml.ints {ns : List Int} (h : ∀ n ∈ ns, Bt 240 n) (hl : ns.length ≤ 200) : Sml (.list (ns.map .int)) := by
  refine ⟨by simpa only [sml] using smlAll_ints h, ?_, ?_⟩
  · simp only [PyData.depth, depth_ints]; omega
  · have := weight_ints h
    simp only [PyData.weight]; omega
theorem Sml.tint {ns : List Int} (h : ∀ n ∈ ns, Bt 240 n) (hl : ns.length ≤ 200) : Sml (.tuple (ns.map .int)) := by
  refine ⟨by simpa only [sml] using smlAll_ints h, ?_, ?_⟩
  · simp only [PyData.depth, depth_ints]; omega
  · have := weight_ints h
    simp only [PyData.weight]; omega
theorem Sml.int {n : Int} (h : Bt 240 n) : Sml (.int n) := by
  have := h.log2
  refine ⟨by simp only [sml, decide_eq_true_eq]; omega, by simp only [PyData.depth]; omega, ?_⟩
  simp only [PyData.weight]; split <;> omega
theorem Sml.none : Sml .none := ⟨rfl, by simp only [PyData.depth]; omega, by simp only [PyData.weight]; omega⟩
theorem Sml.bool {b : Bool} : Sml (.bool b) := ⟨rfl, by simp only [PyData.depth]; omega, by simp only [PyData.weight]; omega⟩
end Lib

set_option Elab.async false
set_option linter.all false
set_option maxRecDepth 100000
set_option exponentiation.threshold 2000
namespace Lib
open PySem PySem.Spec PyProof.Rows L2 Dd
/-! thresholds in ascending sequence -/
theorem undr_perm {k : Int} {a b : List Int} (h : a.Perm b) : undr k a = undr k b := (h.filter _).length_eq
theorem undr_all {k : Int} : ∀ {a : List Int}, (∀ x ∈ a, x < k) → undr k a = a.length
  | [], _ => rfl
  | x :: a, h => by
    have ih := undr_all fun y hy => h y (List.mem_cons_of_mem x hy)
    unfold undr at ih ⊢
    rw [List.filter_cons, if_pos (decide_eq_true (h x List.mem_cons_self)), List.length_cons, ih, List.length_cons]
theorem undr_none {k : Int} : ∀ {a : List Int}, (∀ x ∈ a, k ≤ x) → undr k a = 0
  | [], _ => rfl
  | x :: a, h => by
    have ih := undr_none fun y hy => h y (List.mem_cons_of_mem x hy)
    have := h x List.mem_cons_self
    unfold undr at ih ⊢
    rw [List.filter_cons, if_neg (by simp; omega), ih]
theorem undr_le (k : Int) (a : List Int) : undr k a ≤ a.length := List.length_filter_le _ _
theorem undr_sorted {L : List Int} (hs : L.Pairwise (· ≤ ·)) {n : Nat} {v : Int} (hv : L[n]? = some v) : undr v L ≤ n ∧ n < undr (v + 1) L := by
  obtain ⟨hn, ev⟩ := List.getElem?_eq_some_iff.mp hv
  have hp := List.pairwise_iff_getElem.mp hs
  have a1 : ∀ x ∈ L.drop n, v ≤ x := by
    intro x hx
    obtain ⟨i, hi⟩ := List.getElem?_of_mem hx
    rw [List.getElem?_drop] at hi
    obtain ⟨hi', ei⟩ := List.getElem?_eq_some_iff.mp hi
    by_cases e : i = 0
    · subst e
      have : L[n + 0] = L[n] := rfl
      omega
    · have := hp n (n + i) hn hi' (by omega)
      omega
  have a2 : ∀ x ∈ L.take (n + 1), x < v + 1 := by
    intro x hx
    obtain ⟨i, hi⟩ := List.getElem?_of_mem hx
    have hil := (List.getElem?_eq_some_iff.mp hi).1
    rw [List.length_take] at hil
    rw [List.getElem?_take_of_lt (by omega)] at hi
    obtain ⟨hi', ei⟩ := List.getElem?_eq_some_iff.mp hi
    by_cases e : i = n
    · subst e; omega
    · have := hp i n hi' hn (by omega)
      omega
  constructor
  · rw [← List.take_append_drop n L, undr_app, undr_none a1, Nat.add_zero]
    exact Nat.le_trans (undr_le _ _) (by rw [List.length_take]; omega)
  · rw [← List.take_append_drop (n + 1) L, undr_app, undr_all a2, List.length_take]
    omega
theorem undr_count (k : Int) : ∀ L : List Int, undr (k + 1) L = undr k L + L.count k
  | [] => rfl
  | x :: L => by
    have ih := undr_count k L
    unfold undr at ih ⊢
    rw [List.filter_cons, List.filter_cons, List.count_cons]
    by_cases h1 : x < k
    · rw [if_pos (by simp; omega), if_pos (by simpa using h1), List.length_cons, List.length_cons, ih, if_neg (by simp; omega)]
      omega
    · by_cases h2 : x = k
      · rw [if_pos (by simp; omega), if_neg (by simpa using h1), List.length_cons, ih, if_pos (by simpa using h2)]
        omega
      · rw [if_neg (by simp; omega), if_neg (by simpa using h1), ih, if_neg (by simpa using h2)]
        omega
theorem rowT_mem {ls : List (List Int)} {y v : Int} : ∀ {n : Nat} {l : Int}, v ∈ rowT ls y l n → ∃ x, v = thr ls x y
  | 0, l, h => by cases h
  | n + 1, l, h => by
    rcases List.mem_cons.mp h with h | h
    · exact ⟨l, h⟩
    · exact rowT_mem h
theorem listed_mem {ls : List (List Int)} {l t v : Int} {w : Nat} : ∀ {n : Nat}, v ∈ listed ls l t w n → ∃ x y, v = thr ls x y
  | 0, h => by cases h
  | n + 1, h => by
    rcases List.mem_append.mp h with h | h
    · exact listed_mem h
    · obtain ⟨x, e⟩ := rowT_mem h
      exact ⟨x, _, e⟩
/-- the thresholds of a window in ascending sequence -/
noncomputable def srt (ls : List (List Int)) (l t : Int) (w h : Nat) : List Int := sortI (listed ls l t w h)
section
variable {ls : List (List Int)} {l t : Int} {w h : Nat}
theorem srt_len : (srt ls l t w h).length = h * w := by
  unfold srt
  rw [(sortI_props _).1.length_eq, listed_len]
theorem srt_area : ((srt ls l t w h).length : Int) = (w : Int) * (h : Int) := by
  rw [srt_len, Int.natCast_mul, Int.mul_comm]
theorem srt_bd (hp : Lvs ls) {v : Int} (hv : v ∈ srt ls l t w h) : 0 ≤ v ∧ v < 4 ^ ls.length := by
  obtain ⟨x, y, rfl⟩ := listed_mem ((sortI_props _).1.mem_iff.mp hv)
  exact thr_bd x y hp
theorem srt_undr (hp : Lvs ls) {k : Int} (k0 : 0 ≤ k) (k1 : k ≤ 4 ^ ls.length) : (undr k (srt ls l t w h) : Int) = cnt ls k l t w h := by
  unfold srt
  rw [undr_perm (sortI_props _).1, listed_cnt hp k0 k1]
theorem srt_nth (hp : Lvs ls) {n : Nat} (hn : n < (srt ls l t w h).length) : (srt ls l t w h)[n]? = some (nthT ls l t w h n) := by
  have e := List.getElem?_eq_getElem hn
  generalize (srt ls l t w h)[n] = v at e
  have hv := List.mem_of_getElem? e
  obtain ⟨v0, v1⟩ := srt_bd hp hv
  obtain ⟨a, b⟩ := undr_sorted (sortI_props (listed ls l t w h)).2 e
  have a' : undr v (srt ls l t w h) ≤ n := a
  have b' : n < undr (v + 1) (srt ls l t w h) := b
  have c1 := srt_undr (ls := ls) (l := l) (t := t) (w := w) (h := h) hp v0 (Int.le_of_lt v1)
  have c2 := srt_undr (ls := ls) (l := l) (t := t) (w := w) (h := h) hp (k := v + 1) (by omega) (by omega)
  rw [e, nthT_of hp (by omega) (by omega) (T := v) ⟨v0, v1, by omega, by omega⟩]
theorem srt_cnt (hp : Lvs ls) {k : Int} (k0 : 0 ≤ k) (k1 : k < 4 ^ ls.length) : ((srt ls l t w h).count k : Int) = tms ls l t w h k := by
  have c1 := srt_undr (ls := ls) (l := l) (t := t) (w := w) (h := h) hp k0 (Int.le_of_lt k1)
  have c2 := srt_undr (ls := ls) (l := l) (t := t) (w := w) (h := h) hp (k := k + 1) (by omega) (by omega)
  have := undr_count k (srt ls l t w h)
  unfold tms
  omega
theorem srt_map (hp : Lvs ls) : (Dd.intsFrom 0 (h * w)).map (dmap fun n => nthT ls l t w h n) = (srt ls l t w h).map .int := by
  apply List.ext_getElem?
  intro i
  by_cases hi : i < h * w
  · rw [List.getElem?_map, List.getElem?_map, srt_nth hp (by rw [srt_len]; exact hi)]
    have : (Dd.intsFrom 0 (h * w))[i]? = some (.int (0 + (i : Nat))) := by
      have e := List.getElem?_eq_getElem (l := Dd.intsFrom 0 (h * w)) (i := i) (by rw [intsFrom_length]; exact hi)
      rw [e, (intsFrom_at e).1]
    rw [this, Int.zero_add]
    rfl
  · rw [List.getElem?_eq_none (by rw [List.length_map, intsFrom_length]; omega), List.getElem?_eq_none (by rw [List.length_map, srt_len]; omega)]
theorem lst_srt {j : Int} (h0 : ¬ j = 0) : lst ls l t w h j = nthT ls l t w h (j - 1) + 1 := if_neg h0
end
/-! the texts of lists, the places of lists -/
theorem ixK_nn {L : List Int} {i : Int} {v : Int} {S : Sg} (h0 : 0 ≤ i) (h : L[i.toNat]? = some v) : ixK (L.map .int) i S = .ok (.p (.int v)) S :=
  ixK_of (atI_of h0 (by rw [List.getElem?_map, h]; rfl))
theorem opRepr_rl {m : Nat} {ns : List Int} {S : Sg} (hm : S.st[m]? = some (.mu (.lst (ns.map .int)))) (h : ∀ n ∈ ns, Bt 240 n) (hl : ns.length ≤ 200) : opRepr (.r m) S = .ok (.p (.str (PyData.list (ns.map .int)).shown)) S :=
  opRepr_t (by rw [dataR_r, hm, dataK_ints]) (Sml.ints h hl)
theorem opRepr_pl {ns : List Int} {S : Sg} (h : ∀ n ∈ ns, Bt 240 n) (hl : ns.length ≤ 200) : opRepr (.p (.lst (ns.map .int))) S = .ok (.p (.str (PyData.list (ns.map .int)).shown)) S :=
  opRepr_t (by rw [dataR_p]; unfold toPy; rw [toPyL_ints]) (Sml.ints h hl)
theorem opRepr_t2 {a b : Int} {S : Sg} (ha : Bt 240 a) (hb : Bt 240 b) : opRepr (.p (.tup [.int a, .int b])) S = .ok (.p (.str (PyData.tuple [.int a, .int b]).shown)) S :=
  opRepr_t (by rw [dataR_p]; rfl) (Sml.tint (ns := [a, b]) (fun n hn => by
    simp only [List.mem_cons, List.not_mem_nil, or_false] at hn
    rcases hn with rfl | rfl <;> assumption) (by simp))
theorem opRepr_n {S : Sg} : opRepr (.p .non) S = .ok (.p (.str (PyData.none).shown)) S := opRepr_t (by rw [dataR_p]; rfl) Sml.none
theorem strOk_ints {ns : List Int} (h : ∀ n ∈ ns, Bt 240 n) (hl : ns.length ≤ 200) : PyData.strOk (PyData.list (ns.map .int)).shown = true := sml_strOk (Sml.ints h hl).1
theorem strOk_t2 {a b : Int} (ha : Bt 240 a) (hb : Bt 240 b) : PyData.strOk (PyData.tuple [.int a, .int b]).shown = true := sml_strOk (Sml.tint (ns := [a, b]) (fun n hn => by
    simp only [List.mem_cons, List.not_mem_nil, or_false] at hn
    rcases hn with rfl | rfl <;> assumption) (by simp)).1
theorem strOk_n : PyData.strOk (PyData.none).shown = true := sml_strOk Sml.none.1
theorem ixK_m1 {L : List Int} {v : Int} {S : Sg} (h : L[L.length - 1]? = some v) : ixK (L.map .int) (-1) S = .ok (.p (.int v)) S := by
  have hl := (List.getElem?_eq_some_iff.mp h).1
  refine ixK_of ?_
  unfold L2.atI L2.ixN
  rw [if_neg (by omega), List.length_map, if_pos (by omega)]
  show (L.map D.int)[_]? = _
  rw [show ((-1 : Int) + (L.length : Int)).toNat = L.length - 1 by omega, List.getElem?_map, h]
  rfl
end Lib

set_option Elab.async false
set_option linter.all false
set_option maxRecDepth 100000
set_option exponentiation.threshold 2000
namespace Lib
open PySem PySem.Spec PyProof.Rows L2 Dd
theorem range_filter {p : Nat → Bool} {a b n : Nat} (hab : a ≤ b) (hb : b ≤ n) (hp : ∀ k, k < n → (p k = true ↔ a ≤ k ∧ k < b)) : (List.range n).filter p = List.range' a (b - a) := by
  have e : List.range n = List.range' 0 a ++ List.range' a (b - a) ++ List.range' b (n - b) := by
    have e1 := List.range'_append (s := 0) (m := a) (n := b - a) (step := 1)
    have e2 := List.range'_append (s := 0) (m := a + (b - a)) (n := n - b) (step := 1)
    rw [List.range_eq_range']
    rw [show 0 + 1 * a = a by omega] at e1
    rw [show 0 + 1 * (a + (b - a)) = b by omega] at e2
    rw [e1, e2]
    congr 1; omega
  rw [e, List.filter_append, List.filter_append]
  have f1 : (List.range' 0 a).filter p = [] := by
    rw [List.filter_eq_nil_iff]
    intro k hk
    have hk := List.mem_range'_1.mp hk
    rw [hp k (by omega)]; omega
  have f2 : (List.range' a (b - a)).filter p = List.range' a (b - a) := by
    rw [List.filter_eq_self]
    intro k hk
    have hk := List.mem_range'_1.mp hk
    rw [hp k (by omega)]; omega
  have f3 : (List.range' b (n - b)).filter p = [] := by
    rw [List.filter_eq_nil_iff]
    intro k hk
    have hk := List.mem_range'_1.mp hk
    rw [hp k (by omega)]; omega
  rw [f1, f2, f3, List.nil_append, List.append_nil]
theorem range_filter_none {p : Nat → Bool} {n : Nat} (hp : ∀ k, k < n → p k = false) : (List.range n).filter p = [] := by
  rw [List.filter_eq_nil_iff]
  intro k hk
  rw [hp k (List.mem_range.mp hk)]; simp
section
variable {ls : List (List Int)} {l t w h j : Int}
theorem cnt_eq_iff (h50 : ls.length ≤ 50) (hp : Lvs ls) (hw : WinOk l t w h) (j0 : 0 ≤ j) (j1 : j ≤ w * h) {k : Int} (k0 : 0 ≤ k) (k1 : k ≤ 4 ^ ls.length) : cnt ls k l t w h = j ↔ lst ls l t w h j ≤ k ∧ k ≤ grt ls l t w h j := by
  have hw' := hw
  obtain ⟨w1, w2, w3, w4, w5, w6, w7, w8⟩ := hw'
  obtain ⟨a0, a1, a2, a3⟩ := lst_is h50 hp hw j0 j1
  obtain ⟨g0, g1, g2, g3⟩ := grt_is h50 hp hw j0 j1
  have m := fun {a b : Int} (a0 : 0 ≤ a) (ab : a ≤ b) (b1 : b ≤ 4 ^ ls.length) => cnt_mono hp (l := l) (t := t) (w := w) (h := h) (by omega) (by omega) a0 ab b1
  generalize lst ls l t w h j = A at *
  generalize grt ls l t w h j = G at *
  constructor
  · intro e
    constructor
    · apply Classical.byContradiction
      intro hc
      have := m (a := k) (b := A - 1) k0 (by omega) (by omega)
      have := a3 (by omega)
      omega
    · apply Classical.byContradiction
      intro hc
      have := m (a := G + 1) (b := k) (by omega) (by omega) (by omega)
      have := g3 (by omega)
      omega
  · rintro ⟨h1, h2⟩
    have := m a0 h1 k1
    have := m k0 h2 g1
    omega
theorem cnt_ge_iff (h50 : ls.length ≤ 50) (hp : Lvs ls) (hw : WinOk l t w h) (j0 : 0 ≤ j) (j1 : j ≤ w * h) {k : Int} (k0 : 0 ≤ k) (k1 : k ≤ 4 ^ ls.length) : j ≤ cnt ls k l t w h ↔ lst ls l t w h j ≤ k := by
  have hw' := hw
  obtain ⟨w1, w2, w3, w4, w5, w6, w7, w8⟩ := hw'
  obtain ⟨a0, a1, a2, a3⟩ := lst_is h50 hp hw j0 j1
  have m := fun {a b : Int} (a0 : 0 ≤ a) (ab : a ≤ b) (b1 : b ≤ 4 ^ ls.length) => cnt_mono hp (l := l) (t := t) (w := w) (h := h) (by omega) (by omega) a0 ab b1
  generalize lst ls l t w h j = A at *
  constructor
  · intro e
    apply Classical.byContradiction
    intro hc
    have := m (a := k) (b := A - 1) k0 (by omega) (by omega)
    have := a3 (by omega)
    omega
  · intro h1
    have := m a0 h1 k1
    omega
end
theorem num_range (F : Nat → Int) (s : Nat) : numbered 0 (((List.range s).map F).map D.int) = (List.range s).map fun k : Nat => [D.int (k : Int), D.int (F k)] := by
  apply List.ext_getElem?
  intro i
  by_cases hi : i < s
  · have hl : i < (numbered 0 (((List.range s).map F).map D.int)).length := by rw [numbered_len, List.length_map, List.length_map, List.length_range]; exact hi
    have e := List.getElem?_eq_getElem hl
    obtain ⟨d, h1, h2⟩ := numbered_get e
    rw [e, h2]
    rw [List.getElem?_map, List.getElem?_map, List.getElem?_range hi] at h1
    rw [List.getElem?_map, List.getElem?_range hi]
    simp only [Option.map_some, Option.some.injEq] at h1
    rw [← h1, Nat.zero_add]
    rfl
  · rw [List.getElem?_eq_none (by rw [numbered_len, List.length_map, List.length_map, List.length_range]; omega), List.getElem?_eq_none (by rw [List.length_map, List.length_range]; omega)]
def nP (q : Int → Bool) (ds : List D) : Bool := match ds with
  | [_, .int v] => q v
  | _ => false
def nG (ds : List D) : D := ds.headD .non
theorem filter_num (F : Nat → Int) (q : Int → Bool) (s : Nat) : ([] : List D) ++ (((List.range s).map fun k : Nat => [D.int (k : Int), D.int (F k)]).filter (nP q)).map nG = (((List.range s).filter fun k : Nat => q (F k)).map fun k : Nat => (k : Int)).map D.int := by
  rw [List.nil_append, List.filter_map, List.map_map, List.map_map]
  rfl
end Lib

set_option Elab.async false
set_option linter.all false
set_option maxRecDepth 100000
set_option exponentiation.threshold 2000
namespace Lib
open PySem PySem.Spec PyProof.Rows L2 Dd
theorem thr4_i {ls : List (List Int)} (h : Lvs ls) (hl : ls.length ≤ 50) (x y : Int) (st : Store) : s_z_law_threshold_v1 [.p (.lst (lvD ls)), .p (.int x), .p (.int y)] st = .ok (.val (.int (thr ls x y))) st := by
  unfold s_z_law_threshold_v1 b_z_law_threshold_v1
  simp! []
  refine fin_eq (wp_fin (wp_bnd (wp_loop (I := fun i S => ∃ z w, S = ⟨[some (.p (.lst (lvD ls))), some (.p (.int x)), some (.p (.int y)), some (.p (.int (thr (ls.take i) x y))), z, w], st⟩) ?_ ?_ ?_ ?_)))
  · exact ⟨none, none, rfl⟩
  · rintro j S ⟨z, w, rfl⟩; trivial
  · rintro j d S hj ⟨z, w, rfl⟩
    obtain ⟨d', rfl, hd⟩ := numbered_at hj
    obtain ⟨lv, hlv, rfl, hm⟩ := lvD_get hd
    rw [bind_bnd]
    have e0 : ((0 + j : Nat) : Int) = (j : Int) := by omega
    simp! [e0, opShr_i (i := x) (j := (j : Int)) (by omega), opShr_i (i := y) (j := (j : Int)) (by omega), Int.toNat_natCast, band1, opMul_i (thr_mul h hl j x y), opMul_i (two_mul_sm (z := y / 2 ^ j % 2) (by omega) (by omega)), dg_ix (h lv hm)]
    rw [← thr_take hlv]
    exact wp_ok ⟨_, _, rfl⟩
  · rintro S ⟨z, w, rfl⟩
    rw [numbered_len, lvD_len, List.take_length]
    simp! []
    refine wp_ok ?_
    simp! []
    exact wpf_ok ⟨rfl, rfl⟩
theorem opNeD_rr0 {i k : Nat} {S : Sg} {l : List Int} (hk : S.st[i]? = some (.mu (.lst (l.map .int)))) (hm : S.st[k]? = some (.mu (.lst []))) : opNeD (.r i) (.r k) S = .ok (.p (.bl (!decide (l = [])))) S := opNeD_ints hk hm
/-- one level, drawn in place -/
theorem levels1_d {most : Int} (h0 : 0 < most) (h1 : most ≤ 50) : DrawsL s_z_law_levels_v1 (fun n => [.r n, .p (.int most)]) (fun v => ∃ ls, v = lvD ls ∧ LvOk ls ∧ (ls.length : Int) ≤ most) 250 := by
  apply drL_of
  intro st n c C hn hb hC
  unfold s_z_law_levels_v1 b_z_law_levels_v1
  simp! [bnd_bnd]
  refine wpf_bnd (wp_draw (pick_d (m := most) h0 (by omega)) hn hb (by omega) fun v2 c2 ⟨v, e2, a2, b2⟩ B2 => ?_)
  subst e2
  obtain ⟨d, hd⟩ : ∃ d : Nat, 1 + v = (d : Int) := ⟨(1 + v).toNat, by omega⟩
  simp! [bnd_bnd, hd, rngK1_n (show d ≤ 1000000 by omega)]
  refine wpf_bnd (wp_loop (I := fun i S => ∃ (c' : Cell) (ls : List (List Int)) (rest : Store) (s3 s4 s5 : Option R), S = ⟨[some (.r n), some (.p (.int most)), some (.r st.length), s3, s4, s5], st.set n c' ++ (.mu (.lst (lvD ls)) :: rest)⟩ ∧ ls.length = i ∧ Lvs ls ∧ i ≤ d ∧ BagC c' (C + 1 + 4 * i)) ?_ ?_ ?_ ?_)
  · exact ⟨c2, [], [], none, none, none, rfl, rfl, fun _ h => by simp at h, Nat.zero_le _, B2⟩
  · intros; trivial
  · rintro j q S hj ⟨c', ls, rest, s3, s4, s5, rfl, hl, hp, hi, B⟩
    obtain ⟨rfl, hj'⟩ := intsFrom_at hj
    rw [bind_bnd]
    simp! [bnd_bnd]
    refine wp_bnd (wp_while (I := fun m S => ∃ (c' : Cell) (left lev : List Int) (rest2 : Store), S = ⟨[some (.r n), some (.p (.int most)), some (.r st.length), some (.p (.int (0 + (j : Int)))), some (.r (st.length + (rest.length + 1))), some (.r (st.length + (rest.length + 1 + 1)))], st.set n c' ++ (.mu (.lst (lvD ls)) :: (rest ++ (.mu (.lst (left.map .int)) :: .mu (.lst (lev.map .int)) :: rest2)))⟩ ∧ left.length = m ∧ lev.length = 4 - m ∧ (lev ++ left).Perm [0, 1, 2, 3] ∧ BagC c' (C + 1 + 4 * j + lev.length)) 4 ?_ ?_)
    · exact ⟨c', [0, 1, 2, 3], [], [], by simp, rfl, rfl, List.Perm.refl _, B⟩
    · rintro m S ⟨c', left, lev, rest2, rfl, hm, hlen, hp2, B⟩
      have ne := fun (i k : Nat) (S : Sg) (h1 : S.st[i]? = some (.mu (.lst (left.map .int)))) (h2 : S.st[k]? = some (.mu (.lst []))) => opNeD_rr0 h1 h2
      simp! [bnd_bnd]
      rw [ne]
      rotate_left
      · show (List.set st n c' ++ _)[_]? = _
        rw [get_set_app]; simp
      · show (List.set st n c' ++ _)[_]? = _
        rw [get_set_app]; simp
      cases left with
      | nil =>
        simp! []
        refine wp_ok ?_
        rw [if_neg (by decide)]
        have h4 : lev.length = 4 := by simp at hm; omega
        rw [h4] at B
        rw [List.append_nil] at hp2
        simp! [bnd_bnd, appK_ap (show (lvD ls).length < 1000000 by rw [lvD_len]; omega)]
        rw [show lvD ls ++ [D.tup (lev.map D.int)] = lvD (ls ++ [lev]) by unfold lvD; rw [List.map_append]; rfl]
        refine wp_ok ⟨c', ls ++ [lev], rest ++ (.mu (.lst []) :: .mu (.lst (lev.map .int)) :: (rest2 ++ [.mu (.lst [])])), _, _, _, rfl, ?_, ?_, hj', BagC.mono B (by omega)⟩
        · rw [List.length_append, hl]; rfl
        · intro z hz
          rcases List.mem_append.mp hz with hz | hz
          · exact hp z hz
          · rw [List.mem_singleton.mp hz]; exact hp2
      | cons z left =>
        simp! [List.cons_ne_nil]
        refine wp_ok ?_
        rw [if_pos rfl]
        simp! [bnd_bnd, List.length_map]
        have hm' : left.length + 1 = m := by simpa using hm
        have hl5 : left.length + 1 ≤ 4 := by
          have := hp2.length_eq
          simp at this
          omega
        refine wp_bnd (wp_draw (pick_d (m := ((left.length + 1 : Nat) : Int)) (by omega) (Int.lt_of_le_of_lt (show ((left.length + 1 : Nat) : Int) ≤ 4 by omega) (by decide))) hn B (by omega) fun v2 c2 ⟨v, e2, a2, b2⟩ B2 => ?_)
        subst e2
        have hk : v.toNat < (z :: left).length := by rw [List.length_cons]; omega
        have hd : (D.int z :: left.map D.int)[v.toNat]? = some (.int (z :: left)[v.toNat]) := by
          show ((z :: left).map D.int)[v.toNat]? = _
          rw [List.getElem?_map, List.getElem?_eq_getElem hk]; rfl
        simp! [bnd_bnd, popC_of a2 hd (show (D.int z :: left.map D.int).length < 1000000 by rw [List.length_cons, List.length_map]; omega), appK_ap (show (lev.map D.int).length < 1000000 by rw [List.length_map]; omega)]
        refine wp_ok ⟨left.length, by simp at hm; omega, c2, (z :: left).eraseIdx v.toNat, lev ++ [(z :: left)[v.toNat]], rest2 ++ [.mu (.lst [])], ?_, ?_, ?_, ?_, ?_⟩
        · rw [List.map_append]
          show _ = (⟨_, st.set n c2 ++ (.mu (.lst (lvD ls)) :: (rest ++ (.mu (.lst (((z :: left).eraseIdx v.toNat).map D.int)) :: _)))⟩ : Sg)
          rw [← map_erase]; rfl
        · rw [List.length_eraseIdx_of_lt hk]; rfl
        · rw [List.length_append]; simp at hm ⊢; omega
        · refine List.Perm.trans ?_ hp2
          rw [List.append_assoc]
          exact (perm_getE hk).append_left lev
        · rw [List.length_append]; exact B2
  · rintro S ⟨c', ls, rest, s3, s4, s5, rfl, hl, hp, hi, B⟩
    rw [Dd.intsFrom_length] at hl B
    simp! []
    rw [finishR_mu (o := .lst (lvD ls)) (by show (List.set st n c' ++ _)[_]? = _; rw [get_set_app0]; rfl) (Nat.le_refl _), take_set_app]
    exact wpf_ok ⟨_, c', rfl, rfl, ⟨ls, rfl, ⟨by omega, by omega, hp⟩, by omega⟩, BagC.mono B (by omega)⟩
theorem ix5 {a b c d e i : Int} (h0 : 0 ≤ i) (h1 : i < 5) : ∃ z, (∀ S, ixK [.int a, .int b, .int c, .int d, .int e] i S = .ok (.p (.int z)) S) ∧ (z = a ∨ z = b ∨ z = c ∨ z = d ∨ z = e) := by
  have h : i = 0 ∨ i = 1 ∨ i = 2 ∨ i = 3 ∨ i = 4 := by omega
  rcases h with rfl | rfl | rfl | rfl | rfl
  · exact ⟨a, fun S => ixK_0, .inl rfl⟩
  · exact ⟨b, fun S => ixK_1, .inr (.inl rfl)⟩
  · exact ⟨c, fun S => ixK_2, .inr (.inr (.inl rfl))⟩
  · exact ⟨d, fun S => ixK_3, .inr (.inr (.inr (.inl rfl)))⟩
  · exact ⟨e, fun S => ixK_of (atI_of (by decide) rfl), .inr (.inr (.inr (.inr rfl)))⟩
theorem shade1_d {ls : List (List Int)} (hl : ls.length ≤ 50) : Draws s_z_law_shade_v1 (fun n => [.r n, .p (.lst (lvD ls))]) (InR 0 (4 ^ ls.length + 1)) 3 := by
  apply dr_of
  intro st n c C hn hb hC
  obtain ⟨q1, q2⟩ := four_bd hl
  have q3 : (2 : Int) ^ 100 < 2 ^ 199 := by decide
  have q4 : (2 : Int) ^ 100 < ((2 ^ 110 : Nat) : Int) := by decide
  unfold s_z_law_shade_v1 b_z_law_shade_v1
  simp! [bnd_bnd, lvD_len, opMul_i (two_len hl), opShl_i (cshl1 (j := 2 * (ls.length : Int)) (by omega) (by omega)), shl_four]
  refine wpf_bnd (wp_draw0 (pick_d (m := (ls.length : Int) + 1) (by omega) (by omega)) hn hb (by omega) fun v1 c1 ⟨x, e1, a1, b1⟩ B1 => ?_); subst e1
  obtain ⟨j, rfl⟩ : ∃ j : Nat, x = (j : Int) := ⟨x.toNat, by omega⟩
  have hj : j ≤ 50 := by omega
  obtain ⟨r1, r2⟩ := four_bd hj
  simp! [bnd_bnd, opMul_i (two_len hj), opShl_i (cshl1 (j := 2 * (j : Int)) (by omega) (by omega)), shl_four]
  refine wpf_bnd (wp_draw0 (pick_d (m := 4 ^ ls.length + 1) (by omega) (by omega)) hn B1 (by omega) fun v2 c2 ⟨k, e2, a2, b2⟩ B2 => ?_); subst e2
  have cd := cdivw (i := k) (j := 4 ^ j) (by omega) (by omega)
  have g0 : 0 ≤ k / 4 ^ j := Int.ediv_nonneg a2 (by omega)
  have g1 : k / 4 ^ j ≤ k := Int.ediv_le_self _ a2
  have g2 : k / 4 ^ j * 4 ^ j ≤ k := Int.ediv_mul_le _ (by omega)
  have g3 : 0 ≤ k / 4 ^ j * 4 ^ j := Int.mul_nonneg g0 (by omega)
  have cm : CMulW (k / 4 ^ j) (4 ^ j) := cmulw (n := 110) (m := 110) (Bt.of (by omega)) (Bt.of (by omega))
  simp! [bnd_bnd, opDiv_i cd, opMul_i cm]
  refine wpf_bnd (wp_draw (pick_d (m := 5) (by decide) (by decide)) hn B2 (by omega) fun v3 c3 ⟨y, e3, a3, b3⟩ B3 => ?_); subst e3
  obtain ⟨z, hz, hz'⟩ := ix5 (a := k) (b := k / 4 ^ j * 4 ^ j) (c := 0) (d := 4 ^ ls.length) (e := k) a3 b3
  simp! [bnd_bnd, hz]
  exact wpf_ok ⟨_, c3, rfl, by simp! [], ⟨z, rfl, by omega, by omega⟩, B3⟩
theorem great_window_d : Draws s_z_law_great_window (fun n => [.r n]) (fun v => ∃ l t w h, v = winD l t w h ∧ WinOk l t w h) 10 := by
  apply dr_of
  intro st n c C hn hb hC
  have p30 : CPowW 10 30 := by decide
  have p9 : CPowW 10 9 := by decide
  have m2 : CMulW 2 (1000000000000000000000000000000 : Int) := by decide
  unfold s_z_law_great_window b_z_law_great_window
  simp! [bnd_bnd]
  refine wpf_bnd (wp_loop (I := fun i S => ∃ (c' : Cell) (sides : List (Int × Int)) (rest : Store) (s2 s3 : Option R), S = ⟨[some (.r n), some (.r st.length), s2, s3], st.set n c' ++ (.mu (.lst (sides.map fun p => D.tup [.int p.1, .int p.2])) :: rest)⟩ ∧ sides.length = i ∧ (∀ p ∈ sides, -(1000000000000000000000000000000 : Int) ≤ p.1 ∧ p.1 ≤ (1000000000000000000000000000000 : Int) ∧ 1 ≤ p.2 ∧ p.2 ≤ (1000000000000000000000000000000 : Int)) ∧ BagC c' (C + 5 * i)) ?_ ?_ ?_ ?_)
  · exact ⟨c, [], [], _, _, rfl, rfl, by simp, hb⟩
  · intros; trivial
  · rintro i q S hi ⟨c', sides, rest, s2, s3, rfl, hl, hs, B⟩
    have hi2 : i < 2 := (intsFrom_at (show (Dd.intsFrom 0 2)[i]? = some q from hi)).2
    rw [bind_bnd]
    simp! [bnd_bnd]
    refine wp_bnd (wp_draw (pick_d (m := 9) (by decide) (by decide)) hn B (by omega) fun v1 c1 ⟨x1, e1, a1, b1⟩ B1 => ?_); subst e1
    simp! [bnd_bnd, opPow_i p30, opMul_i m2]
    refine wp_bnd (wp_draw (pick_d (m := 2000000000000000000000000000001) (by decide) (by decide)) hn B1 (by omega) fun v2 c2 ⟨x2, e2, a2, b2⟩ B2 => ?_); subst e2
    simp! [bnd_bnd, opPow_i p30]
    refine wp_bnd (wp_draw (pick_d (m := 3) (by decide) (by decide)) hn B2 (by omega) fun v3 c3 ⟨x3, e3, a3, b3⟩ B3 => ?_); subst e3
    obtain ⟨z, hz, hz'⟩ := ix3 (a := x1 - 4) (b := x2 - (1000000000000000000000000000000 : Int)) (c := (1000000000000000000000000000000 : Int)) a3 b3
    simp! [bnd_bnd, hz, opPow_i p30, opPow_i p9]
    refine wp_bnd (wp_draw (pick_d (m := 3) (by decide) (by decide)) hn B3 (by omega) fun v4 c4 ⟨x4, e4, a4, b4⟩ B4 => ?_); subst e4
    obtain ⟨y, hy, hy'⟩ := ix3 (a := 9) (b := 1000000000) (c := (1000000000000000000000000000000 : Int)) a4 b4
    simp! [bnd_bnd, hy]
    have y200 : ((1000000000000000000000000000000 : Int) : Int) < 2 ^ 200 := by decide
    refine wp_bnd (wp_draw (pick_d (m := y) (by omega) (by omega)) hn B4 (by omega) fun v5 c5 ⟨x5, e5, a5, b5⟩ B5 => ?_); subst e5
    simp! [bnd_bnd, appK_ap (show (sides.map fun p => D.tup [.int p.1, .int p.2]).length < 1000000 by rw [List.length_map]; omega)]
    rw [show (sides.map fun p => D.tup [.int p.1, .int p.2]) ++ [D.tup [.int z, .int (1 + x5)]] = ((sides ++ [(z, 1 + x5)]).map fun p => D.tup [.int p.1, .int p.2]) by rw [List.map_append]; rfl]
    refine wp_ok ⟨c5, sides ++ [(z, 1 + x5)], _, _, _, rfl, by rw [List.length_append, hl]; rfl, ?_, BagC.mono B5 (by omega)⟩
    intro p hp
    rcases List.mem_append.mp hp with hp | hp
    · exact hs p hp
    · simp only [List.mem_cons, List.not_mem_nil, or_false] at hp
      subst hp
      exact ⟨by simp only; omega, by simp only; omega, by simp only; omega, by simp only; omega⟩
  · rintro S ⟨c', sides, rest, s2, s3, rfl, hl, hs, B⟩
    have hl : sides.length = 2 := hl
    obtain ⟨p, q, rfl⟩ : ∃ a b, sides = [a, b] := by
      match sides, hl with
      | [a, b], _ => exact ⟨a, b, rfl⟩
    have hp := hs p (by simp)
    have hq := hs q (by simp)
    have B : BagC c' (C + 10) := BagC.mono B (by simp)
    simp! [bnd_bnd]
    exact wpf_ok ⟨_, c', rfl, by simp! [], ⟨p.1, q.1, p.2, q.2, rfl, ⟨hp.1, hp.2.1, hq.1, hq.2.1, hp.2.2.1, hp.2.2.2, hq.2.2.1, hq.2.2.2⟩⟩, B⟩
end Lib

set_option Elab.async false
set_option linter.all false
set_option maxRecDepth 100000
set_option exponentiation.threshold 2000
namespace Lib
open PySem PySem.Spec PyProof.Rows L2 Dd
/-- windows with numbers of dots -/
abbrev Wn := (Int × Int × Int × Int) × Int
def wnD (p : Wn) : D := .tup [.tup [.int p.1.1, .int p.1.2.1, .int p.1.2.2.1, .int p.1.2.2.2], .int p.2]
noncomputable def wlo (ls : List (List Int)) (p : Wn) : Int := lst ls p.1.1 p.1.2.1 p.1.2.2.1 p.1.2.2.2 p.2
noncomputable def whi (ls : List (List Int)) (p : Wn) : Int := grt ls p.1.1 p.1.2.1 p.1.2.2.1 p.1.2.2.2 p.2
def WnOk (ls : List (List Int)) (p : Wn) : Prop := WinOk p.1.1 p.1.2.1 p.1.2.2.1 p.1.2.2.2 ∧ 0 ≤ p.2 ∧ p.2 ≤ p.1.2.2.1 * p.1.2.2.2 ∧ wlo ls p ≤ whi ls p
section
variable {ls : List (List Int)} {L : List Wn}
theorem wn_get {j : Nat} {d : D} (h : (L.map wnD)[j]? = some d) : ∃ p, L[j]? = some p ∧ p ∈ L ∧ d = wnD p := by
  rw [List.getElem?_map] at h
  cases q : L[j]? with
  | none => rw [q] at h; cases h
  | some p => rw [q] at h; cases h; exact ⟨p, rfl, List.mem_of_getElem? q, rfl⟩
theorem require_counted_i (hl : 1 ≤ L.length) (hl2 : L.length ≤ 20) (hL : ∀ p ∈ L, WnOk ls p) (st : Store) : s_require_counted [.p (.lst (L.map wnD))] st = .ok (.val .non) st := by
  unfold s_require_counted b_require_counted
  simp! [List.length_map, show (1 : Int) ≤ (L.length : Nat) by omega, show ((L.length : Nat) : Int) ≤ 20 by omega]
  refine fin_eq (wp_fin (wp_loop (I := fun j S => ∃ s1 s2, S = ⟨[some (.p (.lst (L.map wnD))), s1, s2], st⟩) ?_ ?_ ?_ ?_))
  · exact ⟨_, _, rfl⟩
  · rintro j S ⟨s1, s2, rfl⟩; trivial
  · rintro j d S hj ⟨s1, s2, rfl⟩
    obtain ⟨d', rfl, hd⟩ := numbered_at hj
    obtain ⟨p, _, hp, rfl⟩ := wn_get hd
    obtain ⟨w, n0, n1, _⟩ := hL p hp
    have iw := is_window_ok w
    unfold winD at iw
    have a2 : p.1.2.2.1 * p.1.2.2.2 ≤ (1000000000000000000000000000000 : Int) * (1000000000000000000000000000000 : Int) := by
      obtain ⟨_, _, _, _, w5, w6, w7, w8⟩ := w
      exact Int.mul_le_mul w6 w8 (by omega) (by decide)
    have a3 : (1000000000000000000000000000000 : Int) * (1000000000000000000000000000000 : Int) = 1000000000000000000000000000000000000000000000000000000000000 := by decide
    have nn : p.2 ≤ 1000000000000000000000000000000000000000000000000000000000000 := by omega
    unfold wnD
    rw [bind_bnd]
    simp! [iw, is_whole_i, n0, nn]
    exact wp_ok ⟨_, _, rfl⟩
  · rintro S ⟨s1, s2, rfl⟩
    simp! []
    exact wpf_ok ⟨rfl, rfl⟩
theorem shades_counted_i (h50 : ls.length ≤ 50) (hp : Lvs ls) (hl : 1 ≤ L.length) (hl2 : L.length ≤ 20) (hL : ∀ p ∈ L, WnOk ls p) (st : Store) :
    s_shades_counted [.p (.scr (lvD ls)), .p (.lst (L.map wnD))] st = .ok (.val (if (L.map (wlo ls)).foldl max 0 ≤ (L.map (whi ls)).foldl min (4 ^ ls.length) then .tup [.int ((L.map (wlo ls)).foldl max 0), .int ((L.map (whi ls)).foldl min (4 ^ ls.length))] else .non)) st := by
  unfold s_shades_counted b_shades_counted
  simp! [require_screen_ok, require_counted_i hl hl2 hL, shades_p ls h50]
  refine fin_eq (wpf_bnd (wp_loop (I := fun j S => ∃ s4 s5 s6, S = ⟨[some (.p (.scr (lvD ls))), some (.p (.lst (L.map wnD))), some (.p (.int (((L.take j).map (wlo ls)).foldl max 0))), some (.p (.int (((L.take j).map (whi ls)).foldl min (4 ^ ls.length)))), s4, s5, s6], st⟩) ?_ ?_ ?_ ?_))
  · exact ⟨_, _, _, rfl⟩
  · rintro j S ⟨s4, s5, s6, rfl⟩; trivial
  · rintro j d S hj ⟨s4, s5, s6, rfl⟩
    obtain ⟨p, hpj, hpm, rfl⟩ := wn_get hj
    obtain ⟨w, n0, n1, le⟩ := hL p hpm
    have pl := places_of_i w
    have sw := stretch_with_i h50 hp w n0 n1
    unfold winD at pl sw
    have sw' : ∀ st, s_stretch_with [.p (.scr (lvD ls)), .p (.tup [.int p.1.1, .int p.1.2.1, .int p.1.2.2.1, .int p.1.2.2.2]), .p (.int p.2)] st = .ok (.val (.tup [.int (wlo ls p), .int (whi ls p)])) st := fun st => by
      rw [sw st]
      show FRes.ok (.val (if wlo ls p ≤ whi ls p then _ else _)) st = _
      rw [if_pos le]; rfl
    have tk : ∀ {f : Wn → Int} {g : Int → Int → Int} {z : Int}, ((L.take (j + 1)).map f).foldl g z = g (((L.take j).map f).foldl g z) (f p) := fun {f g z} => by
      rw [List.take_succ, hpj, List.map_append, List.foldl_append]; rfl
    rw [bind_bnd]
    unfold wnD
    simp! [pl, n1, sw', isN_ap, isNK_t]
    rw [tk, tk]
    exact wp_ok ⟨_, _, _, rfl⟩
  · rintro S ⟨s4, s5, s6, rfl⟩
    rw [List.length_map, List.take_length]
    by_cases hle : (L.map (wlo ls)).foldl max 0 ≤ (L.map (whi ls)).foldl min (4 ^ ls.length)
    · rw [if_pos hle]
      simp! [hle]
      exact wpf_ok ⟨rfl, rfl⟩
    · rw [if_neg hle]
      simp! [hle]
      exact wpf_ok ⟨rfl, rfl⟩
end
theorem is_coordinate_i (i : Int) (st : Store) : s_is_coordinate [.p (.int i)] st = .ok (.val (.bl (decide (-(1000000000000000000000000000000 : Int) ≤ i ∧ i ≤ (1000000000000000000000000000000 : Int))))) st := by
  unfold s_is_coordinate b_is_coordinate
  simp! [is_whole_i, Int.zero_sub]
theorem isK_bb {b : Bool} {S : Sg} : isK "bool" (.p (.bl b)) S = .ok (.p (.bl true)) S := by unfold isK; rfl
/-- places that were seen -/
abbrev Sn := (Int × Int) × Bool
def snD (p : Sn) : D := .tup [.int p.1.1, .int p.1.2, .bl p.2]
def SnOk (p : Sn) : Prop := -(1000000000000000000000000000000 : Int) ≤ p.1.1 ∧ p.1.1 ≤ (1000000000000000000000000000000 : Int) ∧ -(1000000000000000000000000000000 : Int) ≤ p.1.2 ∧ p.1.2 ≤ (1000000000000000000000000000000 : Int)
def stp (ls : List (List Int)) (ab : Int × Int) (p : Sn) : Int × Int := if p.2 = true then (max ab.1 (thr ls p.1.1 p.1.2 + 1), ab.2) else (ab.1, min ab.2 (thr ls p.1.1 p.1.2))
def bnds (ls : List (List Int)) (L : List Sn) : Int × Int := L.foldl (stp ls) (0, 4 ^ ls.length)
def bnD (ab : Int × Int) : D := .tup [.int ab.1, .int ab.2]
section
variable {ls : List (List Int)} {L : List Sn}
theorem sn_get {j : Nat} {d : D} (h : (L.map snD)[j]? = some d) : ∃ p, L[j]? = some p ∧ p ∈ L ∧ d = snD p := by
  rw [List.getElem?_map] at h
  cases q : L[j]? with
  | none => rw [q] at h; cases h
  | some p => rw [q] at h; cases h; exact ⟨p, rfl, List.mem_of_getElem? q, rfl⟩
theorem require_seen_i (hl : 1 ≤ L.length) (hl2 : L.length ≤ 400) (hL : ∀ p ∈ L, SnOk p) (st : Store) : s_require_seen [.p (.lst (L.map snD))] st = .ok (.val .non) st := by
  have sn : ∀ p ∈ L, ∀ st, s_is_seen [.p (snD p)] st = .ok (.val (.bl true)) st := fun p hp st => by
    obtain ⟨a, b, c, d⟩ := hL p hp
    unfold s_is_seen b_is_seen snD
    simp! [isK_bb, is_coordinate_i, a, b, c, d]
  unfold s_require_seen b_require_seen
  simp! [List.length_map, show (1 : Int) ≤ (L.length : Nat) by omega, show ((L.length : Nat) : Int) ≤ 400 by omega]
  refine fin_eq (wp_fin (wp_loop (I := fun j S => ∃ s1 s2, S = ⟨[some (.p (.lst (L.map snD))), s1, s2], st⟩) ?_ ?_ ?_ ?_))
  · exact ⟨_, _, rfl⟩
  · rintro j S ⟨s1, s2, rfl⟩; trivial
  · rintro j d S hj ⟨s1, s2, rfl⟩
    obtain ⟨d', rfl, hd⟩ := numbered_at hj
    obtain ⟨p, _, hp, rfl⟩ := sn_get hd
    rw [bind_bnd]
    simp! [sn p hp]
    exact wp_ok ⟨_, _, rfl⟩
  · rintro S ⟨s1, s2, rfl⟩
    simp! []
    exact wpf_ok ⟨rfl, rfl⟩
theorem bounds_of_i (h50 : ls.length ≤ 50) (hp : Lvs ls) (hl2 : L.length ≤ 400) (st : Store) :
    s_bounds_of [.p (.scr (lvD ls)), .p (.lst (L.map snD))] st = .ok (.new (.lst ((List.range L.length).map fun i => bnD (bnds ls (L.take (i + 1)))))) st := by
  unfold s_bounds_of b_bounds_of
  simp! [shades_p ls h50]
  refine fin_eq (wpf_bnd (wp_loop (I := fun j S => ∃ s5 s6 s7 s8, S = ⟨[some (.p (.scr (lvD ls))), some (.p (.lst (L.map snD))), some (.p (.int (bnds ls (L.take j)).1)), some (.p (.int (bnds ls (L.take j)).2)), some (.r st.length), s5, s6, s7, s8], st ++ [.mu (.lst ((List.range j).map fun i => bnD (bnds ls (L.take (i + 1)))))]⟩) ?_ ?_ ?_ ?_))
  · exact ⟨_, _, _, _, rfl⟩
  · rintro j S ⟨s5, s6, s7, s8, rfl⟩; trivial
  · rintro j d S hj ⟨s5, s6, s7, s8, rfl⟩
    obtain ⟨p, hpj, hpm, rfl⟩ := sn_get hj
    have hjl := (List.getElem?_eq_some_iff.mp hpj).1
    have tk : bnds ls (L.take (j + 1)) = stp ls (bnds ls (L.take j)) p := by
      unfold bnds
      rw [List.take_succ, hpj, List.foldl_append]; rfl
    have hlen : ((List.range j).map fun i => bnD (bnds ls (L.take (i + 1)))).length < 1000000 := by rw [List.length_map, List.length_range]; omega
    rw [bind_bnd]
    unfold snD
    have rs : ((List.range (j + 1)).map fun i => bnD (bnds ls (L.take (i + 1)))) = ((List.range j).map fun i => bnD (bnds ls (L.take (i + 1)))) ++ [bnD (stp ls (bnds ls (L.take j)) p)] := by
      rw [List.range_succ, List.map_append, ← tk]; rfl
    rw [rs, tk]
    by_cases hb : p.2 = true
    · have es : stp ls (bnds ls (L.take j)) p = (max (bnds ls (L.take j)).1 (thr ls p.1.1 p.1.2 + 1), (bnds ls (L.take j)).2) := if_pos hb
      rw [es]
      simp! [threshold_at_i hp h50, hb, appK_ap hlen]
      exact wp_ok ⟨_, _, _, _, rfl⟩
    · have es : stp ls (bnds ls (L.take j)) p = ((bnds ls (L.take j)).1, min (bnds ls (L.take j)).2 (thr ls p.1.1 p.1.2)) := if_neg hb
      rw [es]
      have hb' : p.2 = false := by simpa using hb
      simp! [threshold_at_i hp h50, hb', appK_ap hlen]
      exact wp_ok ⟨_, _, _, _, rfl⟩
  · rintro S ⟨s5, s6, s7, s8, rfl⟩
    rw [List.length_map]
    simp! []
    rw [finishR_mu (o := .lst ((List.range L.length).map fun i => bnD (bnds ls (L.take (i + 1))))) get_app0 (Nat.le_refl _), take_app]
    exact wpf_ok ⟨rfl, rfl⟩
end
theorem ixK_snoc {l : List D} {d : D} {S : Sg} : ixK (l ++ [d]) (-1) S = .ok (.p d) S := by
  refine ixK_of ?_
  unfold L2.atI L2.ixN
  rw [if_neg (by omega), List.length_append, List.length_singleton, if_pos (by omega)]
  show (l ++ [d])[_]? = _
  rw [show ((-1 : Int) + ((l.length + 1 : Nat) : Int)).toNat = l.length by omega]
  simp
theorem shades_for_i {ls : List (List Int)} {L : List Sn} (h50 : ls.length ≤ 50) (hp : Lvs ls) (hl : 1 ≤ L.length) (hl2 : L.length ≤ 400) (hL : ∀ p ∈ L, SnOk p) (st : Store) :
    s_shades_for [.p (.scr (lvD ls)), .p (.lst (L.map snD))] st = .ok (.val (if (bnds ls L).1 ≤ (bnds ls L).2 then bnD (bnds ls L) else .non)) st := by
  obtain ⟨m, hm⟩ : ∃ m, L.length = m + 1 := ⟨L.length - 1, by omega⟩
  have e : ((List.range L.length).map fun i => bnD (bnds ls (L.take (i + 1)))) = ((List.range m).map fun i => bnD (bnds ls (L.take (i + 1)))) ++ [bnD (bnds ls L)] := by
    rw [hm, List.range_succ, List.map_append, List.map_singleton, ← hm, List.take_length]
  have bo := bounds_of_i (L := L) h50 hp hl2
  rw [e] at bo
  generalize ((List.range m).map fun i => bnD (bnds ls (L.take (i + 1)))) = M at *
  unfold bnD at *
  unfold s_shades_for b_shades_for
  by_cases hle : (bnds ls L).1 ≤ (bnds ls L).2
  · rw [if_pos hle]
    simp! [require_screen_ok, require_seen_i hl hl2 hL, bo, ixK_snoc, hle]
  · rw [if_neg hle]
    simp! [require_screen_ok, require_seen_i hl hl2 hL, bo, ixK_snoc, hle]
theorem place_i {ls : List (List Int)} (h50 : ls.length ≤ 50) (hp : Lvs ls) {k : Int} (k0 : 0 ≤ k) (k1 : k < 4 ^ ls.length) (st : Store) :
    s_Screen_place [.p (.scr (lvD ls)), .p (.int k)] st = .ok (.val (.tup [.int (plc ls k 0 0 0).1, .int (plc ls k 0 0 0).2])) st := by
  have po := place_of_i h50 hp k
  rw [plcD_plc k0 k1] at po
  unfold s_Screen_place b_Screen_place
  simp! [lvD_len, opMul_i (two_len h50), opShl_i (cshl1 (j := 2 * (ls.length : Int)) (by omega) (by omega)), shl_four, is_whole_i, k0, show k ≤ 4 ^ ls.length - 1 by omega, po]
theorem thr_place {ls : List (List Int)} (hp : Lvs ls) {k : Int} (k0 : 0 ≤ k) (k1 : k < 4 ^ ls.length) : thr ls (plc ls k 0 0 0).1 (plc ls k 0 0 0).2 = k := by
  have := thr_plc ls k 0 0 0 hp k0 k1 (by decide) (by decide) (by decide) (by decide)
  rwa [Int.pow_zero, Int.ediv_one, Int.ediv_one] at this
theorem plc_bd {ls : List (List Int)} (hp : Lvs ls) {k : Int} (k0 : 0 ≤ k) (k1 : k < 4 ^ ls.length) : 0 ≤ (plc ls k 0 0 0).1 ∧ (plc ls k 0 0 0).1 < 2 ^ ls.length ∧ 0 ≤ (plc ls k 0 0 0).2 ∧ (plc ls k 0 0 0).2 < 2 ^ ls.length := by
  have := plcD_bd (ls := ls) (k := k) (x := 0) (y := 0) (s := 0) hp (by decide) (by decide) (by decide) (by decide)
  rwa [plcD_plc k0 k1, Nat.zero_add] at this
end Lib

set_option Elab.async false
set_option linter.all false
set_option maxRecDepth 100000
set_option exponentiation.threshold 2000
namespace Lib
open PySem PySem.Spec PyProof.Rows L2 Dd
/-- what was seen fits a shade -/
def Fit (ls : List (List Int)) (s : Int) (p : Sn) : Prop := decide (thr ls p.1.1 p.1.2 < s) = p.2
instance (ls : List (List Int)) (s : Int) (p : Sn) : Decidable (Fit ls s p) := inferInstanceAs (Decidable (_ = _))
theorem stp_iff {ls : List (List Int)} (ab : Int × Int) (p : Sn) (s : Int) : ((stp ls ab p).1 ≤ s ∧ s ≤ (stp ls ab p).2) ↔ ((ab.1 ≤ s ∧ s ≤ ab.2) ∧ Fit ls s p) := by
  unfold stp Fit
  by_cases h : p.2 = true
  · rw [if_pos h, h]
    simp only [decide_eq_true_eq]
    omega
  · have h' : p.2 = false := by simpa using h
    rw [if_neg h, h']
    simp only [decide_eq_false_iff_not]
    omega
theorem fold_iff {ls : List (List Int)} {s : Int} : ∀ (L : List Sn) (ab : Int × Int), ((L.foldl (stp ls) ab).1 ≤ s ∧ s ≤ (L.foldl (stp ls) ab).2) ↔ ((ab.1 ≤ s ∧ s ≤ ab.2) ∧ ∀ p ∈ L, Fit ls s p)
  | [], ab => by simp
  | p :: L, ab => by
    show ((L.foldl (stp ls) (stp ls ab p)).1 ≤ s ∧ s ≤ (L.foldl (stp ls) (stp ls ab p)).2) ↔ _
    rw [fold_iff L (stp ls ab p), stp_iff]
    simp only [List.mem_cons, forall_eq_or_imp]
    exact ⟨fun ⟨⟨a, b⟩, c⟩ => ⟨a, b, c⟩, fun ⟨a, b, c⟩ => ⟨⟨a, b⟩, c⟩⟩
theorem bnds_iff {ls : List (List Int)} (L : List Sn) {s : Int} (s0 : 0 ≤ s) (s1 : s ≤ 4 ^ ls.length) : (∀ p ∈ L, Fit ls s p) ↔ (bnds ls L).1 ≤ s ∧ s ≤ (bnds ls L).2 := by
  unfold bnds
  rw [fold_iff]
  exact ⟨fun h => ⟨⟨s0, s1⟩, h⟩, fun h => h.2⟩
/-- the bounds, told by dots and by blanks -/
def dotsOf (ls : List (List Int)) (L : List Sn) : List Int := (L.filter fun p => p.2).map fun p => thr ls p.1.1 p.1.2
def blanksOf (ls : List (List Int)) (L : List Sn) : List Int := (L.filter fun p => !p.2).map fun p => thr ls p.1.1 p.1.2
theorem bnds_fold (ls : List (List Int)) : ∀ (L : List Sn) (ab : Int × Int), L.foldl (stp ls) ab = ((dotsOf ls L).foldl (fun a t => max a (t + 1)) ab.1, (blanksOf ls L).foldl min ab.2)
  | [], ab => rfl
  | p :: L, ab => by
    show L.foldl (stp ls) (stp ls ab p) = _
    rw [bnds_fold ls L]
    unfold dotsOf blanksOf stp
    by_cases h : p.2 = true
    · rw [if_pos h, List.filter_cons_of_pos (by exact h), List.filter_cons_of_neg (by simp [h])]
      rfl
    · have h' : p.2 = false := by simpa using h
      rw [if_neg h, List.filter_cons_of_neg (by simp [h']), List.filter_cons_of_pos (by simp [h'])]
      rfl
theorem setK_at {n : Nat} {i : Int} {d : D} {l : List D} {S : Sg} (h0 : 0 ≤ i) (h1 : i < l.length) : setK n i d S (some (.mu (.lst l))) = .ok () ⟨S.sl, S.st.set n (.mu (.lst (l.set i.toNat d)))⟩ := by
  have e : L2.ixN l.length i = some i.toNat := by unfold L2.ixN; rw [if_pos h0, if_pos h1]
  unfold setK; simp only [e]
theorem seen_d {ls : List (List Int)} (hp : Lvs ls) (h50 : ls.length ≤ 50) {k many far : Int} (m0 : 0 < many) (m1 : many ≤ 100) (f0 : 0 ≤ far) (f1 : far ≤ (1000000000000000000000000000000 : Int)) :
    DrawsL s_z_law_seen (fun n => [.r n, .p (.lst (lvD ls)), .p (.int k), .p (.int many), .p (.int far)]) (fun v => ∃ L : List Sn, v = L.map snD ∧ 1 ≤ L.length ∧ L.length ≤ 100 ∧ ∀ p ∈ L, SnOk p) 210 := by
  apply drL_of
  intro st n c C hn hb hC
  have m2 : CMulW 2 far := cmulw (n := 3) (m := 110) (Bt.of (by decide)) (Bt.of (by omega))
  have far200 : 2 * far + 1 < 2 ^ 200 := by
    have : (2 * (1000000000000000000000000000000 : Int) + 1 : Int) < 2 ^ 200 := by decide
    omega
  unfold s_z_law_seen b_z_law_seen
  simp! [bnd_bnd]
  refine wpf_bnd (wp_draw (pick_d (m := many) m0 (by omega)) hn hb (by omega) fun v1 c1 ⟨x, e1, x0, x1⟩ B1 => ?_); subst e1
  obtain ⟨d, hd⟩ : ∃ d : Nat, 1 + x = (d : Int) := ⟨(1 + x).toNat, by omega⟩
  simp! [bnd_bnd, hd, rngK1_n (show d ≤ 1000000 by omega)]
  refine wpf_bnd (wp_loop (I := fun i S => ∃ (c' : Cell) (L : List Sn) (rest : Store) (s6 s7 s8 : Option R), S = ⟨[some (.r n), some (.p (.lst (lvD ls))), some (.p (.int k)), some (.p (.int many)), some (.p (.int far)), some (.r st.length), s6, s7, s8, none], st.set n c' ++ (.mu (.lst (L.map snD)) :: rest)⟩ ∧ L.length = i ∧ (∀ p ∈ L, SnOk p) ∧ BagC c' (C + 1 + 2 * i)) ?_ ?_ ?_ ?_)
  · exact ⟨c1, [], [], _, _, _, rfl, rfl, by simp, B1⟩
  · intros; trivial
  · rintro i q S hi ⟨c', L, rest, s6, s7, s8, rfl, hl, hs, B⟩
    obtain ⟨rfl, hi2⟩ := intsFrom_at hi
    rw [bind_bnd]
    simp! [bnd_bnd, opMul_i m2]
    refine wp_bnd (wp_draw (pick_d (m := 2 * far + 1) (by omega) far200) hn B (by omega) fun v2 c2 ⟨y, e2, y0, y1⟩ B2 => ?_); subst e2
    simp! [bnd_bnd, opMul_i m2]
    refine wp_bnd (wp_draw (pick_d (m := 2 * far + 1) (by omega) far200) hn B2 (by omega) fun v3 c3 ⟨z, e3, z0, z1⟩ B3 => ?_); subst e3
    simp! [bnd_bnd, thr4_i hp h50, appK_ap (show (L.map snD).length < 1000000 by rw [List.length_map]; omega)]
    rw [show L.map snD ++ [D.tup [.int (y - far), .int (z - far), .bl (decide (thr ls (y - far) (z - far) < k))]] = (L ++ [((y - far, z - far), decide (thr ls (y - far) (z - far) < k))]).map snD by rw [List.map_append]; rfl]
    refine wp_ok ⟨c3, _, _, _, _, _, rfl, by rw [List.length_append, hl]; rfl, ?_, BagC.mono B3 (by omega)⟩
    intro p hp
    rcases List.mem_append.mp hp with hp | hp
    · exact hs p hp
    · rw [List.mem_singleton.mp hp]
      exact ⟨by simp only; omega, by simp only; omega, by simp only; omega, by simp only; omega⟩
  · rintro S ⟨c', L, rest, s6, s7, s8, rfl, hl, hs, B⟩
    rw [intsFrom_length] at hl B
    have B : BagC c' (C + 201) := BagC.mono B (by omega)
    simp! [bnd_bnd]
    refine wpf_bnd (wp_draw (pick_d (m := 3) (by decide) (by decide)) hn B (by omega) fun v4 c4 ⟨y, e4, y0, y1⟩ B4 => ?_); subst e4
    simp! [bnd_bnd]
    have fin : ∀ (c'' : Cell) (L' : List Sn) (rest' : Store), BagC c'' (C + 203) → L'.length = d → (∀ p ∈ L', SnOk p) → WpF (finishR st.length (st.set n c'' ++ (.mu (.lst (L'.map snD)) :: rest')) (.r st.length)) fun a st' => ∃ v c', a = FR.new (Con.lst v) ∧ st' = st.set n c' ∧ (∃ L : List Sn, v = L.map snD ∧ 1 ≤ L.length ∧ L.length ≤ 100 ∧ ∀ p ∈ L, SnOk p) ∧ BagC c' (C + 210) := fun c'' L' rest' B' hl' hs' => by
      rw [finishR_mu (o := .lst (L'.map snD)) (by show (List.set st n c'' ++ _)[_]? = _; rw [get_set_app0]; rfl) (Nat.le_refl _), take_set_app]
      exact wpf_ok ⟨_, c'', rfl, rfl, ⟨L', rfl, by omega, by omega, hs'⟩, BagC.mono B' (by omega)⟩
    refine wpf_if (fun h => ?_) fun _ => ?_
    · simp! [bnd_bnd, List.length_map]
      have l200 : (L.length : Int) < 2 ^ 200 := Int.lt_of_le_of_lt (show (L.length : Int) ≤ 100 by omega) (by decide)
      refine wpf_bnd (wp_draw (pick_d (m := (L.length : Int)) (by omega) l200) hn B4 (by omega) fun v5 c5 ⟨v, e5, v0, v1⟩ B5 => ?_); subst e5
      have hv : v.toNat < L.length := by omega
      have ixL : ∀ S : Sg, ixK (L.map snD) v S = .ok (.p (.tup [.int (L[v.toNat]).1.1, .int (L[v.toNat]).1.2, .bl (L[v.toNat]).2])) S := fun S => ixK_of (atI_of v0 (by rw [List.getElem?_map, List.getElem?_eq_getElem hv]; rfl))
      have hm := hs _ (List.getElem_mem hv)
      generalize L[v.toNat] = p at *
      simp! [bnd_bnd, ixL, sSub_ap, setK_at (l := L.map snD) (i := v) v0 (by rw [List.length_map]; omega)]
      rw [show (L.map snD).set v.toNat (D.tup [.int p.1.1, .int p.1.2, .bl (!p.2)]) = (L.set v.toNat (p.1, !p.2)).map snD by rw [List.map_set]; rfl]
      refine fin c5 _ rest (BagC.mono B5 (by omega)) (by rw [List.length_set, hl]) fun z hz => ?_
      rcases List.mem_or_eq_of_mem_set hz with hz | rfl
      · exact hs z hz
      · exact hm
    · exact fin c4 L rest (BagC.mono B4 (by omega)) hl hs
theorem fold_max {ns : List Int} (h : 0 < ns.length) (h0 : ∀ n ∈ ns, 0 ≤ n) : ns.foldl max 0 = maxI ns := by
  cases ns with
  | nil => simp at h
  | cons n ns =>
    show ns.foldl max (max 0 n) = ns.foldl max n
    have := h0 n List.mem_cons_self
    rw [show max 0 n = n by omega]
theorem fold_min {ns : List Int} {F : Int} (h : 0 < ns.length) (h0 : ∀ n ∈ ns, n ≤ F) : ns.foldl min F = minI ns := by
  cases ns with
  | nil => simp at h
  | cons n ns =>
    show ns.foldl min (min F n) = ns.foldl min n
    have := h0 n List.mem_cons_self
    rw [show min F n = n by omega]
/-! the text of what was seen -/
def snP (p : Sn) : PyData := .tuple [.int p.1.1, .int p.1.2, .bool p.2]
theorem toPyL_sn : ∀ L : List Sn, toPyL (L.map snD) = some (L.map snP)
  | [] => rfl
  | p :: L => by
    show toPyL (snD p :: L.map snD) = _
    unfold toPyL
    rw [toPyL_sn L]
    rfl
theorem sn_bt {p : Sn} (h : SnOk p) : Bt 240 p.1.1 ∧ Bt 240 p.1.2 := by
  obtain ⟨a, b, c, d⟩ := h
  have : (1000000000000000000000000000000 : Int) < ((2 ^ 240 : Nat) : Int) := by decide
  exact ⟨Bt.of (by omega), Bt.of (by omega)⟩
theorem smlAll_sn : ∀ {L : List Sn}, (∀ p ∈ L, SnOk p) → smlAll (L.map snP) = true
  | [], _ => rfl
  | p :: L, h => by
    obtain ⟨a, b⟩ := sn_bt (h p List.mem_cons_self)
    have a := a.log2
    have b := b.log2
    show (sml (snP p) && smlAll (L.map snP)) = true
    rw [smlAll_sn fun q hq => h q (List.mem_cons_of_mem _ hq)]
    simp only [snP, sml, smlAll, Bool.and_true, Bool.and_eq_true, decide_eq_true_eq]
    omega
theorem weight_sn : ∀ {L : List Sn}, (∀ p ∈ L, SnOk p) → PyData.weightAll (L.map snP) ≤ 490 * L.length
  | [], _ => Nat.zero_le _
  | p :: L, h => by
    obtain ⟨a, b⟩ := sn_bt (h p List.mem_cons_self)
    have a := a.log2
    have b := b.log2
    have ih := weight_sn fun q hq => h q (List.mem_cons_of_mem p hq)
    show PyData.weight (snP p) + 1 + PyData.weightAll (L.map snP) ≤ _
    have e : PyData.weight (snP p) ≤ 485 := by
      simp only [snP, PyData.weight, PyData.weightAll]
      split <;> split <;> omega
    rw [List.length_cons]; omega
theorem depth_sn : ∀ L : List Sn, PyData.depthAll (L.map snP) ≤ 1
  | [] => Nat.zero_le _
  | p :: L => by
    show max (PyData.depth (snP p)) (PyData.depthAll (L.map snP)) ≤ 1
    have := depth_sn L
    have e : PyData.depth (snP p) = 1 := rfl
    omega
theorem Sml.sn {L : List Sn} (h : ∀ p ∈ L, SnOk p) (hl : L.length ≤ 100) : Sml (.list (L.map snP)) := by
  refine ⟨by simpa only [sml] using smlAll_sn h, ?_, ?_⟩
  · have := depth_sn L
    simp only [PyData.depth]; omega
  · have := weight_sn h
    simp only [PyData.weight]; omega
theorem opRepr_sn {L : List Sn} {S : Sg} (h : ∀ p ∈ L, SnOk p) (hl : L.length ≤ 100) : opRepr (.p (.lst (L.map snD))) S = .ok (.p (.str (PyData.list (L.map snP)).shown)) S :=
  opRepr_t (by rw [dataR_p]; unfold toPy; rw [toPyL_sn]) (Sml.sn h hl)
end Lib

set_option Elab.async false
set_option linter.all false
set_option maxRecDepth 100000
set_option exponentiation.threshold 2000
namespace Lib
open PySem PySem.Spec PyProof.Rows L2 Dd
/-! ### screens that are made of screens -/
def rea (cs : List Nat) (ls : List (List Int)) : List (List Int) := ls.map fun lv => cs.map fun c => lv.getD c 0
def csD (cs : List Nat) : List D := cs.map fun c : Nat => D.int (c : Int)
theorem rea_len (cs : List Nat) (ls : List (List Int)) : (rea cs ls).length = ls.length := List.length_map ..
theorem getD_self {lv : List Int} (h : lv.length = 4) : [0, 1, 2, 3].map (fun c => lv.getD c 0) = lv := by
  match lv, h with
  | [a, b, c, d], _ => rfl
theorem rea_lvs {cs : List Nat} (hc : cs.Perm [0, 1, 2, 3]) {ls : List (List Int)} (hp : Lvs ls) : Lvs (rea cs ls) := by
  intro l hl
  obtain ⟨lv, hm, rfl⟩ := List.mem_map.mp hl
  have h := hp lv hm
  refine (hc.map _).trans ?_
  rw [getD_self h.length_eq]
  exact h
theorem rea_ok {cs : List Nat} (hc : cs.Perm [0, 1, 2, 3]) {ls : List (List Int)} (lok : LvOk ls) : LvOk (rea cs ls) := ⟨by rw [rea_len]; exact lok.1, by rw [rea_len]; exact lok.2.1, rea_lvs hc lok.2.2⟩
def lvG (cs : List Nat) (d : D) : D := match d with
  | .tup l => .tup (cs.map fun c => l.getD c .non)
  | _ => .non
theorem rearranged_i {ls : List (List Int)} (lok : LvOk ls) {cs : List Nat} (hc : cs.Perm [0, 1, 2, 3]) (st : Store) :
    s_rearranged [.p (.scr (lvD ls)), .p (.tup (csD cs))] st = .ok (.new (.obj 0 [("own_levels", .tup (lvD (rea cs ls)))])) st := by
  have cl : cs.length = 4 := hc.length_eq
  have c4 : ∀ c ∈ cs, c < 4 := fun c h => by
    have := hc.mem_iff.mp h
    simp only [List.mem_cons, List.not_mem_nil, or_false] at this
    omega
  obtain ⟨d1, d2, hp⟩ := lok
  have rok := rea_ok hc ⟨d1, d2, hp⟩
  refine fin_eq ?_
  unfold s_rearranged b_rearranged
  simp! [bnd_bnd]
  refine wpf_bnd (wp_lcFin (wp_lc (I := fun j acc S => ∃ rest s3, S = ⟨[some (.p (.scr (lvD ls))), some (.p (.tup (csD cs))), none, s3], st ++ rest⟩ ∧ acc = lvD (rea cs (ls.take j))) ?_ ?_ (by rw [lvD_len]; omega) ?_ ?_))
  · exact ⟨[], none, by rw [List.append_nil], rfl⟩
  · intros; trivial
  · rintro j d acc S hj ha ⟨rest, s3, rfl, rfl⟩
    obtain ⟨lv, h1, rfl, hm⟩ := lvD_get hj
    have hl := hp lv hm
    have e4 : ([] : List D) ++ (csD cs).map (fun d => match d with | .int c => (lv.map D.int).getD c.toNat .non | _ => .non) = (cs.map fun c => lv.getD c 0).map D.int := by
      rw [List.nil_append]
      unfold csD
      rw [List.map_map, List.map_map]
      refine List.map_congr_left fun c hc' => ?_
      have h4 := c4 c hc'
      have : c < lv.length := by rw [hl.length_eq]; exact h4
      show (lv.map D.int).getD c .non = D.int (lv.getD c 0)
      rw [List.getD_eq_getElem?_getD, List.getElem?_map, List.getD_eq_getElem?_getD, List.getElem?_eq_getElem this]
      rfl
    simp! [bnd_bnd]
    rw [lcL_map (g := fun d => match d with | .int c => (lv.map D.int).getD c.toNat .non | _ => .non) trivial _ _ (fun d hd => by
      obtain ⟨c, hc', rfl⟩ := List.mem_map.mp hd
      have h4 := c4 c hc'
      have h5 : c < lv.length := by rw [hl.length_eq]; exact h4
      have ix : ∀ S : Sg, ixK (lv.map D.int) (c : Int) S = .ok (.p ((lv.map D.int).getD c .non)) S := fun S => ixK_of (atI_of (by omega) (by
        rw [List.getD_eq_getElem?_getD, show ((c : Int)).toNat = c by omega, List.getElem?_map, List.getElem?_eq_getElem h5]; rfl))
      simp! [ix]
      rfl) (by unfold csD; simp; omega), e4]
    simp! [bnd_bnd, lcFin_ok (acc := (cs.map fun c => lv.getD c 0).map D.int) (by simp; omega)]
    refine wp_ok ⟨_, _, rfl, ?_⟩
    rw [List.take_add_one, h1]
    unfold lvD rea
    rw [List.map_append, List.map_append]
    rfl
  · rintro acc S ⟨rest, s3, rfl, rfl⟩
    have e := lvD_len ls
    rw [e, List.take_length]
    refine ⟨by rw [lvD_len, rea_len]; omega, ?_⟩
    simp! [bnd_bnd, screen_make _ rok]
    rw [finishR_mu (o := .obj 0 [("own_levels", .tup (lvD (rea cs ls)))]) (by simp) (by omega)]
    exact wpf_ok ⟨rfl, by rw [List.take_append_of_le_length (by omega), List.take_length]⟩
theorem mirrored_i {ls : List (List Int)} (lok : LvOk ls) (st : Store) : s_mirrored [.p (.scr (lvD ls))] st = .ok (.new (.obj 0 [("own_levels", .tup (lvD (rea [1, 0, 3, 2] ls)))])) st := by
  have r := rearranged_i lok (cs := [1, 0, 3, 2]) (by decide)
  unfold csD at r
  unfold s_mirrored b_mirrored
  simp! [require_screen_ok]
  simp! [show ∀ st, s_rearranged [.p (.scr (lvD ls)), .p (.tup [.int 1, .int 0, .int 3, .int 2])] st = _ from r]
  rw [finishR_mu (o := .obj 0 [("own_levels", .tup (lvD (rea [1, 0, 3, 2] ls)))]) (by simp) (by omega), List.take_append_of_le_length (by omega), List.take_length]
theorem flipped_i {ls : List (List Int)} (lok : LvOk ls) (st : Store) : s_flipped [.p (.scr (lvD ls))] st = .ok (.new (.obj 0 [("own_levels", .tup (lvD (rea [2, 3, 0, 1] ls)))])) st := by
  have r := rearranged_i lok (cs := [2, 3, 0, 1]) (by decide)
  unfold csD at r
  unfold s_flipped b_flipped
  simp! [require_screen_ok]
  simp! [show ∀ st, s_rearranged [.p (.scr (lvD ls)), .p (.tup [.int 2, .int 3, .int 0, .int 1])] st = _ from r]
  rw [finishR_mu (o := .obj 0 [("own_levels", .tup (lvD (rea [2, 3, 0, 1] ls)))]) (by simp) (by omega), List.take_append_of_le_length (by omega), List.take_length]
theorem transposed_i {ls : List (List Int)} (lok : LvOk ls) (st : Store) : s_transposed [.p (.scr (lvD ls))] st = .ok (.new (.obj 0 [("own_levels", .tup (lvD (rea [0, 2, 1, 3] ls)))])) st := by
  have r := rearranged_i lok (cs := [0, 2, 1, 3]) (by decide)
  unfold csD at r
  unfold s_transposed b_transposed
  simp! [require_screen_ok]
  simp! [show ∀ st, s_rearranged [.p (.scr (lvD ls)), .p (.tup [.int 0, .int 2, .int 1, .int 3])] st = _ from r]
  rw [finishR_mu (o := .obj 0 [("own_levels", .tup (lvD (rea [0, 2, 1, 3] ls)))]) (by simp) (by omega), List.take_append_of_le_length (by omega), List.take_length]
theorem opList_t {l : List D} {S : Sg} : opList (.p (.tup l)) S = .ok (.r S.st.length) ⟨S.sl, S.st ++ [.mu (.lst l)]⟩ := Eq.trans rfl rfl
theorem levels_i (l : List D) (st : Store) : s_Screen_levels [.p (.scr l)] st = .ok (.new (.lst l)) st := by
  unfold s_Screen_levels b_Screen_levels
  simp! [opList_t]
  rw [finishR_mu (o := .lst l) (by simp) (by omega), List.take_append_of_le_length (by omega), List.take_length]
theorem levels_p (l : List D) (S : Sg) : propK 0 s_Screen_levels (.p (.scr l)) S = .ok (.r S.st.length) ⟨S.sl, S.st ++ [.mu (.lst l)]⟩ := by
  unfold propK
  show (if (0 : Nat) = 0 then (match s_Screen_levels [.p (.scr l)] S.st with | .exc _ _ => Res.bad | r => applyF S r) else Res.bad) = _
  rw [if_pos rfl, levels_i]
  rfl
def slK (lo hi : Option Int) (S : Sg) : Option (List D) → Res R
  | some l => if l.length ≤ sizeLine then .ok (.r S.st.length) { S with st := S.st ++ [.mu (.lst (Dd.cutD l lo hi))] } else .bad
  | none => .bad
theorem opSl_r {n : Nat} {lo hi : Option Int} {S : Sg} : opSl (.r n) lo hi S = slK lo hi S (getLst (.r n) S) := by
  unfold opSl slK
  rfl
theorem slK_ap {l : List D} {lo hi : Option Int} {S : Sg} (h : l.length ≤ 1000) : slK lo hi S (some l) = .ok (.r S.st.length) ⟨S.sl, S.st ++ [.mu (.lst (Dd.cutD l lo hi))]⟩ := if_pos (Nat.le_trans h (by rw [sizeLine_eq]; decide))
theorem opSl_l {l : List D} {lo hi : Option Int} {S : Sg} (h : l.length ≤ 1000) : opSl (.p (.lst l)) lo hi S = .ok (.r S.st.length) ⟨S.sl, S.st ++ [.mu (.lst (Dd.cutD l lo hi))]⟩ := if_pos (Nat.le_trans h (by rw [sizeLine_eq]; decide))
theorem stacked_i {a b : List (List Int)} (ha : LvOk a) (hb : LvOk b) (h : a.length + b.length ≤ 50) (st : Store) : s_stacked [.p (.scr (lvD a)), .p (.scr (lvD b))] st = .ok (.new (.obj 0 [("own_levels", .tup (lvD (a ++ b)))])) st := by
  have ok : LvOk (a ++ b) := ⟨by rw [List.length_append]; have := ha.1; omega, by rw [List.length_append]; exact h, fun l hl => (List.mem_append.mp hl).elim (ha.2.2 l) (hb.2.2 l)⟩
  have e : lvD a ++ lvD b = lvD (a ++ b) := (List.map_append ..).symm
  unfold s_stacked b_stacked
  simp! [require_screen_ok]
  have l1 := lvD_len a
  have l2 := lvD_len b
  have l3 := lvD_len (a ++ b)
  rw [List.append_nil, e, allocL_ap (by rw [l3, List.length_append]; omega)]
  simp! [l3, List.length_append, show ¬ ((a.length : Int) + (b.length : Int) > 50) by omega, Int.natCast_add, screen_make _ ok]
  rw [finishR_mu (o := .obj 0 [("own_levels", .tup (lvD (a ++ b)))]) (by simp) (by omega), List.take_append_of_le_length (by omega), List.take_length]
theorem first_levels_i {ls : List (List Int)} (lok : LvOk ls) {n : Nat} (n0 : 1 ≤ n) (n1 : n ≤ ls.length) (st : Store) : s_first_levels [.p (.scr (lvD ls)), .p (.int (n : Int))] st = .ok (.new (.obj 0 [("own_levels", .tup (lvD (ls.take n)))])) st := by
  have ok : LvOk (ls.take n) := ⟨by rw [List.length_take]; omega, by rw [List.length_take]; have := lok.2.1; omega, fun l hl => lok.2.2 l (List.mem_of_mem_take hl)⟩
  have e : (lvD ls).take n = lvD (ls.take n) := (List.map_take ..).symm
  unfold s_first_levels b_first_levels
  simp! [require_screen_ok, is_whole_i, lvD_len, show (1 : Int) ≤ n by omega, show (n : Int) ≤ ls.length by omega, slE_ap, opt0_ap, opt1_ap, opt1K_i, levels_p, opSl_r, slK_ap (l := lvD ls) (lo := none) (hi := some (n : Int)) (by rw [lvD_len]; have := lok.2.1; omega), cutD_to, e, screen_make _ ok]
  rw [finishR_mu (o := .obj 0 [("own_levels", .tup (lvD (ls.take n)))]) (by simp) (by omega), List.take_append_of_le_length (by omega), List.take_length]
theorem threshold_i {ls : List (List Int)} (h : Lvs ls) (hl : ls.length ≤ 50) {x y : Int} (h0 : -(1000000000000000000000000000000 : Int) ≤ x) (h1 : x ≤ (1000000000000000000000000000000 : Int)) (h2 : -(1000000000000000000000000000000 : Int) ≤ y) (h3 : y ≤ (1000000000000000000000000000000 : Int)) (st : Store) : s_Screen_threshold [.p (.scr (lvD ls)), .p (.int x), .p (.int y)] st = .ok (.val (.int (thr ls x y))) st := by
  unfold s_Screen_threshold b_Screen_threshold
  simp! [require_place_ok h0 h1 h2 h3, threshold_at_i h hl]
theorem eqv_tt (xs ys : List PyData) : PyData.eqv (.tuple xs) (.tuple ys) = PyData.eqvAll xs ys := rfl
theorem eqv_ll (xs ys : List PyData) : PyData.eqv (.list xs) (.list ys) = PyData.eqvAll xs ys := rfl
theorem eqvAll_lv : ∀ a b : List (List Int), PyData.eqvAll (lvP a) (lvP b) = decide (a = b)
  | [], [] => rfl
  | [], b :: bs => rfl
  | a :: as, [] => rfl
  | a :: as, b :: bs => by
    show (PyData.eqv (.tuple (a.map .int)) (.tuple (b.map .int)) && PyData.eqvAll (lvP as) (lvP bs)) = _
    rw [eqv_tt, eqvAll_ints, eqvAll_lv as bs]
    by_cases h : a = b <;> by_cases h2 : as = bs <;> simp [h, h2]
theorem shaped_lvt (ls : List (List Int)) : SeqAt.shaped (.tuple (lvP ls)) = true := by
  show (PyData.canLayAll0 (lvP ls) && decide (PyData.depthAll (lvP ls) + 1 ≤ 64)) = true
  rw [canLay_lv, decide_eq_true (by have := depth_lv ls; omega)]; rfl
theorem opNeD_li {x y : R} {S : Sg} {ns ms : List Int} (h1 : dataR x S = some (.list (ns.map PyData.int))) (h2 : dataR y S = some (.list (ms.map PyData.int))) : opNeD x y S = .ok (.p (.bl (!decide (ns = ms)))) S := by
  rw [opNeD_of h1 h2 (shaped_li _) (shaped_li _), eqv_ll, eqvAll_ints]
theorem neInts3 {a b c : Int} {S : Sg} : opNeD (.p (.lst [.int a, .int b, .int c])) (.p (.lst [.int a, .int b, .int c])) S = .ok (.p (.bl false)) S := by
  rw [opNeD_li (ns := [a, b, c]) (ms := [a, b, c]) (by rw [dataR_p]; rfl) (by rw [dataR_p]; rfl)]
  simp
/-! == with the data looked at one by one -/
def eqDK : Option PyData → Option PyData → Sg → Res R
  | some d, some e, S => if SeqAt.shaped d = true ∧ SeqAt.shaped e = true then .ok (.p (.bl (PyData.eqv d e))) S else .bad
  | _, _, _ => .bad
def neDK : Option PyData → Option PyData → Sg → Res R
  | some d, some e, S => if SeqAt.shaped d = true ∧ SeqAt.shaped e = true then .ok (.p (.bl (!PyData.eqv d e))) S else .bad
  | _, _, _ => .bad
theorem opEqD_K {x y : R} {S : Sg} : opEqD x y S = eqDK (dataR x S) (dataR y S) S := by
  unfold opEqD
  cases dataR x S with
  | none => rfl
  | some d => cases dataR y S <;> rfl
theorem opNeD_K {x y : R} {S : Sg} : opNeD x y S = neDK (dataR x S) (dataR y S) S := by
  unfold opNeD
  cases dataR x S with
  | none => rfl
  | some d => cases dataR y S <;> rfl
theorem toPy_lst_lv {ls : List (List Int)} : toPy (.lst (lvD ls)) = some (.list (lvP ls)) := by unfold toPy; rw [toPyL_lv]
theorem toPy_tup_lv {ls : List (List Int)} : toPy (.tup (lvD ls)) = some (.tuple (lvP ls)) := by unfold toPy; rw [toPyL_lv]
theorem dataK_lv {ls : List (List Int)} : dataK (some (.mu (.lst (lvD ls)))) = some (.list (lvP ls)) := by
  rw [dataK_mu, toPyL_lv]; rfl
theorem eqDK_ll {a b : List (List Int)} {S : Sg} : eqDK (some (.list (lvP a))) (some (.list (lvP b))) S = .ok (.p (.bl (decide (a = b)))) S := by
  refine (if_pos ⟨shaped_lv a, shaped_lv b⟩).trans ?_
  rw [eqv_ll, eqvAll_lv]
theorem neDK_ll {a b : List (List Int)} {S : Sg} : neDK (some (.list (lvP a))) (some (.list (lvP b))) S = .ok (.p (.bl (!decide (a = b)))) S := by
  refine (if_pos ⟨shaped_lv a, shaped_lv b⟩).trans ?_
  rw [eqv_ll, eqvAll_lv]
theorem eqDK_tt {a b : List (List Int)} {S : Sg} : eqDK (some (.tuple (lvP a))) (some (.tuple (lvP b))) S = .ok (.p (.bl (decide (a = b)))) S := by
  refine (if_pos ⟨shaped_lvt a, shaped_lvt b⟩).trans ?_
  rw [eqv_tt, eqvAll_lv]
/-! screens, looked at -/
def scrC : Option Cell → Option (List D)
  | some (.mu (.obj k fs)) => if k = 0 then (match fs.lookup ("own_levels" : Str) with
    | some (.tup l) => some l
    | _ => none) else none
  | _ => none
def scrOf (x : R) (S : Sg) : Option (List D) := match x with
  | .p (.scr l) => some l
  | .p _ => none
  | .r n => scrC S.st[n]?
theorem scrOf_p {l : List D} {S : Sg} : scrOf (.p (.scr l)) S = some l := Eq.trans rfl rfl
theorem scrOf_r {n : Nat} {S : Sg} : scrOf (.r n) S = scrC S.st[n]? := Eq.trans rfl rfl
theorem scrC_ap {l : List D} : scrC (some (.mu (.obj 0 [("own_levels", .tup l)]))) = some l := Eq.trans rfl rfl
theorem scrOf_ins {x : R} {S : Sg} {l : List D} (h : scrOf x S = some l) : ∃ fs, insOf x S = some (0, fs) ∧ fs.lookup ("own_levels" : Str) = some (.tup l) := by
  cases x with
  | p d =>
    cases d with
    | scr l' => cases h; exact ⟨_, rfl, rfl⟩
    | _ => cases h
  | r n =>
    rw [insOf_rC]
    rw [scrOf_r] at h
    generalize S.st[n]? = z at *
    rcases z with _ | ((l' | kv | ⟨k', fs⟩) | l' | _)
    · cases h
    · cases h
    · cases h
    · unfold scrC at h
      simp only at h
      split at h
      · rename_i hk
        subst hk
        split at h
        · rename_i l2 e; cases h; exact ⟨fs, rfl, e⟩
        · cases h
      · cases h
    · cases h
    · cases h
theorem scr_eq {x y : R} {sl : List (Option R)} {st : Store} {a b : List (List Int)} (hx : scrOf x ⟨sl, st⟩ = some (lvD a)) (hy : scrOf y ⟨sl, st⟩ = some (lvD b)) : s_Screen___eq [x, y] st = .ok (.val (.bl (decide (a = b)))) st := by
  have ins : ∀ (z : R) (s1 s2 : List (Option R)), insOf z ⟨s1, st⟩ = insOf z ⟨s2, st⟩ := fun z s1 s2 => by
    cases z with
    | p d => cases d <;> rfl
    | r n => rfl
  have kd : ∀ (z : R) (s1 : List (Option R)) fs, insOf z ⟨s1, st⟩ = some (0, fs) → kindR z ⟨s1, st⟩ = none := fun z s1 fs e => by
    cases z with
    | p d => cases d <;> first | (cases e; done) | rfl
    | r n =>
      rw [insOf_rC] at e
      unfold kindR
      simp only at e ⊢
      generalize st[n]? = q at *
      rcases q with _ | ((l' | kv | ⟨k', fs⟩) | l' | _) <;> first | (cases e; done) | rfl
  obtain ⟨fs, e1, l1⟩ := scrOf_ins hx
  obtain ⟨gs, e2, l2⟩ := scrOf_ins hy
  have c2 : ∀ s1, isCK 0 y ⟨s1, st⟩ = .ok (.p (.bl true)) ⟨s1, st⟩ := fun s1 => by
    unfold isCK
    rw [kd y s1 gs (by rw [ins y s1 sl]; exact e2), ins y s1 sl, e2]
    rfl
  have a1 : ∀ s1, attrK 0 "own_levels" x ⟨s1, st⟩ = .ok (.p (.tup (lvD a))) ⟨s1, st⟩ := fun s1 => by
    unfold attrK
    rw [ins x s1 sl, e1]
    simp only [if_true, l1]
  have a2 : ∀ s1, attrK 0 "own_levels" y ⟨s1, st⟩ = .ok (.p (.tup (lvD b))) ⟨s1, st⟩ := fun s1 => by
    unfold attrK
    rw [ins y s1 sl, e2]
    simp only [if_true, l2]
  unfold s_Screen___eq b_Screen___eq
  simp! [c2, a1, a2, opEqD_K, dataR_p, toPy_tup_lv, eqDK_tt]
theorem opEqU_lv {x y : R} {S : Sg} {a b : List (List Int)} (hx : scrOf x S = some (lvD a)) (hy : scrOf y S = some (lvD b)) : opEqU 0 s_Screen___eq x y S = .ok (.p (.bl (decide (a = b)))) S := by
  obtain ⟨fs, e1, l1⟩ := scrOf_ins hx
  obtain ⟨gs, e2, l2⟩ := scrOf_ins hy
  unfold opEqU
  simp only [e1, e2]
  rw [if_pos ⟨trivial, .inr rfl⟩, scr_eq (sl := S.sl) hx hy]
theorem opEqU_pp {S : Sg} {a b : List (List Int)} : opEqU 0 s_Screen___eq (.p (.scr (lvD a))) (.p (.scr (lvD b))) S = .ok (.p (.bl (decide (a = b)))) S := opEqU_lv rfl rfl
/-! thresholds of turned screens -/
theorem dg_rea {cs : List Nat} {lv : List Int} {x y x' y' : Int} (h : (cs[(x % 2 + 2 * (y % 2)).toNat]?) = some (x' % 2 + 2 * (y' % 2)).toNat) : dg (cs.map fun c => lv.getD c 0) x y = dg lv x' y' := by
  unfold dg
  rw [List.getD_eq_getElem?_getD, List.getElem?_map, h]
  rfl
theorem thr_mir : ∀ (ls : List (List Int)) (x y : Int), thr (rea [1, 0, 3, 2] ls) x y = thr ls (-1 - x) y
  | [], x, y => rfl
  | lv :: r, x, y => by
    have ih := thr_mir r (x / 2) (y / 2)
    show dg _ x y * 4 ^ (rea _ r).length + thr (rea [1, 0, 3, 2] r) (x / 2) (y / 2) = dg lv (-1 - x) y * 4 ^ r.length + thr r ((-1 - x) / 2) (y / 2)
    rw [ih, rea_len, dg_rea (x' := -1 - x) (y' := y), show (-1 - x) / 2 = -1 - x / 2 by omega]
    rcases (show (x % 2 = 0 ∨ x % 2 = 1) ∧ (y % 2 = 0 ∨ y % 2 = 1) by omega) with ⟨h | h, k | k⟩ <;> rw [h, k, show (-1 - x) % 2 = 1 - x % 2 by omega, h] <;> rfl
theorem thr_flp : ∀ (ls : List (List Int)) (x y : Int), thr (rea [2, 3, 0, 1] ls) x y = thr ls x (-1 - y)
  | [], x, y => rfl
  | lv :: r, x, y => by
    have ih := thr_flp r (x / 2) (y / 2)
    show dg _ x y * 4 ^ (rea _ r).length + thr (rea [2, 3, 0, 1] r) (x / 2) (y / 2) = dg lv x (-1 - y) * 4 ^ r.length + thr r (x / 2) ((-1 - y) / 2)
    rw [ih, rea_len, dg_rea (x' := x) (y' := -1 - y), show (-1 - y) / 2 = -1 - y / 2 by omega]
    rcases (show (x % 2 = 0 ∨ x % 2 = 1) ∧ (y % 2 = 0 ∨ y % 2 = 1) by omega) with ⟨h | h, k | k⟩ <;> rw [h, k, show (-1 - y) % 2 = 1 - y % 2 by omega, k] <;> rfl
theorem thr_trn : ∀ (ls : List (List Int)) (x y : Int), thr (rea [0, 2, 1, 3] ls) x y = thr ls y x
  | [], x, y => rfl
  | lv :: r, x, y => by
    have ih := thr_trn r (x / 2) (y / 2)
    show dg _ x y * 4 ^ (rea _ r).length + thr (rea [0, 2, 1, 3] r) (x / 2) (y / 2) = dg lv y x * 4 ^ r.length + thr r (y / 2) (x / 2)
    rw [ih, rea_len, dg_rea (x' := y) (y' := x)]
    rcases (show (x % 2 = 0 ∨ x % 2 = 1) ∧ (y % 2 = 0 ∨ y % 2 = 1) by omega) with ⟨h | h, k | k⟩ <;> rw [h, k] <;> rfl
theorem rea_rea {cs ds : List Nat} (hd : ∀ d ∈ ds, d < cs.length) (ls : List (List Int)) : rea ds (rea cs ls) = rea (ds.map fun d => cs.getD d 0) ls := by
  unfold rea
  rw [List.map_map]
  refine List.map_congr_left fun lv _ => ?_
  show ds.map (fun d => (cs.map fun c => lv.getD c 0).getD d 0) = (ds.map fun d => cs.getD d 0).map fun c => lv.getD c 0
  rw [List.map_map]
  refine List.map_congr_left fun d hm => ?_
  have h := hd d hm
  show (cs.map fun c => lv.getD c 0).getD d 0 = lv.getD (cs.getD d 0) 0
  rw [List.getD_eq_getElem?_getD, List.getElem?_map, List.getElem?_eq_getElem h, List.getD_eq_getElem?_getD (l := cs), List.getElem?_eq_getElem h]
  rfl
theorem rea_id {ls : List (List Int)} (hp : Lvs ls) : rea [0, 1, 2, 3] ls = ls := by
  unfold rea
  refine (List.map_congr_left fun lv h => getD_self (hp lv h).length_eq).trans (List.map_id' _)
theorem ci4_dg {lv : List Int} (hp : lv.Perm [0, 1, 2, 3]) (X Y : Int) : ci4 lv (dg lv X Y) = (X % 2 + 2 * (Y % 2)).toNat := by
  obtain ⟨d0, d1⟩ := dg_bd hp X Y
  obtain ⟨_, h2, h3⟩ := ci4_get hp d0 d1
  exact (List.getElem?_inj (by rw [hp.length_eq]; exact h3) (nodup4 hp)).mp (h2.trans (dg_get hp X Y).symm)
theorem mod_succ (X : Int) (n : Nat) : X % 2 ^ (n + 1) = X % 2 + 2 * (X / 2 % 2 ^ n) := by
  have p := two_pos n
  rw [Int.pow_succ, Int.mul_comm]
  have e1 := Int.emod_add_mul_ediv X (2 * 2 ^ n)
  have e2 := Int.emod_add_mul_ediv (X / 2) (2 ^ n)
  have e3 := Int.emod_add_mul_ediv X 2
  rw [Int.ediv_ediv_of_nonneg (by decide)] at e2
  have : 2 * 2 ^ n * (X / (2 * 2 ^ n)) = 2 * (2 ^ n * (X / (2 * 2 ^ n))) := Int.mul_assoc ..
  omega
theorem plc_thr : ∀ (ls : List (List Int)) (X Y x y : Int) (s : Nat), Lvs ls → plc ls (thr ls X Y) x y s = (x + X % 2 ^ ls.length * 2 ^ s, y + Y % 2 ^ ls.length * 2 ^ s)
  | [], X, Y, x, y, s, h => by
    show (x, y) = _
    rw [List.length_nil, Int.pow_zero, Int.emod_one, Int.emod_one, Int.zero_mul, Int.add_zero, Int.add_zero]
  | lv :: r, X, Y, x, y, s, h => by
    have hl := h lv List.mem_cons_self
    obtain ⟨t0, t1⟩ := thr_bd (X / 2) (Y / 2) h.tail
    have fp := four_pos r.length
    have dv : (dg lv X Y * 4 ^ r.length + thr r (X / 2) (Y / 2)) / 4 ^ r.length = dg lv X Y := digit_of t0 t1
    show plc r _ _ _ (s + 1) = _
    show plc r (dg lv X Y * 4 ^ r.length + thr r (X / 2) (Y / 2) - (dg lv X Y * 4 ^ r.length + thr r (X / 2) (Y / 2)) / 4 ^ r.length * 4 ^ r.length) (pl (ci4 lv ((dg lv X Y * 4 ^ r.length + thr r (X / 2) (Y / 2)) / 4 ^ r.length)) x y s).1 (pl (ci4 lv ((dg lv X Y * 4 ^ r.length + thr r (X / 2) (Y / 2)) / 4 ^ r.length)) x y s).2 (s + 1) = _
    rw [dv, ci4_dg hl, show dg lv X Y * 4 ^ r.length + thr r (X / 2) (Y / 2) - dg lv X Y * 4 ^ r.length = thr r (X / 2) (Y / 2) by omega, plc_thr r (X / 2) (Y / 2) _ _ (s + 1) h.tail, List.length_cons, mod_succ, mod_succ]
    unfold pl
    have c0 : (((X % 2 + 2 * (Y % 2)).toNat : Nat) : Int) = X % 2 + 2 * (Y % 2) := by omega
    rw [c0]
    simp only
    rw [show (X % 2 + 2 * (Y % 2)) % 2 = X % 2 by omega, show (X % 2 + 2 * (Y % 2)) / 2 = Y % 2 by omega, Int.pow_succ, Int.add_mul, Int.add_mul]
    have e : ∀ z : Int, z * (2 ^ s * 2) = 2 * z * 2 ^ s := fun z => by rw [Int.mul_comm (2 ^ s) 2, ← Int.mul_assoc, Int.mul_comm z 2]
    rw [e, e, Int.add_assoc, Int.add_assoc]
theorem plc_thr0 {ls : List (List Int)} (hp : Lvs ls) (X Y : Int) : plc ls (thr ls X Y) 0 0 0 = (X % 2 ^ ls.length, Y % 2 ^ ls.length) := by
  rw [plc_thr ls X Y 0 0 0 hp, Int.pow_zero, Int.mul_one, Int.mul_one, Int.zero_add, Int.zero_add]
/-! == of a screen with what is none -/
theorem scr_none {l : List D} {d : D} {t : String} (hd : kindD d = some t) (st : Store) : s_Screen___eq [.p (.scr l), .p d] st = .ok (.val (.bl false)) st := by
  have c2 : ∀ s1, isCK 0 (.p d) ⟨s1, st⟩ = .ok (.p (.bl false)) ⟨s1, st⟩ := fun s1 => by
    unfold isCK kindR
    simp only [hd]
  unfold s_Screen___eq b_Screen___eq
  simp! [c2]
theorem opEqU_none {l : List D} {d : D} {t : String} (hd : kindD d = some t) {S : Sg} : opEqU 0 s_Screen___eq (.p (.scr l)) (.p d) S = .ok (.p (.bl false)) S :=
  opEqU_scrK (t := t) (by unfold kindR; exact hd) (scr_none hd S.st)
/-! a screen made of a list in a cell -/
theorem screen_make_r {ls : List (List Int)} (lok : LvOk ls) {m : Nat} {S : Sg} (hm : S.st[m]? = some (.mu (.lst (lvD ls)))) : makeK 0 s_Screen___init 2 [.r m] S = .ok (.r S.st.length) ⟨S.sl, S.st ++ [.mu (.obj 0 [("own_levels", .tup (lvD ls))])]⟩ := by
  obtain ⟨h1, h2, h3⟩ := lok
  have hl : (lvD ls).length = ls.length := List.length_map ..
  have e1 : decide (1 ≤ ((ls.length : Nat) : Int)) = true := by simp; omega
  have e2 : decide (((ls.length : Nat) : Int) ≤ 50) = true := by simp; omega
  obtain ⟨sl, st⟩ := S
  have hm : st[m]? = some (.mu (.lst (lvD ls))) := hm
  have hm2 : ∀ l, (st ++ l)[m]? = some (.mu (.lst (lvD ls))) := fun l => get_old hm
  have init : s_Screen___init [.r st.length, .r m] (st ++ [.mu (.obj 0 [])]) = .ok (.val .non) (st ++ [.mu (.obj 0 [("own_levels", .tup (lvD ls))])]) := by
    have hk : ∀ sl l, isK "list" (.r m) ⟨sl, st ++ l⟩ = .ok (.p (.bl true)) ⟨sl, st ++ l⟩ := fun sl l => by
      unfold isK kindR
      simp only [hm2]
      rfl
    unfold s_Screen___init b_Screen___init
    simp! [hl, e1, e2, hm2, hk]
    obtain ⟨S', e, x, y, rfl⟩ := loop_inv (ok := fun S' => getLK S'.st[m]? = some (lvD ls)) (body := fun d => (gsC (gN 2) (gsC (gN 3) gsN) d >>= fun _ => sIf (mNot (tst (callM s_is_level 1 (aC (vr 3) aN)))) sBad sNx : M Fl))
      (I := fun _ S => ∃ x y, S = ⟨[some (R.r st.length), some (R.r m), x, y], st ++ [Cell.mu (Con.obj 0 [])]⟩) (numbered 0 (lvD ls)) 0 _ ⟨none, none, rfl⟩ (fun j S ⟨x, y, hS⟩ => by subst hS; simp! [hm2]) (fun j d S hj ⟨x, y, hS⟩ => by
        subst hS
        obtain ⟨d', rfl, hd⟩ := numbered_at hj
        obtain ⟨l, hl, rfl⟩ := List.mem_map.mp (List.mem_of_getElem? hd)
        refine ⟨_, .inl (by rw [bind_bnd]; simp! [is_level_ok _ (lv_of (h3 l hl))]; rfl), _, _, rfl⟩)
    rw [e]
    simp! [hm2, fldK, putD]
  unfold makeK
  simp only [List.length_cons, List.length_nil]
  rw [if_pos trivial, init]
end Lib

set_option Elab.async false
set_option linter.all false
set_option maxRecDepth 100000
set_option exponentiation.threshold 2000
namespace Lib
open PySem PySem.Spec PyProof.Rows L2 Dd
/-! ### texts of screens -/
/-- the text of a level -/
def lvS (lv : List Int) : Str := ⟨(lv.map fun n => (48 + n).toNat).toArray⟩
/-- the text of a screen -/
def tx (ls : List (List Int)) : Str := Txt.join (Str.ofString " ") (ls.map lvS)
theorem opStrI_dg {n : Int} (h0 : 0 ≤ n) (h1 : n < 4) {S : Sg} : opStrI (.p (.int n)) S = .ok (.p (.str (sg1 (48 + n).toNat))) S := by
  obtain rfl | rfl | rfl | rfl : n = 0 ∨ n = 1 ∨ n = 2 ∨ n = 3 := by omega
  all_goals
    unfold opStrI
    simp only
    rw [if_pos (by decide)]
    rfl
theorem strsOf_sg (l : List Nat) : strsOf (l.map fun n => D.str (sg1 n)) = some (l.map sg1) := by
  have := strsOf_map (l.map sg1)
  rwa [List.map_map] at this
theorem tl_sg (n : Nat) : TL.tl (sg1 n) = [n] := rfl
theorem joinL_nil : ∀ l : List Nat, TL.joinL [] (l.map fun n => [n]) = l
  | [] => rfl
  | [n] => rfl
  | n :: m :: r => by
    have := joinL_nil (m :: r)
    show [n] ++ ([] ++ TL.joinL [] ((m :: r).map fun n => [n])) = _
    rw [this]; rfl
theorem join_sg (l : List Nat) : Txt.join (Str.ofString "") (l.map sg1) = ⟨l.toArray⟩ := by
  apply TL.ext_tl
  rw [TL.join_eq, TL.tl_join, List.map_map]
  have e1 : TL.tl (Str.ofString "") = [] := by decide
  have e2 : (TL.tl ∘ sg1) = fun n => [n] := by funext n; rfl
  rw [e1, e2, joinL_nil]
theorem isStr_s {z : Str} {S : Sg} : isStr (.p (.str z)) S = true := Eq.trans rfl rfl
theorem opJoin_ap {a : Str} {y : R} {S : Sg} : opJoin (.p (.str a)) [y] S = joinK a S (getLst y S) := Eq.trans rfl rfl
theorem joinK_ap {a : Str} {S : Sg} {ys : List Str} (h : (ys.map (·.length)).sum + ys.length * a.length ≤ 16777216) : joinK a S (some (ys.map D.str)) = .ok (.p (.str (Txt.join a ys))) S := by
  unfold joinK
  simp only [strsOf_map]
  exact if_pos h
def dgC (lv : List Int) : List Nat := lv.map fun n => (48 + n).toNat
theorem lvS_eq (lv : List Int) : Txt.join (Str.ofString "") ((dgC lv).map sg1) = lvS lv := join_sg _
theorem sum_sg : ∀ l : List Nat, ((l.map sg1).map (·.length)).sum = l.length
  | [] => rfl
  | n :: l => by
    rw [List.map_cons, List.map_cons, List.sum_cons, sum_sg l, List.length_cons]
    show 1 + _ = _
    omega
theorem lvS_len {lv : List Int} (hp : lv.Perm [0, 1, 2, 3]) : (lvS lv).length = 4 := by
  rw [TL.len_tl]
  show (lv.map _).toArray.toList.length = 4
  rw [List.toList_toArray, List.length_map, hp.length_eq]; rfl
noncomputable def JJ : M R := (methM isStr opJoin (cs "") (aC (lcE [2] [2] unp1 (itL (vr 1)) tYesM (opA (op1 opStrI) (aC (vr 2) aN))) aN))
def dgF (d : D) : D := match d with
  | .int n => .str (sg1 (48 + n).toNat)
  | _ => .non
theorem jj_run {lv : List Int} (hp : lv.Perm [0, 1, 2, 3]) {s0 : Option R} (st : Store) : JJ ⟨[s0, some (.p (.tup (lv.map .int))), none], st⟩ = .ok (.p (.str (lvS lv))) ⟨[s0, some (.p (.tup (lv.map .int))), none], st ++ [.mu (.lst ((dgC lv).map fun n => .str (sg1 n)))]⟩ := by
  unfold JJ
  have h4 : lv.length = 4 := hp.length_eq
  simp! [isStr_s]
  rw [lcL_map (g := dgF) trivial _ _ (fun d hd => by
    obtain ⟨n, hn, rfl⟩ := List.mem_map.mp hd
    have := hp.mem_iff.mp hn
    simp only [List.mem_cons, List.not_mem_nil, or_false] at this
    simp! [opStrI_dg (n := n) (by omega) (by omega), dgF]) (by rw [List.length_map]; simp; omega), List.nil_append, lcFin_ok (by rw [List.length_map, List.length_map]; omega)]
  have e : (lv.map D.int).map dgF = ((dgC lv).map sg1).map D.str := by unfold dgC; rw [List.map_map, List.map_map, List.map_map]; rfl
  have e2 : ((dgC lv).map fun n => D.str (sg1 n)) = ((dgC lv).map sg1).map D.str := by rw [List.map_map]; rfl
  have sz : (((dgC lv).map sg1).map (·.length)).sum + ((dgC lv).map sg1).length * (Str.ofString "").length ≤ 16777216 := by
    rw [sum_sg, List.length_map]
    have : (dgC lv).length = 4 := by unfold dgC; rw [List.length_map, h4]
    rw [this, show (Str.ofString "").length = 0 from by decide]; omega
  rw [e, e2]
  simp! [opJoin_ap, joinK_ap sz, lvS_eq]
theorem txt_lc {ok : Sg → Prop} {ls : List (List Int)} (lok : LvOk ls) {s0 : Option R} (st : Store) (hok : ∀ Z, ok ⟨[s0, none, none], st ++ Z⟩) :
    Wp (lcL ok (lcB [1] [1] unp1 tYesM JJ) (lvD ls) [] ⟨[s0, none, none], st⟩) fun acc S => acc = (ls.map lvS).map D.str ∧ ∃ Z, S = ⟨[s0, none, none], st ++ Z⟩ := by
  obtain ⟨d1, d2, hp⟩ := lok
  have ln : (lvD ls).length = ls.length := List.length_map ..
  refine wp_lc (I := fun j acc S => acc = ((ls.take j).map lvS).map D.str ∧ ∃ Z, S = ⟨[s0, none, none], st ++ Z⟩) ⟨by simp, [], by simp⟩ ?_ (by rw [ln]; omega) ?_ ?_
  · rintro j acc S ⟨_, Z, rfl⟩; exact hok Z
  · rintro j d acc S hj _ ⟨rfl, Z, rfl⟩
    unfold lvD at hj
    rw [List.getElem?_map] at hj
    cases hl : ls[j]? with
    | none => rw [hl] at hj; cases hj
    | some lv =>
      rw [hl] at hj
      cases hj
      have hlv := hp lv (List.mem_of_getElem? hl)
      have jr := fun st => jj_run (s0 := s0) hlv st
      simp! [bnd_bnd, jr]
      refine wp_ok ⟨?_, _, rfl⟩
      rw [List.take_add_one, hl, List.map_append, List.map_append]; rfl
  · rintro acc S ⟨rfl, Z, rfl⟩
    rw [ln, List.take_length]
    exact ⟨rfl, Z, rfl⟩
theorem tx_sz {ls : List (List Int)} (lok : LvOk ls) : ((ls.map lvS).map (·.length)).sum + (ls.map lvS).length * (Str.ofString " ").length ≤ 16777216 := by
  obtain ⟨d1, d2, hp⟩ := lok
  have : ∀ ls : List (List Int), Lvs ls → ((ls.map lvS).map (·.length)).sum = 4 * ls.length := fun ls => by
    induction ls with
    | nil => exact fun _ => rfl
    | cons l r ih =>
      intro hp
      rw [List.map_cons, List.map_cons, List.sum_cons, ih fun z hz => hp z (by simp [hz]), lvS_len (hp l (by simp)), List.length_cons]; omega
  rw [this ls hp, List.length_map, show (Str.ofString " ").length = 1 from by decide]
  omega
theorem text_i {ls : List (List Int)} (lok : LvOk ls) (st : Store) : s_z_law_text [.p (.lst (lvD ls))] st = .ok (.val (.str (tx ls))) st := by
  refine fin_eq ?_
  unfold s_z_law_text b_z_law_text
  rw [show (methM isStr opJoin (cs "") (aC (lcE [2] [2] unp1 (itL (vr 1)) tYesM (opA (op1 opStrI) (aC (vr 2) aN))) aN)) = JJ from rfl]
  have len := lok.2.1
  simp! [bnd_bnd, isStr_s]
  refine wpf_bnd (wp_lcFin (wp_imp (txt_lc lok st fun Z => by simp! []) ?_))
  rintro acc S ⟨rfl, Z, rfl⟩
  refine ⟨by rw [List.length_map, List.length_map]; omega, ?_⟩
  simp! [bnd_bnd, opJoin_ap, joinK_ap (tx_sz lok)]
  exact wpf_ok ⟨rfl, by simp! []⟩
theorem show_screen_i {ls : List (List Int)} (lok : LvOk ls) (st : Store) : s_show_screen [.p (.scr (lvD ls))] st = .ok (.val (.str (tx ls))) st := by
  refine fin_eq ?_
  unfold s_show_screen b_show_screen
  rw [show (methM isStr opJoin (cs "") (aC (lcE [2] [2] unp1 (itL (vr 1)) tYesM (opA (op1 opStrI) (aC (vr 2) aN))) aN)) = JJ from rfl]
  have len := lok.2.1
  simp! [bnd_bnd, isStr_s, require_screen_ok, levels_p]
  refine wpf_bnd (wp_lcFin (wp_imp (txt_lc lok _ fun Z => by simp! []) ?_))
  rintro acc S ⟨rfl, Z, rfl⟩
  refine ⟨by rw [List.length_map, List.length_map]; omega, ?_⟩
  simp! [bnd_bnd, opJoin_ap, joinK_ap (tx_sz lok)]
  exact wpf_ok ⟨rfl, by simp! []⟩
/-! ### reading -/
theorem opSplit_ap {a b : Str} {S : Sg} : opSplit (.p (.str a)) [.p (.str b)] S = splitK a b S := Eq.trans rfl rfl
theorem split_tx {ls : List (List Int)} (lok : LvOk ls) : Txt.split (tx ls) (Str.ofString " ") = ls.map lvS := by
  obtain ⟨d1, d2, hp⟩ := lok
  refine TL.split_join (s := 32) (S := []) (by decide) (by decide +kernel) (by cases ls <;> simp at d1 ⊢) fun p hp' => ?_
  obtain ⟨lv, hl, rfl⟩ := List.mem_map.mp hp'
  show 32 ∉ (lv.map fun n => (48 + n).toNat).toArray.toList
  rw [List.toList_toArray]
  intro h
  obtain ⟨n, hn, e⟩ := List.mem_map.mp h
  have := (hp lv hl).mem_iff.mp hn
  simp only [List.mem_cons, List.not_mem_nil, or_false] at this
  omega
theorem tx_len {ls : List (List Int)} (lok : LvOk ls) : (tx ls).length ≤ 250 := by
  obtain ⟨d1, d2, hp⟩ := lok
  have go : ∀ ls : List (List Int), Lvs ls → (TL.joinL [32] ((ls.map lvS).map TL.tl)).length ≤ 5 * ls.length := fun ls => by
    induction ls with
    | nil => exact fun _ => Nat.le_refl _
    | cons l r ih =>
      intro hp
      have h4 := lvS_len (hp l (by simp))
      rw [TL.len_tl] at h4
      have ih := ih fun z hz => hp z (by simp [hz])
      cases r with
      | nil => show (TL.tl (lvS l)).length ≤ _; rw [h4]; simp
      | cons m r =>
        show (TL.tl (lvS l) ++ ([32] ++ TL.joinL [32] (((m :: r).map lvS).map TL.tl))).length ≤ _
        rw [List.length_append, List.length_append, h4]
        simp only [List.length_cons, List.length_nil] at ih ⊢
        omega
  rw [TL.len_tl]
  unfold tx
  rw [TL.join_eq, TL.tl_join]
  have := go ls hp
  have e : TL.tl (Str.ofString " ") = [32] := by decide
  rw [e]
  omega
theorem sort_lv {lv : List Int} (hp : lv.Perm [0, 1, 2, 3]) : sortN (lvS lv).cps.toList = [48, 49, 50, 51] := by
  refine (sortN_eq ?_ (by decide)).symm
  show List.Perm [48, 49, 50, 51] (lv.map fun n => (48 + n).toNat)
  exact (hp.map fun n => (48 + n).toNat).symm
def digsD : List D := [.str (Str.ofString "0"), .str (Str.ofString "1"), .str (Str.ofString "2"), .str (Str.ofString "3")]
theorem opSortS_lv {lv : List Int} (hp : lv.Perm [0, 1, 2, 3]) {S : Sg} : opSortS (.p (.str (lvS lv))) S = .ok (.r S.st.length) ⟨S.sl, S.st ++ [.mu (.lst digsD)]⟩ := by
  have h4 : (lvS lv).cps.size = 4 := lvS_len hp
  unfold opSortS
  simp only
  rw [if_pos (by omega), sort_lv hp]
  rfl
theorem digs_ne {k m : Nat} {S : Sg} (hk : S.st[k]? = some (.mu (.lst digsD))) (hm : S.st[m]? = some (.mu (.lst digsD))) : opNeD (.r k) (.r m) S = .ok (.p (.bl false)) S := by
  have e1 : ∀ k : Nat, S.st[k]? = some (.mu (.lst digsD)) → dataR (.r k) S = some (.list [.str (Str.ofString "0"), .str (Str.ofString "1"), .str (Str.ofString "2"), .str (Str.ofString "3")]) := fun k h => by rw [dataR_r, h]; rfl
  rw [opNeD_of (e1 k hk) (e1 m hm) (by decide +kernel) (by decide +kernel)]
  have : PyData.eqv (.list [.str (Str.ofString "0"), .str (Str.ofString "1"), .str (Str.ofString "2"), .str (Str.ofString "3")]) (.list [.str (Str.ofString "0"), .str (Str.ofString "1"), .str (Str.ofString "2"), .str (Str.ofString "3")]) = true := by decide +kernel
  rw [this]; rfl
theorem opIntS_dg {n : Int} (h0 : 0 ≤ n) (h1 : n < 4) {S : Sg} : opIntS (.p (.str (sg1 (48 + n).toNat))) S = .ok (.p (.int n)) S := by
  obtain rfl | rfl | rfl | rfl : n = 0 ∨ n = 1 ∨ n = 2 ∨ n = 3 := by omega
  · have : PySem.intText? (sg1 48) = some 0 := by decide +kernel
    show (match PySem.intText? (sg1 48) with | some n => if (sg1 48).length ≤ 640 then Res.ok (R.p (.int n)) S else .bad | none => .bad) = _
    rw [this]; rfl
  · have : PySem.intText? (sg1 49) = some 1 := by decide +kernel
    show (match PySem.intText? (sg1 49) with | some n => if (sg1 49).length ≤ 640 then Res.ok (R.p (.int n)) S else .bad | none => .bad) = _
    rw [this]; rfl
  · have : PySem.intText? (sg1 50) = some 2 := by decide +kernel
    show (match PySem.intText? (sg1 50) with | some n => if (sg1 50).length ≤ 640 then Res.ok (R.p (.int n)) S else .bad | none => .bad) = _
    rw [this]; rfl
  · have : PySem.intText? (sg1 51) = some 3 := by decide +kernel
    show (match PySem.intText? (sg1 51) with | some n => if (sg1 51).length ≤ 640 then Res.ok (R.p (.int n)) S else .bad | none => .bad) = _
    rw [this]; rfl
def itSK (x : R) (S : Sg) : Res (Itm D) := match x with
  | .p (.str z) => .ok ⟨fun _ => True, signsD z⟩ S
  | _ => .bad
theorem itS_ap (f : M R) (S : Sg) : itS f S = (f S).bnd itSK := by
  unfold itS
  rw [bind_bnd]
  refine bnd_ext fun x S => ?_
  cases x with
  | r n => rfl
  | p d => cases d <;> rfl
theorem itSK_s {z : Str} {S : Sg} : itSK (.p (.str z)) S = .ok ⟨fun _ => True, signsD z⟩ S := Eq.trans rfl rfl
theorem signs_lv (lv : List Int) : signsD (lvS lv) = lv.map fun n => .str (sg1 (48 + n).toNat) := by
  unfold signsD lvS
  rw [List.toList_toArray, List.map_map]; rfl
theorem isK_s {z : Str} {S : Sg} : isK "str" (.p (.str z)) S = .ok (.p (.bl true)) S := by unfold isK; rfl
theorem read_screen_i {ls : List (List Int)} (lok : LvOk ls) (st : Store) : s_read_screen [.p (.str (tx ls))] st = .ok (.new (.obj 0 [("own_levels", .tup (lvD ls))])) st := by
  have lok' := lok
  obtain ⟨d1, d2, hp⟩ := lok'
  have tl := tx_len lok
  have sk : ∀ S : Sg, splitK (tx ls) (Str.ofString " ") S = .ok (.r S.st.length) ⟨S.sl, S.st ++ [.mu (.lst ((ls.map lvS).map D.str))]⟩ := fun S => by
    unfold splitK
    rw [if_pos ⟨by decide +kernel, by rw [sizeLine_eq]; omega⟩, split_tx lok]
  refine fin_eq ?_
  unfold s_read_screen b_read_screen
  simp! [bnd_bnd, isK_s, isStr_s, opSplit_ap, sk]
  refine wpf_bnd (wp_loop (I := fun j S => ∃ s2 s3 Z, S = ⟨[some (.p (.str (tx ls))), some (.r st.length), s2, s3, none], st ++ (.mu (.lst (lvD (ls.take j))) :: .mu (.lst ((ls.map lvS).map D.str)) :: Z)⟩) ?_ ?_ ?_ ?_)
  · exact ⟨_, _, [], rfl⟩
  · rintro j S ⟨s2, s3, Z, rfl⟩
    simp! []
  · rintro j d S hj ⟨s2, s3, Z, rfl⟩
    obtain ⟨q, hq, rfl⟩ := numbered_get hj
    rw [List.getElem?_map, List.getElem?_map] at hq
    cases hl : ls[j]? with
    | none => rw [hl] at hq; cases hq
    | some lv =>
      rw [hl] at hq
      cases hq
      have hlv := hp lv (List.mem_of_getElem? hl)
      have h4 : lv.length = 4 := hlv.length_eq
      have hj' := (List.getElem?_eq_some_iff.mp hl).1
      have tl : (lvD (ls.take j)).length < 1000000 := by rw [lvD_len, List.length_take]; omega
      have dn : ∀ (k m : Nat) (S : Sg), S.st[k]? = some (.mu (.lst digsD)) → S.st[m]? = some (.mu (.lst [.str (Str.ofString "0"), .str (Str.ofString "1"), .str (Str.ofString "2"), .str (Str.ofString "3")])) → opNeD (.r k) (.r m) S = .ok (.p (.bl false)) S := fun k m S h1 h2 => digs_ne h1 h2
      rw [bind_bnd]
      simp! [bnd_bnd, opSortS_lv hlv, dn, itS_ap, itSK_s, signs_lv]
      rw [lcL_mapf (g := fun n => D.int n) trivial _ _ (fun n hn => by
        have := hlv.mem_iff.mp hn
        simp only [List.mem_cons, List.not_mem_nil, or_false] at this
        simp! [opIntS_dg (n := n) (by omega) (by omega)]) (by simp; omega), List.nil_append, lcFin_ok (by rw [List.length_map]; omega)]
      simp! [bnd_bnd, appK_ap tl]
      have step : lvD (ls.take (j + 1)) = lvD (ls.take j) ++ [D.tup (lv.map fun n => D.int n)] := by
        rw [List.take_add_one, hl]; unfold lvD; rw [List.map_append]; rfl
      exact wp_ok ⟨_, _, _, by rw [step]⟩
  · rintro S ⟨s2, s3, Z, rfl⟩
    rw [numbered_length, List.length_map, List.length_map, List.take_length]
    have n50 : ¬ ((ls.length : Nat) : Int) > 50 := by omega
    simp! [bnd_bnd, lvD_len, n50, screen_make ls lok]
    rw [finishR_mu (o := .obj 0 [("own_levels", .tup (lvD ls))]) (by simp) (by omega), List.take_append_of_le_length (by omega), List.take_length]
    exact wpf_ok ⟨rfl, rfl⟩
end Lib

set_option Elab.async false
set_option linter.all false
set_option maxRecDepth 100000
set_option exponentiation.threshold 2000
namespace Lib
open PySem PySem.Spec PyProof.Rows L2 Dd
theorem level_d : Draws s_z_law_level (fun n => [.r n]) (fun v => ∃ lv : List Int, v = .tup (lv.map .int) ∧ lv.Perm [0, 1, 2, 3]) 4 := by
  apply dr_of
  intro st n c C hn hb hC
  unfold s_z_law_level b_z_law_level
  simp! [bnd_bnd]
  refine wpf_bnd (wp_loop (I := fun i S => ∃ (c' : Cell) (left lev : List Int) (rest : Store) (s3 : Option R), S = ⟨[some (.r n), some (.r st.length), some (.r (st.length + 1)), s3], st.set n c' ++ (.mu (.lst (left.map .int)) :: .mu (.lst (lev.map .int)) :: rest)⟩ ∧ left.length = 4 - i ∧ lev.length = i ∧ (lev ++ left).Perm [0, 1, 2, 3] ∧ BagC c' (C + i)) ?_ ?_ ?_ ?_)
  · exact ⟨c, [0, 1, 2, 3], [], [], none, rfl, rfl, rfl, List.Perm.refl _, hb⟩
  · intros; trivial
  · rintro j q S hj ⟨c', left, lev, rest, s3, rfl, hm, hlen, hp2, B⟩
    have hj4 : j < 4 := (intsFrom_at (show (Dd.intsFrom 0 4)[j]? = some q from hj)).2
    rw [bind_bnd]
    cases left with
    | nil => simp at hm; omega
    | cons z left =>
      simp only [List.length_cons] at hm
      simp! [bnd_bnd, List.length_map]
      refine wp_bnd (wp_draw (pick_d (m := ((left.length + 1 : Nat) : Int)) (by omega) (Int.lt_of_le_of_lt (show ((left.length + 1 : Nat) : Int) ≤ 4 by omega) (by decide))) hn B (by omega) fun v2 c2 ⟨v, e2, a2, b2⟩ B2 => ?_)
      subst e2
      have hk : v.toNat < (z :: left).length := by rw [List.length_cons]; omega
      have hd : (D.int z :: left.map D.int)[v.toNat]? = some (.int (z :: left)[v.toNat]) := by
        show ((z :: left).map D.int)[v.toNat]? = _
        rw [List.getElem?_map, List.getElem?_eq_getElem hk]; rfl
      simp! [bnd_bnd, popC_of a2 hd (show (D.int z :: left.map D.int).length < 1000000 by rw [List.length_cons, List.length_map]; omega), appK_ap (show (lev.map D.int).length < 1000000 by rw [List.length_map]; omega)]
      refine wp_ok ⟨c2, (z :: left).eraseIdx v.toNat, lev ++ [(z :: left)[v.toNat]], rest, some (.p q), ?_, ?_, ?_, ?_, B2⟩
      · rw [List.map_append]
        show _ = (⟨_, st.set n c2 ++ (.mu (.lst (((z :: left).eraseIdx v.toNat).map D.int)) :: _)⟩ : Sg)
        rw [← map_erase]; rfl
      · rw [List.length_eraseIdx_of_lt hk, List.length_cons]; omega
      · rw [List.length_append]; simp; omega
      · refine List.Perm.trans ?_ hp2
        rw [List.append_assoc]
        exact (perm_getE hk).append_left lev
  · rintro S ⟨c', left, lev, rest, s3, rfl, hm, hlen, hp2, B⟩
    have hm : left.length = 0 := hm
    obtain rfl := List.length_eq_zero_iff.mp hm
    rw [List.append_nil] at hp2
    simp! [bnd_bnd]
    exact wpf_ok ⟨_, c', rfl, by simp! [], ⟨lev, rfl, hp2⟩, B⟩
theorem levels2_d {most : Int} (h0 : 0 < most) (h1 : most ≤ 50) : DrawsL s_z_law_levels_v2 (fun n => [.r n, .p (.int most)]) (fun v => ∃ ls, v = lvD ls ∧ LvOk ls ∧ (ls.length : Int) ≤ most) 250 := by
  apply drL_of
  intro st n c C hn hb hC
  unfold s_z_law_levels_v2 b_z_law_levels_v2
  simp! [bnd_bnd]
  refine wpf_bnd (wp_draw0 (pick_d (m := most) h0 (by omega)) hn hb (by omega) fun v2 c2 ⟨v, e2, a2, b2⟩ B2 => ?_)
  subst e2
  obtain ⟨d, hd⟩ : ∃ d : Nat, 1 + v = (d : Int) := ⟨(1 + v).toNat, by omega⟩
  simp! [bnd_bnd, hd, rngK1_n (show d ≤ 1000000 by omega)]
  refine wpf_bnd (wp_lcFin (wp_lc (I := fun i acc S => ∃ (c' : Cell) (ls : List (List Int)), acc = lvD ls ∧ ls.length = i ∧ Lvs ls ∧ S = ⟨[some (.r n), some (.p (.int most)), none], st.set n c'⟩ ∧ BagC c' (C + 1 + 4 * i)) ?_ ?_ ?_ ?_ ?_))
  · exact ⟨c2, [], rfl, rfl, fun _ h => by simp at h, rfl, B2⟩
  · intros; trivial
  · rw [Dd.intsFrom_length]; omega
  · rintro i q acc S hi hla ⟨c', ls, rfl, hl, hp, rfl, B⟩
    have hid := (intsFrom_at hi).2
    simp! [bnd_bnd]
    refine wp_bnd (wp_draw0 level_d hn B (by omega) fun v3 c3 ⟨lv, e3, hlv⟩ B3 => ?_); subst e3
    simp! [bnd_bnd]
    refine wp_ok ⟨c3, ls ++ [lv], by unfold lvD; rw [List.map_append]; rfl, by rw [List.length_append, hl]; rfl, ?_, rfl, BagC.mono B3 (by omega)⟩
    intro z hz
    rcases List.mem_append.mp hz with hz | hz
    · exact hp z hz
    · rw [List.mem_singleton.mp hz]; exact hlv
  · rintro acc S ⟨c', ls, rfl, hl, hp, rfl, B⟩
    rw [Dd.intsFrom_length] at hl B
    refine ⟨by rw [lvD_len]; omega, ?_⟩
    simp! [bnd_bnd]
    rw [finishR_mu (o := .lst (lvD ls)) (by simp) (by simp), take_set_app]
    exact wpf_ok ⟨_, c', rfl, rfl, ⟨ls, rfl, ⟨by omega, by omega, hp⟩, by omega⟩, BagC.mono B (by omega)⟩
end Lib

set_option Elab.async false
set_option linter.all false
set_option maxRecDepth 100000
set_option maxHeartbeats 4000000
namespace K39
open PySem PySem.Spec PyProof.Rows L2 Dd Lib
noncomputable def b_law : M Fl :=
    (sSq (sFor (itL (bin opAdd (slE (vr 0) opt0 (opt1 (ci 8))) (lstE (aC (ci 0) aN)))) (gN 1) (sSq (sSet 2 (callM s_z_law_bag 1 (aC (vr 1) aN)))
    (sFor (itL (tupE (aC (ci 1) (aC (ci 3) (aC (ci 50) aN))))) (gN 3) (sSq (sSet 4 (pur (callM s_z_law_levels_v2 2 (aC (vr 2) (aC (vr 3) aN)))))
    (sSq (sPar 5 6 (aC (pur (opA (op1 opList) (aC (vr 4) aN))) (aC (pur (makeU 0 s_Screen___init 2 (aC (vr 4) aN))) aN)))
    (sSq (sSet 7 (pur (callM s_z_law_text 1 (aC (vr 4) aN))))
    (sSq (sIf (mOr (tst (bin opNeD (callM s_show_screen 1 (aC (vr 6) aN)) (vr 7))) (mOr (mNot (tst (bin (opEqU 0 s_Screen___eq) (pur (callM s_read_screen 1 (aC (vr 7) aN))) (vr 6)))) (tst (bin opNeD (vr 4) (vr 5))))) (sRt (cb false)) sNx)
    (sSq (sSet 8 (propU 0 s_Screen_levels (pur (callM s_read_screen 1 (aC (vr 7) aN)))))
    (sSq (sIf (mOr (tst (bin opNeD (vr 8) (vr 5))) (tst (bin opNeD (callM s_show_screen 1 (aC (pur (callM s_read_screen 1 (aC (vr 7) aN))) aN)) (vr 7)))) (sRt (cb false)) sNx)
    (sSq (sEx (methM isLst opApp (vr 8) (aC (tupE (aC (ci 0) (aC (ci 1) (aC (ci 2) (aC (ci 3) aN))))) aN)))
    (sIf (mOr (tst (bin opNeD (propU 0 s_Screen_levels (pur (callM s_read_screen 1 (aC (vr 7) aN)))) (vr 5))) (tst (bin opNeD (propU 0 s_Screen_levels (vr 6)) (vr 5)))) (sRt (cb false)) sNx)))))))))))
    (sRt (bin opEqD (lstE (aC (callM s_show_screen 1 (aC (pur (makeU 0 s_Screen___init 2 (aC (pur (lstE (aC (tupE (aC (ci 3) (aC (ci 2) (aC (ci 1) (aC (ci 0) aN))))) aN))) aN))) aN)) (aC (propU 0 s_Screen_levels (pur (callM s_read_screen 1 (aC (cs "0231 0231") aN)))) aN))) (lstE (aC (cs "3210") (aC (bin opMul (lstE (aC (tupE (aC (ci 0) (aC (ci 2) (aC (ci 3) (aC (ci 1) aN))))) aN)) (ci 2)) aN))))))
noncomputable def s_law : Fn := runF 9 b_law
end K39

set_option Elab.async false
set_option linter.all false
set_option maxRecDepth 100000
set_option maxHeartbeats 4000000
namespace K39
open PySem PySem.Spec PyProof.Rows L2 Dd Lib
def top (i : Nat) : Stmt := PySem.Challenge.pw_ditherdepths_k39_screens_shown_and_read.main.body.getD i (.Pass ⟨0, 0, 0, 0⟩)
structure Fx (K : PySem.W.Frag) (mg : Str → Option Value) (cls A : Nat → Addr) (FD : Nat → FuncData) : Prop where
  f_z_law_bag : Fun K "_law_bag" "_law_bag" (top 18) (A 0) (FD 0)
  b_z_law_bag : Binds K (FD 0) ["cell"] []
  m_z_law_bag : mg "_law_bag" = some (.ref (A 0))
  f_z_law_pick : Fun K "_law_pick" "_law_pick" (top 19) (A 1) (FD 1)
  b_z_law_pick : Binds K (FD 1) ["bag", "many"] []
  m_z_law_pick : mg "_law_pick" = some (.ref (A 1))
  f_z_law_level : Fun K "_law_level" "_law_level" (top 20) (A 2) (FD 2)
  b_z_law_level : Binds K (FD 2) ["bag"] []
  m_z_law_level : mg "_law_level" = some (.ref (A 2))
  f_z_law_levels_v2 : Fun K "_law_levels" "_law_levels" (top 21) (A 3) (FD 3)
  b_z_law_levels_v2 : Binds K (FD 3) ["bag", "most"] []
  m_z_law_levels_v2 : mg "_law_levels" = some (.ref (A 3))
  f_z_law_text : Fun K "_law_text" "_law_text" (top 24) (A 4) (FD 4)
  b_z_law_text : Binds K (FD 4) ["levels"] []
  m_z_law_text : mg "_law_text" = some (.ref (A 4))
  f_Screen_levels : Fun K "levels" "Screen.levels" (inClass (top 12) 2) (A 5) (FD 5)
  b_Screen_levels : Binds K (FD 5) ["self"] []
  p_Screen_levels : ∃ pA, PropOf K (cls 0) "levels" pA (A 5)
  f_require_screen : Fun K "require_screen" "require_screen" (top 10) (A 6) (FD 6)
  b_require_screen : Binds K (FD 6) ["value"] []
  m_require_screen : mg "require_screen" = some (.ref (A 6))
  f_show_screen : Fun K "show_screen" "show_screen" (top 15) (A 7) (FD 7)
  b_show_screen : Binds K (FD 7) ["screen"] []
  m_show_screen : mg "show_screen" = some (.ref (A 7))
  f_is_int : Fun K "is_int" "is_int" (top 2) (A 8) (FD 8)
  b_is_int : Binds K (FD 8) ["value"] []
  m_is_int : mg "is_int" = some (.ref (A 8))
  f_is_level : Fun K "is_level" "is_level" (top 11) (A 9) (FD 9)
  b_is_level : Binds K (FD 9) ["value"] []
  m_is_level : mg "is_level" = some (.ref (A 9))
  f_Screen___init : Fun K "__init__" "Screen.__init__" (inClass (top 12) 0) (A 10) (FD 10)
  b_Screen___init : Binds K (FD 10) ["self", "levels"] []
  mk0 : Mk K (cls 0) (A 10)
  f_read_screen : Fun K "read_screen" "read_screen" (top 16) (A 11) (FD 11)
  b_read_screen : Binds K (FD 11) ["text"] []
  m_read_screen : mg "read_screen" = some (.ref (A 11))
  f_Screen___eq : Fun K "__eq__" "Screen.__eq__" (inClass (top 12) 1) (A 12) (FD 12)
  b_Screen___eq : Binds K (FD 12) ["self", "other"] []
  h_Screen___eq : Meth K (cls 0) "__eq__" (A 12)
  f_law : Fun K "law" "law" (top 25) (A 13) (FD 13)
  b_law : Binds K (FD 13) ["script"] []
  m_law : mg "law" = some (.ref (A 13))
  cf0 : ClsF K (cls 0)
  c0 : mg "Screen" = some (.ref (cls 0))
  na_own_levels : NoAttr K (cls 0) "own_levels"
  n_all : mg "all" = none
  n_bool : mg "bool" = none
  n_enumerate : mg "enumerate" = none
  n_int : mg "int" = none
  n_isinstance : mg "isinstance" = none
  n_len : mg "len" = none
  n_list : mg "list" = none
  n_max : mg "max" = none
  n_range : mg "range" = none
  n_sorted : mg "sorted" = none
  n_str : mg "str" = none
  n_tuple : mg "tuple" = none
  k_MOST_LEVELS_screens : ∃ t, mg "MOST_LEVELS_screens" = some (.int 50 t)
  k_MOST_LEVELS_texts : ∃ t, mg "MOST_LEVELS_texts" = some (.int 50 t)
section
variable {P : Program} {w : World} {K : PySem.W.Frag} {mg : Str → Option Value} {base : Heap} {cls A : Nat → Addr} {FD : Nat → FuncData}
theorem sc_z_law_bag : FnScope ["cell"] ["cell"] (defScope (top 18)) := ⟨rfl, rfl, rfl, by decide +kernel, rfl, by decide +kernel, by decide +kernel⟩
theorem ok_z_law_bag (T : Fx K mg cls A FD) : FnG P w K mg base 1 (A 0) (FD 0) ["cell"] (spF (⟨K, cls⟩ : Cg) 1 s_z_law_bag) :=
  fn_ok (N := ["cell"]) (ps := ["cell"]) (k := 0) (h := b_z_law_bag) T.f_z_law_bag sc_z_law_bag fun cdv A0 outer s0 H0 E0 hG hr tk =>
    (sss_one (ss_ret (se_lst (sa_cons (e_max2 rfl T.n_max se_int (e_sub (v_ 0) (e_pow se_int se_int))) (sa_cons (v_ 0) (sa_cons se_int sa_nil))))))

theorem sc_z_law_pick : FnScope ["bag", "many", "told", "seed", "turn", "first", "second", "drawn"] ["bag", "many"] (defScope (top 19)) := ⟨rfl, rfl, rfl, by decide +kernel, rfl, by decide +kernel, by decide +kernel⟩
theorem ok_z_law_pick (T : Fx K mg cls A FD) : FnG P w K mg base 1 (A 1) (FD 1) ["bag", "many"] (spF (⟨K, cls⟩ : Cg) 2 s_z_law_pick) :=
  fn_ok (N := ["bag", "many", "told", "seed", "turn", "first", "second", "drawn"]) (ps := ["bag", "many"]) (k := 0) (h := b_z_law_pick) T.f_z_law_pick sc_z_law_pick fun cdv A0 outer s0 H0 E0 hG hr tk =>
    (sss_cons (ss_sub (e_add (se_ix rfl (v_ 0) se_int) se_int) (v_ 0) se_int)
    (sss_cons (ss_if (t_gt (se_ix rfl (v_ 0) se_int) se_int) (sss_cons (ss_set sc_z_law_pick.nd (i := 2) rfl (Or.inl rfl) (e_mod (e_int T.n_int (se_ix rfl (v_ 0) se_int)) (v_ 1)))
    (sss_cons (ss_sub (e_div (e_int T.n_int (se_ix rfl (v_ 0) se_int)) (v_ 1)) (v_ 0) se_int)
    (sss_one (ss_ret (v_ 2))))) sss_nil)
    (sss_cons (ss_par rfl sc_z_law_pick.nd (i := 3) (j := 4) rfl rfl (by decide) rfl rfl (sa_cons (e_int T.n_int (se_ix rfl (v_ 0) se_int)) (sa_cons (e_int T.n_int (se_ix rfl (v_ 0) se_int)) sa_nil)) rfl)
    (sss_cons (ss_set sc_z_law_pick.nd (i := 5) rfl (Or.inl rfl) (e_mod (e_int T.n_int (e_add (e_add (e_mul (e_mod (v_ 3) se_int) se_int) (e_mul (v_ 4) se_int)) se_int)) se_int))
    (sss_cons (ss_set sc_z_law_pick.nd (i := 6) rfl (Or.inl rfl) (e_mod (e_int T.n_int (e_add (e_mul (v_ 5) (v_ 5)) (e_mul (v_ 4) se_int))) se_int))
    (sss_cons (ss_set sc_z_law_pick.nd (i := 7) rfl (Or.inl rfl) (e_div (e_int T.n_int (e_add (e_mul (v_ 5) se_int) (v_ 6))) se_int))
    (sss_cons (ss_if (t_gt (v_ 1) (e_pow se_int se_int)) (sss_one (ss_set sc_z_law_pick.nd (i := 7) rfl (Or.inl rfl) (e_add (e_pow (v_ 7) se_int) (v_ 6)))) sss_nil)
    (sss_one (ss_ret (e_mod (e_int T.n_int (v_ 7)) (v_ 1)))))))))))

theorem sc_z_law_level : FnScope ["bag", "left", "found", "turn"] ["bag"] (defScope (top 20)) := ⟨rfl, rfl, rfl, by decide +kernel, rfl, by decide +kernel, by decide +kernel⟩
theorem ok_z_law_level (T : Fx K mg cls A FD) : FnG P w K mg base 2 (A 2) (FD 2) ["bag"] (spF (⟨K, cls⟩ : Cg) 1 s_z_law_level) :=
  fn_ok (N := ["bag", "left", "found", "turn"]) (ps := ["bag"]) (k := 1) (h := b_z_law_level) T.f_z_law_level sc_z_law_level fun cdv A0 outer s0 H0 E0 hG hr tk =>
    (sss_cons (ss_par rfl sc_z_law_level.nd (i := 1) (j := 2) rfl rfl (by decide) rfl rfl (sa_cons (se_lst (sa_cons se_int (sa_cons se_int (sa_cons se_int (sa_cons se_int sa_nil))))) (sa_cons (se_lst sa_nil) sa_nil)) rfl)
    (sss_cons (ss_for (passes_of rfl) rfl (si_range1 (by rfl) T.n_range (sa_cons se_int sa_nil)) (sg_name sc_z_law_level.nd (i := 3) rfl (Or.inl rfl)) gN_noexc (sss_one (ss_expr (e_app rfl (v_ 2) (e_popAt rfl (v_ 1) (se_call (ok_z_law_pick T) hG (hr.mono (by omega)) (by rfl) T.m_z_law_pick T.f_z_law_pick.kp T.b_z_law_pick tk (sa_cons (v_ 0) (sa_cons (e_len rfl T.n_len (v_ 1)) sa_nil))))))))
    (sss_one (ss_ret (e_tuple rfl T.n_tuple (v_ 2))))))

theorem sc_z_law_levels_v2 : FnScope ["bag", "most", "turn"] ["bag", "most"] (defScope (top 21)) := ⟨rfl, rfl, rfl, by decide +kernel, rfl, by decide +kernel, by decide +kernel⟩
theorem ok_z_law_levels_v2 (T : Fx K mg cls A FD) : FnG P w K mg base 3 (A 3) (FD 3) ["bag", "most"] (spF (⟨K, cls⟩ : Cg) 2 s_z_law_levels_v2) :=
  fn_ok (N := ["bag", "most", "turn"]) (ps := ["bag", "most"]) (k := 2) (h := b_z_law_levels_v2) T.f_z_law_levels_v2 sc_z_law_levels_v2 fun cdv A0 outer s0 H0 E0 hG hr tk =>
    (sss_one (ss_ret (lc1_ (by rfl) rfl sc_z_law_levels_v2.nd (si_range1 (by rfl) T.n_range (sa_cons (e_add se_int (se_call (ok_z_law_pick T) hG (hr.mono (by omega)) (by rfl) T.m_z_law_pick T.f_z_law_pick.kp T.b_z_law_pick tk (sa_cons (v_ 0) (sa_cons (v_ 1) sa_nil)))) sa_nil)) (blkOk_by (own := [("turn", 2)]) (by rfl)) (by decide) (fun _ _ _ _ _ => (pg_name (i := 2) sc_z_law_levels_v2.nd rfl (Or.inl rfl))) (fun _ _ _ _ _ => sts_nil) (fun _ _ _ _ _ => (se_call (ok_z_law_level T) hG (hr.mono (by omega)) (by rfl) T.m_z_law_level T.f_z_law_level.kp T.b_z_law_level takesW0 (sa_cons (v_ 0) sa_nil))))))

theorem sc_z_law_text : FnScope ["levels", "level", "number"] ["levels"] (defScope (top 24)) := ⟨rfl, rfl, rfl, by decide +kernel, rfl, by decide +kernel, by decide +kernel⟩
theorem ok_z_law_text (T : Fx K mg cls A FD) : FnG P w K mg base 1 (A 4) (FD 4) ["levels"] (spF (⟨K, cls⟩ : Cg) 1 s_z_law_text) :=
  fn_ok (N := ["levels", "level", "number"]) (ps := ["levels"]) (k := 0) (h := b_z_law_text) T.f_z_law_text sc_z_law_text fun cdv A0 outer s0 H0 E0 hG hr tk =>
    (sss_one (ss_ret (e_join rfl se_str (lc1_ (by rfl) rfl sc_z_law_text.nd (si_seq rfl (v_ 0)) (blkOk_by (own := [("level", 1)]) (by rfl)) (by decide) (fun _ _ _ _ _ => (pg_name (i := 1) sc_z_law_text.nd rfl (Or.inl rfl))) (fun _ _ _ _ _ => sts_nil) (fun _ _ _ _ _ => (e_join rfl se_str (lc1_ (by rfl) rfl sc_z_law_text.nd (si_seq rfl (v_ 1)) (blkOk_by (own := [("number", 2)]) (by rfl)) (by decide) (fun _ _ _ _ _ => (pg_name (i := 2) sc_z_law_text.nd rfl (Or.inl rfl))) (fun _ _ _ _ _ => sts_nil) (fun _ _ _ _ _ => (e_strI T.n_str (v_ 2))))))))))

theorem sc_Screen_levels : FnScope ["self"] ["self"] (defScope (inClass (top 12) 2)) := ⟨rfl, rfl, rfl, by decide +kernel, rfl, by decide +kernel, by decide +kernel⟩
theorem ok_Screen_levels (T : Fx K mg cls A FD) : FnG P w K mg base 1 (A 5) (FD 5) ["self"] (spF (⟨K, cls⟩ : Cg) 1 s_Screen_levels) :=
  fn_ok (N := ["self"]) (ps := ["self"]) (k := 0) (h := b_Screen_levels) T.f_Screen_levels sc_Screen_levels fun cdv A0 outer s0 H0 E0 hG hr tk =>
    (sss_one (ss_ret (e_list rfl rfl T.n_list (se_attr rfl (v_ 0) T.cf0.cl T.na_own_levels))))

theorem sc_require_screen : FnScope ["value"] ["value"] (defScope (top 10)) := ⟨rfl, rfl, rfl, by decide +kernel, rfl, by decide +kernel, by decide +kernel⟩
theorem ok_require_screen (T : Fx K mg cls A FD) : FnG P w K mg base 1 (A 6) (FD 6) ["value"] (spF (⟨K, cls⟩ : Cg) 1 s_require_screen) :=
  fn_ok (N := ["value"]) (ps := ["value"]) (k := 0) (h := b_require_screen) T.f_require_screen sc_require_screen fun cdv A0 outer s0 H0 E0 hG hr tk =>
    (sss_one (ss_if (st_not (st_val (e_isC "Screen" T.cf0 T.n_isinstance T.c0 rfl (v_ 0)))) (sss_one ss_bad) sss_nil))

theorem sc_show_screen : FnScope ["screen", "level", "digit"] ["screen"] (defScope (top 15)) := ⟨rfl, rfl, rfl, by decide +kernel, rfl, by decide +kernel, by decide +kernel⟩
theorem ok_show_screen (T : Fx K mg cls A FD) : FnG P w K mg base 3 (A 7) (FD 7) ["screen"] (spF (⟨K, cls⟩ : Cg) 1 s_show_screen) :=
  fn_ok (N := ["screen", "level", "digit"]) (ps := ["screen"]) (k := 2) (h := b_show_screen) T.f_show_screen sc_show_screen fun cdv A0 outer s0 H0 E0 hG hr tk =>
    (sss_cons (ss_expr (se_call (ok_require_screen T) hG (hr.mono (by omega)) (by rfl) T.m_require_screen T.f_require_screen.kp T.b_require_screen tk (sa_cons (v_ 0) sa_nil)))
    (sss_one (ss_ret (e_join rfl se_str (lc1_ (by rfl) rfl sc_show_screen.nd (si_seq rfl (T.p_Screen_levels.elim fun _ h => se_prop (v_ 0) T.cf0.cl h (ok_Screen_levels T) hG (hr.mono (by omega)) T.b_Screen_levels)) (blkOk_by (own := [("level", 1)]) (by rfl)) (by decide) (fun _ _ _ _ _ => (pg_name (i := 1) sc_show_screen.nd rfl (Or.inl rfl))) (fun _ _ _ _ _ => sts_nil) (fun _ _ _ _ _ => (e_join rfl se_str (lc1_ (by rfl) rfl sc_show_screen.nd (si_seq rfl (v_ 1)) (blkOk_by (own := [("digit", 2)]) (by rfl)) (by decide) (fun _ _ _ _ _ => (pg_name (i := 2) sc_show_screen.nd rfl (Or.inl rfl))) (fun _ _ _ _ _ => sts_nil) (fun _ _ _ _ _ => (e_strI T.n_str (v_ 2)))))))))))

theorem sc_is_int : FnScope ["value"] ["value"] (defScope (top 2)) := ⟨rfl, rfl, rfl, by decide +kernel, rfl, by decide +kernel, by decide +kernel⟩
theorem ok_is_int (T : Fx K mg cls A FD) : FnG P w K mg base 1 (A 8) (FD 8) ["value"] (spF (⟨K, cls⟩ : Cg) 1 s_is_int) :=
  fn_ok (N := ["value"]) (ps := ["value"]) (k := 0) (h := b_is_int) T.f_is_int sc_is_int fun cdv A0 outer s0 H0 E0 hG hr tk =>
    (sss_one (ss_ret (se_and (e_isB "int" (by decide) T.cf0 T.n_isinstance T.n_int (by decide +kernel) rfl (v_ 0)) (se_one (se_not (e_isB "bool" (by decide) T.cf0 T.n_isinstance T.n_bool (by decide +kernel) rfl (v_ 0)))))))

theorem sc_is_level : FnScope ["value", "number"] ["value"] (defScope (top 11)) := ⟨rfl, rfl, rfl, by decide +kernel, rfl, by decide +kernel, by decide +kernel⟩
theorem ok_is_level (T : Fx K mg cls A FD) : FnG P w K mg base 2 (A 9) (FD 9) ["value"] (spF (⟨K, cls⟩ : Cg) 1 s_is_level) :=
  fn_ok (N := ["value", "number"]) (ps := ["value"]) (k := 1) (h := b_is_level) T.f_is_level sc_is_level fun cdv A0 outer s0 H0 E0 hG hr tk =>
    (sss_cons (ss_if (st_bool (sw_or (st_not (st_val (e_isB "tuple" (by decide) T.cf0 T.n_isinstance T.n_tuple (by decide +kernel) rfl (v_ 0)))) (sw_or (t_ne hr rfl (e_len rfl T.n_len (v_ 0)) se_int) (sw_or1 (st_not (st_val (e_all rfl rfl T.n_all (lc1_ (by rfl) rfl sc_is_level.nd (si_seq rfl (v_ 0)) (blkOk_by (own := [("number", 1)]) (by rfl)) (by decide) (fun _ _ _ _ _ => (pg_name (i := 1) sc_is_level.nd rfl (Or.inl rfl))) (fun _ _ _ _ _ => sts_nil) (fun _ _ _ _ _ => (se_call (ok_is_int T) hG (hr.mono (by omega)) (by rfl) T.m_is_int T.f_is_int.kp T.b_is_int takesW0 (sa_cons (v_ 1) sa_nil))))))))))) (sss_one (ss_ret se_bl)) sss_nil)
    (sss_one (ss_ret (e_eq hr rfl (e_sorted rfl T.n_sorted (v_ 0)) (se_lst (sa_cons se_int (sa_cons se_int (sa_cons se_int (sa_cons se_int sa_nil)))))))))

theorem sc_Screen___init : FnScope ["self", "levels", "spot", "level"] ["self", "levels"] (defScope (inClass (top 12) 0)) := ⟨rfl, rfl, rfl, by decide +kernel, rfl, by decide +kernel, by decide +kernel⟩
theorem ok_Screen___init (T : Fx K mg cls A FD) : FnG P w K mg base 3 (A 10) (FD 10) ["self", "levels"] (spF (⟨K, cls⟩ : Cg) 2 s_Screen___init) :=
  fn_ok (N := ["self", "levels", "spot", "level"]) (ps := ["self", "levels"]) (k := 2) (h := b_Screen___init) T.f_Screen___init sc_Screen___init fun cdv A0 outer s0 H0 E0 hG hr tk =>
    (sss_cons (ss_if (st_bool (sw_or (st_not (st_val (e_isB "list" (by decide) T.cf0 T.n_isinstance T.n_list (by decide +kernel) rfl (v_ 1)))) (sw_or1 (st_not (st_chain op_le op_le (od_I0 fun _ _ _ => repB) (od_I0 fun _ _ _ => repB) se_int (e_len rfl T.n_len (v_ 1)) (T.k_MOST_LEVELS_screens.elim fun _ h => e_gI h)))))) (sss_one ss_bad) sss_nil)
    (sss_cons (ss_forT (n := 2) (passes_of rfl) rfl rfl (si_enum rfl (by rfl) T.n_enumerate (v_ 1)) (sgs_cons (sg_name sc_Screen___init.nd (i := 2) rfl (Or.inl rfl)) (sgs_cons (sg_name sc_Screen___init.nd (i := 3) rfl (Or.inl rfl)) sgs_nil)) (gsC_noexc gN_noexc (gsC_noexc gN_noexc gsN_noexc)) (sss_one (ss_if (st_not (st_val (se_call (ok_is_level T) hG (hr.mono (by omega)) (by rfl) T.m_is_level T.f_is_level.kp T.b_is_level tk (sa_cons (v_ 3) sa_nil)))) (sss_one ss_bad) sss_nil)) (gsC_len gN_noexc (gsC_len gN_noexc gsN_len)))
    (sss_one (ss_fld (e_tuple rfl T.n_tuple (v_ 1)) (v_ 0) T.cf0.cl T.na_own_levels))))

theorem sc_read_screen : FnScope ["text", "levels", "index", "part", "sign"] ["text"] (defScope (top 16)) := ⟨rfl, rfl, rfl, by decide +kernel, rfl, by decide +kernel, by decide +kernel⟩
theorem ok_read_screen (T : Fx K mg cls A FD) : FnG P w K mg base 5 (A 11) (FD 11) ["text"] (spF (⟨K, cls⟩ : Cg) 1 s_read_screen) :=
  fn_ok (N := ["text", "levels", "index", "part", "sign"]) (ps := ["text"]) (k := 4) (h := b_read_screen) T.f_read_screen sc_read_screen fun cdv A0 outer s0 H0 E0 hG hr tk =>
    (sss_cons (ss_if (st_not (st_val (e_isB "str" (by decide) T.cf0 T.n_isinstance T.n_str (by decide +kernel) rfl (v_ 0)))) (sss_one ss_bad) sss_nil)
    (sss_cons (ss_set sc_read_screen.nd (i := 1) rfl (Or.inl rfl) (se_lst sa_nil))
    (sss_cons (ss_forT (n := 2) (passes_of rfl) rfl rfl (si_enum rfl (by rfl) T.n_enumerate (e_split (v_ 0) se_str)) (sgs_cons (sg_name sc_read_screen.nd (i := 2) rfl (Or.inl rfl)) (sgs_cons (sg_name sc_read_screen.nd (i := 3) rfl (Or.inl rfl)) sgs_nil)) (gsC_noexc gN_noexc (gsC_noexc gN_noexc gsN_noexc)) (sss_cons (ss_if (t_ne hr rfl (e_sortedS rfl T.n_sorted (v_ 3)) (se_lst (sa_cons se_str (sa_cons se_str (sa_cons se_str (sa_cons se_str sa_nil)))))) (sss_one ss_bad) sss_nil)
    (sss_one (ss_expr (e_app rfl (v_ 1) (e_tuple rfl T.n_tuple (lc1_ (by rfl) rfl sc_read_screen.nd (si_str (v_ 3)) (blkOk_by (own := [("sign", 4)]) (by rfl)) (by decide) (fun _ _ _ _ _ => (pg_name (i := 4) sc_read_screen.nd rfl (Or.inl rfl))) (fun _ _ _ _ _ => sts_nil) (fun _ _ _ _ _ => (e_intS T.n_int (v_ 4))))))))) (gsC_len gN_noexc (gsC_len gN_noexc gsN_len)))
    (sss_cons (ss_if (t_gt (e_len rfl T.n_len (v_ 1)) (T.k_MOST_LEVELS_texts.elim fun _ h => e_gI h)) (sss_one ss_bad) sss_nil)
    (sss_one (ss_ret (se_make T.mk0 (ok_Screen___init T) hG (hr.mono (by omega)) (by rfl) T.c0 T.b_Screen___init tk (sa_cons (se_pur (v_ 1)) sa_nil))))))))

theorem sc_Screen___eq : FnScope ["self", "other"] ["self", "other"] (defScope (inClass (top 12) 1)) := ⟨rfl, rfl, rfl, by decide +kernel, rfl, by decide +kernel, by decide +kernel⟩
theorem ok_Screen___eq (T : Fx K mg cls A FD) : FnG P w K mg base 1 (A 12) (FD 12) ["self", "other"] (spF (⟨K, cls⟩ : Cg) 2 s_Screen___eq) :=
  fn_ok (N := ["self", "other"]) (ps := ["self", "other"]) (k := 0) (h := b_Screen___eq) T.f_Screen___eq sc_Screen___eq fun cdv A0 outer s0 H0 E0 hG hr tk =>
    (sss_one (ss_ret (se_and (e_isC "Screen" T.cf0 T.n_isinstance T.c0 rfl (v_ 1)) (se_one (e_eq hr rfl (se_attr rfl (v_ 0) T.cf0.cl T.na_own_levels) (se_attr rfl (v_ 1) T.cf0.cl T.na_own_levels))))))

theorem sc_law : FnScope ["script", "cell", "bag", "most", "levels", "kept", "screen", "text", "told"] ["script"] (defScope (top 25)) := ⟨rfl, rfl, rfl, by decide +kernel, rfl, by decide +kernel, by decide +kernel⟩
theorem ok_law (T : Fx K mg cls A FD) : FnG P w K mg base 6 (A 13) (FD 13) ["script"] (spF (⟨K, cls⟩ : Cg) 1 s_law) :=
  fn_ok (N := ["script", "cell", "bag", "most", "levels", "kept", "screen", "text", "told"]) (ps := ["script"]) (k := 5) (h := b_law) T.f_law sc_law fun cdv A0 outer s0 H0 E0 hG hr tk =>
    (sss_cons (ss_for (passes_of rfl) rfl (si_seq rfl (e_add (se_sl rfl (v_ 0) so_none (so_some se_int)) (se_lst (sa_cons se_int sa_nil)))) (sg_name sc_law.nd (i := 1) rfl (Or.inl rfl)) gN_noexc (sss_cons (ss_set sc_law.nd (i := 2) rfl (Or.inl rfl) (se_call (ok_z_law_bag T) hG (hr.mono (by omega)) (by rfl) T.m_z_law_bag T.f_z_law_bag.kp T.b_z_law_bag tk (sa_cons (v_ 1) sa_nil)))
    (sss_one (ss_for (passes_of rfl) rfl (si_seq rfl (se_tup (sa_cons se_int (sa_cons se_int (sa_cons se_int sa_nil))))) (sg_name sc_law.nd (i := 3) rfl (Or.inl rfl)) gN_noexc (sss_cons (ss_set sc_law.nd (i := 4) rfl (Or.inl rfl) (se_pur (se_call (ok_z_law_levels_v2 T) hG (hr.mono (by omega)) (by rfl) T.m_z_law_levels_v2 T.f_z_law_levels_v2.kp T.b_z_law_levels_v2 tk (sa_cons (v_ 2) (sa_cons (v_ 3) sa_nil)))))
    (sss_cons (ss_par rfl sc_law.nd (i := 5) (j := 6) rfl rfl (by decide) rfl rfl (sa_cons (se_pur (e_list rfl rfl T.n_list (v_ 4))) (sa_cons (se_pur (se_make T.mk0 (ok_Screen___init T) hG (hr.mono (by omega)) (by rfl) T.c0 T.b_Screen___init tk (sa_cons (v_ 4) sa_nil))) sa_nil)) rfl)
    (sss_cons (ss_set sc_law.nd (i := 7) rfl (Or.inl rfl) (se_pur (se_call (ok_z_law_text T) hG (hr.mono (by omega)) (by rfl) T.m_z_law_text T.f_z_law_text.kp T.b_z_law_text tk (sa_cons (v_ 4) sa_nil))))
    (sss_cons (ss_if (st_bool (sw_or (t_ne hr rfl (se_call (ok_show_screen T) hG (hr.mono (by omega)) (by rfl) T.m_show_screen T.f_show_screen.kp T.b_show_screen tk (sa_cons (v_ 6) sa_nil)) (v_ 7)) (sw_or (st_not (t_eqU rfl T.cf0 T.h_Screen___eq (ok_Screen___eq T) hG (hr.mono (by omega)) T.b_Screen___eq (se_pur (se_call (ok_read_screen T) hG (hr.mono (by omega)) (by rfl) T.m_read_screen T.f_read_screen.kp T.b_read_screen tk (sa_cons (v_ 7) sa_nil))) (v_ 6))) (sw_or1 (t_ne hr rfl (v_ 4) (v_ 5)))))) (sss_one (ss_ret se_bl)) sss_nil)
    (sss_cons (ss_set sc_law.nd (i := 8) rfl (Or.inl rfl) (T.p_Screen_levels.elim fun _ h => se_prop (se_pur (se_call (ok_read_screen T) hG (hr.mono (by omega)) (by rfl) T.m_read_screen T.f_read_screen.kp T.b_read_screen tk (sa_cons (v_ 7) sa_nil))) T.cf0.cl h (ok_Screen_levels T) hG (hr.mono (by omega)) T.b_Screen_levels))
    (sss_cons (ss_if (st_bool (sw_or (t_ne hr rfl (v_ 8) (v_ 5)) (sw_or1 (t_ne hr rfl (se_call (ok_show_screen T) hG (hr.mono (by omega)) (by rfl) T.m_show_screen T.f_show_screen.kp T.b_show_screen tk (sa_cons (se_pur (se_call (ok_read_screen T) hG (hr.mono (by omega)) (by rfl) T.m_read_screen T.f_read_screen.kp T.b_read_screen tk (sa_cons (v_ 7) sa_nil))) sa_nil)) (v_ 7))))) (sss_one (ss_ret se_bl)) sss_nil)
    (sss_cons (ss_expr (e_app rfl (v_ 8) (se_tup (sa_cons se_int (sa_cons se_int (sa_cons se_int (sa_cons se_int sa_nil)))))))
    (sss_one (ss_if (st_bool (sw_or (t_ne hr rfl (T.p_Screen_levels.elim fun _ h => se_prop (se_pur (se_call (ok_read_screen T) hG (hr.mono (by omega)) (by rfl) T.m_read_screen T.f_read_screen.kp T.b_read_screen tk (sa_cons (v_ 7) sa_nil))) T.cf0.cl h (ok_Screen_levels T) hG (hr.mono (by omega)) T.b_Screen_levels) (v_ 5)) (sw_or1 (t_ne hr rfl (T.p_Screen_levels.elim fun _ h => se_prop (v_ 6) T.cf0.cl h (ok_Screen_levels T) hG (hr.mono (by omega)) T.b_Screen_levels) (v_ 5))))) (sss_one (ss_ret se_bl)) sss_nil)))))))))))))
    (sss_one (ss_ret (e_eq hr rfl (se_lst (sa_cons (se_call (ok_show_screen T) hG (hr.mono (by omega)) (by rfl) T.m_show_screen T.f_show_screen.kp T.b_show_screen tk (sa_cons (se_pur (se_make T.mk0 (ok_Screen___init T) hG (hr.mono (by omega)) (by rfl) T.c0 T.b_Screen___init tk (sa_cons (se_pur (se_lst (sa_cons (se_tup (sa_cons se_int (sa_cons se_int (sa_cons se_int (sa_cons se_int sa_nil))))) sa_nil))) sa_nil))) sa_nil)) (sa_cons (T.p_Screen_levels.elim fun _ h => se_prop (se_pur (se_call (ok_read_screen T) hG (hr.mono (by omega)) (by rfl) T.m_read_screen T.f_read_screen.kp T.b_read_screen tk (sa_cons se_str sa_nil))) T.cf0.cl h (ok_Screen_levels T) hG (hr.mono (by omega)) T.b_Screen_levels) sa_nil))) (se_lst (sa_cons se_str (sa_cons (e_mul (se_lst (sa_cons (se_tup (sa_cons se_int (sa_cons se_int (sa_cons se_int (sa_cons se_int sa_nil))))) sa_nil)) se_int) sa_nil)))))))
end
end K39

set_option Elab.async false
set_option linter.all false
set_option maxRecDepth 100000
set_option exponentiation.threshold 2000
namespace K39
open PySem PySem.Spec PyProof.Rows L2 Dd Lib
theorem tx_ok {ls : List (List Int)} (lok : LvOk ls) : PyData.strOk (tx ls) = true := by
  obtain ⟨d1, d2, hp⟩ := lok
  have go : ∀ ls : List (List Int), Lvs ls → ∀ n ∈ TL.joinL [32] ((ls.map lvS).map TL.tl), n < 100 := fun ls => by
    induction ls with
    | nil => intro _ n h; simp [TL.joinL] at h
    | cons l r ih =>
      intro hp n h
      have ih := ih fun z hz => hp z (by simp [hz])
      have hl : ∀ n ∈ TL.tl (lvS l), n < 100 := fun n h => by
        have h : n ∈ (l.map fun n => (48 + n).toNat) := h
        obtain ⟨m, hm, rfl⟩ := List.mem_map.mp h
        have := (hp l (by simp)).mem_iff.mp hm
        simp only [List.mem_cons, List.not_mem_nil, or_false] at this
        omega
      cases r with
      | nil => exact hl n h
      | cons m r =>
        have h : n ∈ TL.tl (lvS l) ++ ([32] ++ TL.joinL [32] (((m :: r).map lvS).map TL.tl)) := h
        rcases List.mem_append.mp h with h | h
        · exact hl n h
        · rcases List.mem_append.mp h with h | h
          · simp at h; omega
          · exact ih n h
  unfold PyData.strOk
  rw [← Array.all_toList, List.all_eq_true]
  intro n h
  have e : (tx ls).cps.toList = TL.joinL [32] ((ls.map lvS).map TL.tl) := by
    show TL.tl (tx ls) = _
    unfold tx
    rw [TL.join_eq, TL.tl_join, show TL.tl (Str.ofString " ") = [32] from by decide]
  rw [e] at h
  have := go ls hp n h
  simp; omega
theorem opList_l {l : List D} {S : Sg} : opList (.p (.lst l)) S = .ok (.r S.st.length) ⟨S.sl, S.st ++ [.mu (.lst l)]⟩ := Eq.trans rfl rfl
noncomputable def body : M Fl := (sSq (sSet 4 (pur (callM s_z_law_levels_v2 2 (aC (vr 2) (aC (vr 3) aN)))))
    (sSq (sPar 5 6 (aC (pur (opA (op1 opList) (aC (vr 4) aN))) (aC (pur (makeU 0 s_Screen___init 2 (aC (vr 4) aN))) aN)))
    (sSq (sSet 7 (pur (callM s_z_law_text 1 (aC (vr 4) aN))))
    (sSq (sIf (mOr (tst (bin opNeD (callM s_show_screen 1 (aC (vr 6) aN)) (vr 7))) (mOr (mNot (tst (bin (opEqU 0 s_Screen___eq) (pur (callM s_read_screen 1 (aC (vr 7) aN))) (vr 6)))) (tst (bin opNeD (vr 4) (vr 5))))) (sRt (cb false)) sNx)
    (sSq (sSet 8 (propU 0 s_Screen_levels (pur (callM s_read_screen 1 (aC (vr 7) aN)))))
    (sSq (sIf (mOr (tst (bin opNeD (vr 8) (vr 5))) (tst (bin opNeD (callM s_show_screen 1 (aC (pur (callM s_read_screen 1 (aC (vr 7) aN))) aN)) (vr 7)))) (sRt (cb false)) sNx)
    (sSq (sEx (methM isLst opApp (vr 8) (aC (tupE (aC (ci 0) (aC (ci 1) (aC (ci 2) (aC (ci 3) aN))))) aN)))
    (sIf (mOr (tst (bin opNeD (propU 0 s_Screen_levels (pur (callM s_read_screen 1 (aC (vr 7) aN)))) (vr 5))) (tst (bin opNeD (propU 0 s_Screen_levels (vr 6)) (vr 5)))) (sRt (cb false)) sNx))))))))
theorem law_eq : b_law = (sSq (sFor (itL (bin opAdd (slE (vr 0) opt0 (opt1 (ci 8))) (lstE (aC (ci 0) aN)))) (gN 1) (sSq (sSet 2 (callM s_z_law_bag 1 (aC (vr 1) aN)))
    (sFor (itL (tupE (aC (ci 1) (aC (ci 3) (aC (ci 50) aN))))) (gN 3) body)))
    (sRt (bin opEqD (lstE (aC (callM s_show_screen 1 (aC (pur (makeU 0 s_Screen___init 2 (aC (pur (lstE (aC (tupE (aC (ci 3) (aC (ci 2) (aC (ci 1) (aC (ci 0) aN))))) aN))) aN))) aN)) (aC (propU 0 s_Screen_levels (pur (callM s_read_screen 1 (aC (cs "0231 0231") aN)))) aN))) (lstE (aC (cs "3210") (aC (bin opMul (lstE (aC (tupE (aC (ci 0) (aC (ci 2) (aC (ci 3) (aC (ci 1) aN))))) aN)) (ci 2)) aN)))))) := rfl
theorem body_run {most : Int} (h0 : 0 < most) (h1 : most ≤ 50) {s0 s1 s4 s5 s6 s7 s8 : Option R} {c : Cell} {C : Nat} (X Z : Store) (hb : BagC c C) (hC : C + 250 ≤ 1000000) :
    Wp (body ⟨[s0, s1, some (.r X.length), some (.p (.int most)), s4, s5, s6, s7, s8], X ++ (c :: Z)⟩) fun f S' => f = .nx ∧ ∃ c' s4 s5 s6 s7 s8 Z', S' = ⟨[s0, s1, some (.r X.length), some (.p (.int most)), s4, s5, s6, s7, s8], X ++ (c' :: Z')⟩ ∧ BagC c' (C + 250) := by
  unfold body
  simp! [bnd_bnd]
  refine wp_bnd (wp_drawLE (levels2_d h0 h1) hb hC fun v c' ⟨ls, e, lok, _⟩ B => ?_); subst e
  have to := tx_ok lok
  have len := lok.2.1
  have n1 : ∀ S : Sg, opNeD (.p (.lst (lvD ls))) (.p (.lst (lvD ls))) S = .ok (.p (.bl false)) S := fun S => by
    rw [opNeD_K, dataR_p, toPy_lst_lv, neDK_ll]; simp
  have n2 : ∀ (m : Nat) (S : Sg), S.st[m]? = some (.mu (.lst (lvD ls))) → opNeD (.r m) (.p (.lst (lvD ls))) S = .ok (.p (.bl false)) S := fun m S h => by
    rw [opNeD_K, dataR_p, dataR_r, h, toPy_lst_lv, dataK_lv, neDK_ll]; simp
  have tl : (lvD ls).length < 1000000 := by rw [lvD_len]; omega
  simp! [bnd_bnd, opList_l, screen_make ls lok, pureC_obj objD_scr, text_i lok, show_screen_i lok, read_screen_i lok, opNeD_t to to, opEqU_pp, levels_p, n1, n2, appK_ap tl]
  exact wp_ok ⟨rfl, c', _, _, _, _, _, _, rfl, B⟩
theorem cutD_8 {ns : List Int} : Dd.cutD (ns.map D.int) none (some 8) = (ns.take 8).map D.int := by rw [List.map_take]; exact cutD_to (n := 8)
theorem cells_len8 {ns : List Int} : ((ns.take 8).map D.int).length + [D.int 0].length ≤ 1000 := by rw [List.length_map, List.length_take]; simp; omega
theorem cell_at8 {ns : List Int} {j : Nat} {d : D} (h : ((ns.take 8).map D.int ++ [D.int 0])[j]? = some d) : ∃ i : Int, d = .int i := by
  have : (ns.take 8).map D.int ++ [D.int 0] = (ns.take 8 ++ [0]).map D.int := by rw [List.map_append]; rfl
  rw [this, List.getElem?_map] at h
  cases q : (ns.take 8 ++ [0])[j]? with
  | none => rw [q] at h; cases h
  | some i => rw [q] at h; cases h; exact ⟨i, rfl⟩
theorem law_true : ∀ ns : List Int, ns.length ≤ 63 → ∃ st, s_law [.p (.scp (ns.map D.int))] [] = .ok (.val (.bl true)) st := by
  intro ns hn
  suffices h : WpF (s_law [.p (.scp (ns.map D.int))] []) fun a _ => a = .val (.bl true) by
    obtain ⟨_, st, e, rfl⟩ := h
    exact ⟨st, e⟩
  unfold s_law
  rw [law_eq]
  simp! [bnd_bnd, slE_ap, opt0_ap, opt1_ci, opSl_scp (l := ns.map D.int) (by rw [List.length_map]; omega), opAdd_rr, cutD_8, catK_ap cells_len8]
  refine wpf_bnd (wp_loop (I := fun _ S => ∃ k1 k2 k3 k4 k5 k6 k7 k8 X, S = ⟨[some (.p (.scp (ns.map D.int))), k1, k2, k3, k4, k5, k6, k7, k8], X⟩ ∧ X[2]? = some (.mu (.lst ((ns.take 8).map D.int ++ [D.int 0])))) ?_ ?_ ?_ ?_)
  · exact ⟨_, _, _, _, _, _, _, _, _, rfl, rfl⟩
  · rintro j S ⟨k1, k2, k3, k4, k5, k6, k7, k8, X, rfl, hX⟩
    simp! [hX]
  · rintro j d S hj ⟨k1, k2, k3, k4, k5, k6, k7, k8, X, rfl, hX⟩
    obtain ⟨i, rfl⟩ := cell_at8 hj
    have hl : 2 < X.length := (List.getElem?_eq_some_iff.mp hX).1
    rw [bind_bnd]
    simp! [bnd_bnd, bag_i]
    refine wp_imp (wp_loop (Q := fun f S => f = .nx ∧ ∃ c' s3 s4 s5 s6 s7 s8 Z, S = ⟨[some (.p (.scp (ns.map D.int))), some (.p (.int i)), some (.r X.length), s3, s4, s5, s6, s7, s8], X ++ (c' :: Z)⟩) (I := fun q S => ∃ c' s3 s4 s5 s6 s7 s8 Z, S = ⟨[some (.p (.scp (ns.map D.int))), some (.p (.int i)), some (.r X.length), s3, s4, s5, s6, s7, s8], X ++ (c' :: Z)⟩ ∧ BagC c' (250 * q)) ?_ ?_ ?_ ?_) ?_
    · exact ⟨_, _, _, _, _, _, _, [], rfl, bag0 i⟩
    · intros; trivial
    · rintro q d S hq ⟨c', s3, s4, s5, s6, s7, s8, Z, rfl, B⟩
      have hq3 : q < 3 := (List.getElem?_eq_some_iff.mp hq).1
      obtain ⟨most, rfl, m0, m1⟩ : ∃ m : Int, d = .int m ∧ 0 < m ∧ m ≤ 50 := by
        have := List.mem_of_getElem? hq
        simp only [List.mem_cons, List.not_mem_nil, or_false] at this
        rcases this with rfl | rfl | rfl
        · exact ⟨1, rfl, by decide, by decide⟩
        · exact ⟨3, rfl, by decide, by decide⟩
        · exact ⟨50, rfl, by decide, by decide⟩
      rw [bind_bnd]
      simp! [bnd_bnd]
      refine wp_imp (body_run m0 m1 X Z B (by omega)) ?_
      rintro f S ⟨rfl, c2, t4, t5, t6, t7, t8, Z2, rfl, B2⟩
      exact ⟨c2, _, _, _, _, _, _, Z2, rfl, BagC.mono B2 (by omega)⟩
    · rintro S ⟨c', s3, s4, s5, s6, s7, s8, Z, rfl, B⟩
      exact ⟨rfl, c', _, _, _, _, _, _, Z, rfl⟩
    · rintro f S ⟨rfl, c', s3, s4, s5, s6, s7, s8, Z, rfl⟩
      exact ⟨_, _, _, _, _, _, _, _, _, rfl, by rw [List.getElem?_append_left hl]; exact hX⟩
  · rintro S ⟨k1, k2, k3, k4, k5, k6, k7, k8, X, rfl, hX⟩
    have ok1 : LvOk [[3, 2, 1, 0]] := ⟨by decide, by decide, by decide⟩
    have ok2 : LvOk [[0, 2, 3, 1], [0, 2, 3, 1]] := ⟨by decide, by decide, by decide⟩
    have t1 : tx [[3, 2, 1, 0]] = Str.ofString "3210" := by decide +kernel
    have t2 : tx [[0, 2, 3, 1], [0, 2, 3, 1]] = Str.ofString "0231 0231" := by decide +kernel
    have sm := screen_make [[3, 2, 1, 0]] ok1
    have ss := show_screen_i ok1
    have rs := read_screen_i ok2
    rw [t1] at ss
    rw [t2] at rs
    have l1 : lvD [[3, 2, 1, 0]] = [.tup [.int 3, .int 2, .int 1, .int 0]] := rfl
    have l2 : lvD [[0, 2, 3, 1], [0, 2, 3, 1]] = [.tup [.int 0, .int 2, .int 3, .int 1], .tup [.int 0, .int 2, .int 3, .int 1]] := rfl
    rw [l1] at sm ss
    rw [l2] at rs
    have mk : ∀ S : Sg, mulK 2 S (some [.tup [.int 0, .int 2, .int 3, .int 1]]) = .ok (.r S.st.length) ⟨S.sl, S.st ++ [.mu (.lst [.tup [.int 0, .int 2, .int 3, .int 1], .tup [.int 0, .int 2, .int 3, .int 1]])]⟩ := fun S => by
      unfold mulK
      simp only
      rw [if_pos (by rw [sizeLine_eq]; decide)]
      rfl
    have eq : ∀ (m n : Nat) (S : Sg), S.st[m]? = some (.mu (.lst [.str (Str.ofString "3210"), .lst [.tup [.int 0, .int 2, .int 3, .int 1], .tup [.int 0, .int 2, .int 3, .int 1]]])) → S.st[n]? = some (.mu (.lst [.str (Str.ofString "3210"), .lst [.tup [.int 0, .int 2, .int 3, .int 1], .tup [.int 0, .int 2, .int 3, .int 1]]])) → opEqD (.r m) (.r n) S = .ok (.p (.bl true)) S := fun m n S hm hn => by
      have e1 : ∀ m : Nat, S.st[m]? = some (.mu (.lst [.str (Str.ofString "3210"), .lst [.tup [.int 0, .int 2, .int 3, .int 1], .tup [.int 0, .int 2, .int 3, .int 1]]])) → dataR (.r m) S = some (.list [.str (Str.ofString "3210"), .list [.tuple [.int 0, .int 2, .int 3, .int 1], .tuple [.int 0, .int 2, .int 3, .int 1]]]) := fun m h => by rw [dataR_r, h]; rfl
      rw [opEqD_of (e1 m hm) (e1 n hn) (by decide +kernel) (by decide +kernel)]
      have : PyData.eqv (.list [.str (Str.ofString "3210"), .list [.tuple [.int 0, .int 2, .int 3, .int 1], .tuple [.int 0, .int 2, .int 3, .int 1]]]) (.list [.str (Str.ofString "3210"), .list [.tuple [.int 0, .int 2, .int 3, .int 1], .tuple [.int 0, .int 2, .int 3, .int 1]]]) = true := by decide +kernel
      rw [this]
    simp! [bnd_bnd, sm, pureC_obj objD_scr, ss, rs, levels_p, opMul_r, mk, eq]
    exact wpf_ok rfl
end K39

set_option Elab.async false
set_option linter.all false
set_option maxRecDepth 100000
set_option maxHeartbeats 4000000
namespace K39
open PySem PySem.Spec PyProof.Rows L2 Dd Lib
theorem all_mk {P : Program} {w : World} {K : PySem.W.Frag} {h : Heap} {mg : Str → Option Value} {fa : Addr} (X : K.In h) (G : h.Ns mainGlobals mg) (hfa : mg "law" = some (.ref fa))
    {C0 : Addr}
    {f0 : Addr} {od0 an0 : Option Addr} {sl0 : Array (Option Value)} {oc0 kV0 dc0 pm0 cd0 ct0 : Value}
    {f1 : Addr} {od1 an1 : Option Addr} {sl1 : Array (Option Value)} {oc1 kV1 dc1 pm1 cd1 ct1 : Value}
    {f2 : Addr} {od2 an2 : Option Addr} {sl2 : Array (Option Value)} {oc2 kV2 dc2 pm2 cd2 ct2 : Value}
    {f3 : Addr} {od3 an3 : Option Addr} {sl3 : Array (Option Value)} {oc3 kV3 dc3 pm3 cd3 ct3 : Value}
    {f4 : Addr} {od4 an4 : Option Addr} {sl4 : Array (Option Value)} {oc4 kV4 dc4 pm4 cd4 ct4 : Value}
    {f5 : Addr} {od5 an5 : Option Addr} {sl5 : Array (Option Value)} {oc5 kV5 dc5 pm5 cd5 ct5 : Value}
    {p5 : Addr} {r5 : List Value}
    {f6 : Addr} {od6 an6 : Option Addr} {sl6 : Array (Option Value)} {oc6 kV6 dc6 pm6 cd6 ct6 : Value}
    {f7 : Addr} {od7 an7 : Option Addr} {sl7 : Array (Option Value)} {oc7 kV7 dc7 pm7 cd7 ct7 : Value}
    {f8 : Addr} {od8 an8 : Option Addr} {sl8 : Array (Option Value)} {oc8 kV8 dc8 pm8 cd8 ct8 : Value}
    {f9 : Addr} {od9 an9 : Option Addr} {sl9 : Array (Option Value)} {oc9 kV9 dc9 pm9 cd9 ct9 : Value}
    {f10 : Addr} {od10 an10 : Option Addr} {sl10 : Array (Option Value)} {oc10 kV10 dc10 pm10 cd10 ct10 : Value}
    {f11 : Addr} {od11 an11 : Option Addr} {sl11 : Array (Option Value)} {oc11 kV11 dc11 pm11 cd11 ct11 : Value}
    {f12 : Addr} {od12 an12 : Option Addr} {sl12 : Array (Option Value)} {oc12 kV12 dc12 pm12 cd12 ct12 : Value}
    {f13 : Addr} {od13 an13 : Option Addr} {sl13 : Array (Option Value)} {oc13 kV13 dc13 pm13 cd13 ct13 : Value}
    {t_MOST_LEVELS_screens : Tok}
    {t_MOST_LEVELS_texts : Tok}
    (aC0 : PySem.W.nsIn K mainGlobals "Screen" = some (some (.ref C0)))
    (pg0 : PySem.W.plainGet K C0 Str.empty = true)
    (hd0 : PySem.W.hasDictIn K C0 = true)
    (po0 : PySem.W.plainOver K C0 = true)
    (sa0 : PySem.W.findIn K (.ref C0) "__setattr__" = some (some (.builtin "object.__setattr__")))
    (mk0 : PySem.W.makesIn K C0 = true)
    (kc0 : PySem.W.keepIn K (.ref C0) = true)
    (ha0 : PySem.W.findIn K (.ref C0) "__class__" = some (some (.builtin "object.__class__")))
    (hn0 : PySem.W.specialIn K (.builtin "object.__class__") "__get__" = some (some (.builtin "getset_descriptor.__get__")))
    (tk0 : PySem.W.takesIn K (.builtin "object.__class__") = some true)
    (mro0 : PySem.W.mroIn K C0 (.type "object") = some true)
    (ty0 : PySem.W.typeIn K (.ref C0) = some (.type "type"))
    (y0bool : PySem.W.subIn K (.ref C0) (.type "bool") = some false)
    (y0int : PySem.W.subIn K (.ref C0) (.type "int") = some false)
    (y0str : PySem.W.subIn K (.ref C0) (.type "str") = some false)
    (y0tuple : PySem.W.subIn K (.ref C0) (.type "tuple") = some false)
    (y0list : PySem.W.subIn K (.ref C0) (.type "list") = some false)
    (y0dict : PySem.W.subIn K (.ref C0) (.type "dict") = some false)
    (z0NoneType : PySem.W.subIn K (.type "NoneType") (.ref C0) = some false)
    (z0bool : PySem.W.subIn K (.type "bool") (.ref C0) = some false)
    (z0int : PySem.W.subIn K (.type "int") (.ref C0) = some false)
    (z0str : PySem.W.subIn K (.type "str") (.ref C0) = some false)
    (z0tuple : PySem.W.subIn K (.type "tuple") (.ref C0) = some false)
    (z0list : PySem.W.subIn K (.type "list") (.ref C0) = some false)
    (z0dict : PySem.W.subIn K (.type "dict") (.ref C0) = some false)
    (nf0own_levels : PySem.W.findIn K (.ref C0) "own_levels" = some none)
    (a0 : PySem.W.nsIn K mainGlobals "_law_bag" = some (some (.ref f0)))
    (l0 : K.lookup f0 = some ⟨oc0, od0, .func (PySem.W.fnOf "_law_bag" "_law_bag" (defArgs (top 18)) (defBody (top 18)) (defScope (top 18)) .none kV0 dc0 pm0 an0 cd0 ct0), sl0⟩)
    (c0 : PySem.W.codeIn K cd0 "_law_bag" = true)
    (k0 : PySem.W.keepIn K (.ref f0) = true)
    (a1 : PySem.W.nsIn K mainGlobals "_law_pick" = some (some (.ref f1)))
    (l1 : K.lookup f1 = some ⟨oc1, od1, .func (PySem.W.fnOf "_law_pick" "_law_pick" (defArgs (top 19)) (defBody (top 19)) (defScope (top 19)) .none kV1 dc1 pm1 an1 cd1 ct1), sl1⟩)
    (c1 : PySem.W.codeIn K cd1 "_law_pick" = true)
    (k1 : PySem.W.keepIn K (.ref f1) = true)
    (a2 : PySem.W.nsIn K mainGlobals "_law_level" = some (some (.ref f2)))
    (l2 : K.lookup f2 = some ⟨oc2, od2, .func (PySem.W.fnOf "_law_level" "_law_level" (defArgs (top 20)) (defBody (top 20)) (defScope (top 20)) .none kV2 dc2 pm2 an2 cd2 ct2), sl2⟩)
    (c2 : PySem.W.codeIn K cd2 "_law_level" = true)
    (k2 : PySem.W.keepIn K (.ref f2) = true)
    (a3 : PySem.W.nsIn K mainGlobals "_law_levels" = some (some (.ref f3)))
    (l3 : K.lookup f3 = some ⟨oc3, od3, .func (PySem.W.fnOf "_law_levels" "_law_levels" (defArgs (top 21)) (defBody (top 21)) (defScope (top 21)) .none kV3 dc3 pm3 an3 cd3 ct3), sl3⟩)
    (c3 : PySem.W.codeIn K cd3 "_law_levels" = true)
    (k3 : PySem.W.keepIn K (.ref f3) = true)
    (a4 : PySem.W.nsIn K mainGlobals "_law_text" = some (some (.ref f4)))
    (l4 : K.lookup f4 = some ⟨oc4, od4, .func (PySem.W.fnOf "_law_text" "_law_text" (defArgs (top 24)) (defBody (top 24)) (defScope (top 24)) .none kV4 dc4 pm4 an4 cd4 ct4), sl4⟩)
    (c4 : PySem.W.codeIn K cd4 "_law_text" = true)
    (k4 : PySem.W.keepIn K (.ref f4) = true)
    (a5 : PySem.W.findIn K (.ref C0) "levels" = some (some (.ref p5)))
    (b5 : PySem.W.specialIn K (.ref p5) "__get__" = some (some (.builtin "property.__get__")))
    (d5 : PySem.W.takesIn K (.ref p5) = some true)
    (e5 : PySem.W.recIn K p5 "property" = some (.ref f5 :: r5))
    (l5 : K.lookup f5 = some ⟨oc5, od5, .func (PySem.W.fnOf "levels" "Screen.levels" (defArgs (inClass (top 12) 2)) (defBody (inClass (top 12) 2)) (defScope (inClass (top 12) 2)) .none kV5 dc5 pm5 an5 cd5 ct5), sl5⟩)
    (c5 : PySem.W.codeIn K cd5 "Screen.levels" = true)
    (k5 : PySem.W.keepIn K (.ref f5) = true)
    (a6 : PySem.W.nsIn K mainGlobals "require_screen" = some (some (.ref f6)))
    (l6 : K.lookup f6 = some ⟨oc6, od6, .func (PySem.W.fnOf "require_screen" "require_screen" (defArgs (top 10)) (defBody (top 10)) (defScope (top 10)) .none kV6 dc6 pm6 an6 cd6 ct6), sl6⟩)
    (c6 : PySem.W.codeIn K cd6 "require_screen" = true)
    (k6 : PySem.W.keepIn K (.ref f6) = true)
    (a7 : PySem.W.nsIn K mainGlobals "show_screen" = some (some (.ref f7)))
    (l7 : K.lookup f7 = some ⟨oc7, od7, .func (PySem.W.fnOf "show_screen" "show_screen" (defArgs (top 15)) (defBody (top 15)) (defScope (top 15)) .none kV7 dc7 pm7 an7 cd7 ct7), sl7⟩)
    (c7 : PySem.W.codeIn K cd7 "show_screen" = true)
    (k7 : PySem.W.keepIn K (.ref f7) = true)
    (a8 : PySem.W.nsIn K mainGlobals "is_int" = some (some (.ref f8)))
    (l8 : K.lookup f8 = some ⟨oc8, od8, .func (PySem.W.fnOf "is_int" "is_int" (defArgs (top 2)) (defBody (top 2)) (defScope (top 2)) .none kV8 dc8 pm8 an8 cd8 ct8), sl8⟩)
    (c8 : PySem.W.codeIn K cd8 "is_int" = true)
    (k8 : PySem.W.keepIn K (.ref f8) = true)
    (a9 : PySem.W.nsIn K mainGlobals "is_level" = some (some (.ref f9)))
    (l9 : K.lookup f9 = some ⟨oc9, od9, .func (PySem.W.fnOf "is_level" "is_level" (defArgs (top 11)) (defBody (top 11)) (defScope (top 11)) .none kV9 dc9 pm9 an9 cd9 ct9), sl9⟩)
    (c9 : PySem.W.codeIn K cd9 "is_level" = true)
    (k9 : PySem.W.keepIn K (.ref f9) = true)
    (a10 : PySem.W.findIn K (.ref C0) "__init__" = some (some (.ref f10)))
    (i10 : PySem.W.isFn K (.ref f10) = true)
    (l10 : K.lookup f10 = some ⟨oc10, od10, .func (PySem.W.fnOf "__init__" "Screen.__init__" (defArgs (inClass (top 12) 0)) (defBody (inClass (top 12) 0)) (defScope (inClass (top 12) 0)) .none kV10 dc10 pm10 an10 cd10 ct10), sl10⟩)
    (c10 : PySem.W.codeIn K cd10 "Screen.__init__" = true)
    (k10 : PySem.W.keepIn K (.ref f10) = true)
    (a11 : PySem.W.nsIn K mainGlobals "read_screen" = some (some (.ref f11)))
    (l11 : K.lookup f11 = some ⟨oc11, od11, .func (PySem.W.fnOf "read_screen" "read_screen" (defArgs (top 16)) (defBody (top 16)) (defScope (top 16)) .none kV11 dc11 pm11 an11 cd11 ct11), sl11⟩)
    (c11 : PySem.W.codeIn K cd11 "read_screen" = true)
    (k11 : PySem.W.keepIn K (.ref f11) = true)
    (a12 : PySem.W.findIn K (.ref C0) "__eq__" = some (some (.ref f12)))
    (i12 : PySem.W.isFn K (.ref f12) = true)
    (l12 : K.lookup f12 = some ⟨oc12, od12, .func (PySem.W.fnOf "__eq__" "Screen.__eq__" (defArgs (inClass (top 12) 1)) (defBody (inClass (top 12) 1)) (defScope (inClass (top 12) 1)) .none kV12 dc12 pm12 an12 cd12 ct12), sl12⟩)
    (c12 : PySem.W.codeIn K cd12 "Screen.__eq__" = true)
    (k12 : PySem.W.keepIn K (.ref f12) = true)
    (a13 : PySem.W.nsIn K mainGlobals "law" = some (some (.ref f13)))
    (l13 : K.lookup f13 = some ⟨oc13, od13, .func (PySem.W.fnOf "law" "law" (defArgs (top 25)) (defBody (top 25)) (defScope (top 25)) .none kV13 dc13 pm13 an13 cd13 ct13), sl13⟩)
    (c13 : PySem.W.codeIn K cd13 "law" = true)
    (k13 : PySem.W.keepIn K (.ref f13) = true)
    (n_all : PySem.W.nsIn K mainGlobals "all" = some none)
    (n_bool : PySem.W.nsIn K mainGlobals "bool" = some none)
    (n_enumerate : PySem.W.nsIn K mainGlobals "enumerate" = some none)
    (n_int : PySem.W.nsIn K mainGlobals "int" = some none)
    (n_isinstance : PySem.W.nsIn K mainGlobals "isinstance" = some none)
    (n_len : PySem.W.nsIn K mainGlobals "len" = some none)
    (n_list : PySem.W.nsIn K mainGlobals "list" = some none)
    (n_max : PySem.W.nsIn K mainGlobals "max" = some none)
    (n_range : PySem.W.nsIn K mainGlobals "range" = some none)
    (n_sorted : PySem.W.nsIn K mainGlobals "sorted" = some none)
    (n_str : PySem.W.nsIn K mainGlobals "str" = some none)
    (n_tuple : PySem.W.nsIn K mainGlobals "tuple" = some none)
    (q_MOST_LEVELS_screens : PySem.W.nsIn K mainGlobals "MOST_LEVELS_screens" = some (some (.int 50 t_MOST_LEVELS_screens)))
    (q_MOST_LEVELS_texts : PySem.W.nsIn K mainGlobals "MOST_LEVELS_texts" = some (some (.int 50 t_MOST_LEVELS_texts))) :
    ∃ (cls : Nat → Addr) (fd : FuncData), (∀ (s : Shared) (v : Value), BindsTo s fd ⟨[v], []⟩ [("script", v)]) ∧ ∀ base : Heap, K.In base → base.Ns mainGlobals mg → FnG P w K mg base 6 fa fd ["script"] (spF ⟨K, cls⟩ 1 s_law) := by
  have e : f13 = fa := by have q := hfa.symm.trans (PySem.W.mg_of X G a13); cases q; rfl
  subst e
  have F0 := fun_mk (st := (top 18)) l0 c0 k0
  have B0 := F0.binds (ps := ["cell"]) fun _ _ _ _ _ _ us hl => match us, hl with | [_], _ => rfl
  have F1 := fun_mk (st := (top 19)) l1 c1 k1
  have B1 := F1.binds (ps := ["bag", "many"]) fun _ _ _ _ _ _ us hl => match us, hl with | [_, _], _ => rfl
  have F2 := fun_mk (st := (top 20)) l2 c2 k2
  have B2 := F2.binds (ps := ["bag"]) fun _ _ _ _ _ _ us hl => match us, hl with | [_], _ => rfl
  have F3 := fun_mk (st := (top 21)) l3 c3 k3
  have B3 := F3.binds (ps := ["bag", "most"]) fun _ _ _ _ _ _ us hl => match us, hl with | [_, _], _ => rfl
  have F4 := fun_mk (st := (top 24)) l4 c4 k4
  have B4 := F4.binds (ps := ["levels"]) fun _ _ _ _ _ _ us hl => match us, hl with | [_], _ => rfl
  have F5 := fun_mk (st := (inClass (top 12) 2)) l5 c5 k5
  have B5 := F5.binds (ps := ["self"]) fun _ _ _ _ _ _ us hl => match us, hl with | [_], _ => rfl
  have F6 := fun_mk (st := (top 10)) l6 c6 k6
  have B6 := F6.binds (ps := ["value"]) fun _ _ _ _ _ _ us hl => match us, hl with | [_], _ => rfl
  have F7 := fun_mk (st := (top 15)) l7 c7 k7
  have B7 := F7.binds (ps := ["screen"]) fun _ _ _ _ _ _ us hl => match us, hl with | [_], _ => rfl
  have F8 := fun_mk (st := (top 2)) l8 c8 k8
  have B8 := F8.binds (ps := ["value"]) fun _ _ _ _ _ _ us hl => match us, hl with | [_], _ => rfl
  have F9 := fun_mk (st := (top 11)) l9 c9 k9
  have B9 := F9.binds (ps := ["value"]) fun _ _ _ _ _ _ us hl => match us, hl with | [_], _ => rfl
  have F10 := fun_mk (st := (inClass (top 12) 0)) l10 c10 k10
  have B10 := F10.binds (ps := ["self", "levels"]) fun _ _ _ _ _ _ us hl => match us, hl with | [_, _], _ => rfl
  have F11 := fun_mk (st := (top 16)) l11 c11 k11
  have B11 := F11.binds (ps := ["text"]) fun _ _ _ _ _ _ us hl => match us, hl with | [_], _ => rfl
  have F12 := fun_mk (st := (inClass (top 12) 1)) l12 c12 k12
  have B12 := F12.binds (ps := ["self", "other"]) fun _ _ _ _ _ _ us hl => match us, hl with | [_, _], _ => rfl
  have F13 := fun_mk (st := (top 25)) l13 c13 k13
  have B13 := F13.binds (ps := ["script"]) fun _ _ _ _ _ _ us hl => match us, hl with | [_], _ => rfl
  have T : Fx K mg (fun j => [C0].getD j 0) (fun j => [f0, f1, f2, f3, f4, f5, f6, f7, f8, f9, f10, f11, f12, f13].getD j 0) (fun j => [(PySem.W.fnOf "_law_bag" "_law_bag" (defArgs (top 18)) (defBody (top 18)) (defScope (top 18)) .none kV0 dc0 pm0 an0 cd0 ct0), (PySem.W.fnOf "_law_pick" "_law_pick" (defArgs (top 19)) (defBody (top 19)) (defScope (top 19)) .none kV1 dc1 pm1 an1 cd1 ct1), (PySem.W.fnOf "_law_level" "_law_level" (defArgs (top 20)) (defBody (top 20)) (defScope (top 20)) .none kV2 dc2 pm2 an2 cd2 ct2), (PySem.W.fnOf "_law_levels" "_law_levels" (defArgs (top 21)) (defBody (top 21)) (defScope (top 21)) .none kV3 dc3 pm3 an3 cd3 ct3), (PySem.W.fnOf "_law_text" "_law_text" (defArgs (top 24)) (defBody (top 24)) (defScope (top 24)) .none kV4 dc4 pm4 an4 cd4 ct4), (PySem.W.fnOf "levels" "Screen.levels" (defArgs (inClass (top 12) 2)) (defBody (inClass (top 12) 2)) (defScope (inClass (top 12) 2)) .none kV5 dc5 pm5 an5 cd5 ct5), (PySem.W.fnOf "require_screen" "require_screen" (defArgs (top 10)) (defBody (top 10)) (defScope (top 10)) .none kV6 dc6 pm6 an6 cd6 ct6), (PySem.W.fnOf "show_screen" "show_screen" (defArgs (top 15)) (defBody (top 15)) (defScope (top 15)) .none kV7 dc7 pm7 an7 cd7 ct7), (PySem.W.fnOf "is_int" "is_int" (defArgs (top 2)) (defBody (top 2)) (defScope (top 2)) .none kV8 dc8 pm8 an8 cd8 ct8), (PySem.W.fnOf "is_level" "is_level" (defArgs (top 11)) (defBody (top 11)) (defScope (top 11)) .none kV9 dc9 pm9 an9 cd9 ct9), (PySem.W.fnOf "__init__" "Screen.__init__" (defArgs (inClass (top 12) 0)) (defBody (inClass (top 12) 0)) (defScope (inClass (top 12) 0)) .none kV10 dc10 pm10 an10 cd10 ct10), (PySem.W.fnOf "read_screen" "read_screen" (defArgs (top 16)) (defBody (top 16)) (defScope (top 16)) .none kV11 dc11 pm11 an11 cd11 ct11), (PySem.W.fnOf "__eq__" "Screen.__eq__" (defArgs (inClass (top 12) 1)) (defBody (inClass (top 12) 1)) (defScope (inClass (top 12) 1)) .none kV12 dc12 pm12 an12 cd12 ct12), (PySem.W.fnOf "law" "law" (defArgs (top 25)) (defBody (top 25)) (defScope (top 25)) .none kV13 dc13 pm13 an13 cd13 ct13)].getD j (PySem.W.fnOf "law" "law" (defArgs (top 25)) (defBody (top 25)) (defScope (top 25)) .none kV13 dc13 pm13 an13 cd13 ct13)) := {
    f_z_law_bag := F0,
    b_z_law_bag := B0,
    m_z_law_bag := PySem.W.mg_of X G a0,
    f_z_law_pick := F1,
    b_z_law_pick := B1,
    m_z_law_pick := PySem.W.mg_of X G a1,
    f_z_law_level := F2,
    b_z_law_level := B2,
    m_z_law_level := PySem.W.mg_of X G a2,
    f_z_law_levels_v2 := F3,
    b_z_law_levels_v2 := B3,
    m_z_law_levels_v2 := PySem.W.mg_of X G a3,
    f_z_law_text := F4,
    b_z_law_text := B4,
    m_z_law_text := PySem.W.mg_of X G a4,
    f_Screen_levels := F5,
    b_Screen_levels := B5,
    p_Screen_levels := ⟨p5, a5, b5, d5, _, e5⟩,
    f_require_screen := F6,
    b_require_screen := B6,
    m_require_screen := PySem.W.mg_of X G a6,
    f_show_screen := F7,
    b_show_screen := B7,
    m_show_screen := PySem.W.mg_of X G a7,
    f_is_int := F8,
    b_is_int := B8,
    m_is_int := PySem.W.mg_of X G a8,
    f_is_level := F9,
    b_is_level := B9,
    m_is_level := PySem.W.mg_of X G a9,
    f_Screen___init := F10,
    b_Screen___init := B10,
    mk0 := ⟨mk0, a10, i10, kc0⟩,
    f_read_screen := F11,
    b_read_screen := B11,
    m_read_screen := PySem.W.mg_of X G a11,
    f_Screen___eq := F12,
    b_Screen___eq := B12,
    h_Screen___eq := ⟨a12, i12, k12⟩,
    f_law := F13,
    b_law := B13,
    m_law := PySem.W.mg_of X G a13,
    cf0 := ClsF.of ⟨pg0, hd0, po0, sa0⟩ ha0 hn0 tk0 mro0 ty0 (by intro t ht; simp only [List.mem_cons, List.not_mem_nil, or_false] at ht; rcases ht with rfl | rfl | rfl | rfl | rfl | rfl <;> assumption) (by intro t ht; simp only [List.mem_cons, List.not_mem_nil, or_false] at ht; rcases ht with rfl | rfl | rfl | rfl | rfl | rfl | rfl <;> assumption),
    c0 := PySem.W.mg_of X G aC0,
    na_own_levels := nf0own_levels,
    n_all := PySem.W.mg_none_of X G n_all,
    n_bool := PySem.W.mg_none_of X G n_bool,
    n_enumerate := PySem.W.mg_none_of X G n_enumerate,
    n_int := PySem.W.mg_none_of X G n_int,
    n_isinstance := PySem.W.mg_none_of X G n_isinstance,
    n_len := PySem.W.mg_none_of X G n_len,
    n_list := PySem.W.mg_none_of X G n_list,
    n_max := PySem.W.mg_none_of X G n_max,
    n_range := PySem.W.mg_none_of X G n_range,
    n_sorted := PySem.W.mg_none_of X G n_sorted,
    n_str := PySem.W.mg_none_of X G n_str,
    n_tuple := PySem.W.mg_none_of X G n_tuple,
    k_MOST_LEVELS_screens := ⟨_, PySem.W.mg_of X G q_MOST_LEVELS_screens⟩,
    k_MOST_LEVELS_texts := ⟨_, PySem.W.mg_of X G q_MOST_LEVELS_texts⟩ }
  exact ⟨(fun j => [C0].getD j 0), (PySem.W.fnOf "law" "law" (defArgs (top 25)) (defBody (top 25)) (defScope (top 25)) .none kV13 dc13 pm13 an13 cd13 ct13), (fun s v => .of_eq rfl), fun base _ _ => ok_law T⟩
theorem walk {l : PySem.W.OpenLaw} {q : Program} {loose : List Str} {XP : (Str → Option Value) → Heap → Prop} {YP : World → Heap → Prop} {d : DefRec} {K : Params → PySem.W.Frag} (hn : l.most = some 63) (hdf : d.params.defaults = [])
    (hY : ∀ (w : World) (h : Heap), YP w h → (K w.params).In h)
    (F : ∀ (w : World) (mg : Str → Option Value) (fa : Addr) (h : Heap), (K w.params).In h → h.Ns mainGlobals mg → mg d.name = some (.ref fa) →
      ∃ (cls : Nat → Addr) (fd : FuncData), (∀ (s : Shared) (u : Value), BindsTo s fd ⟨[u], []⟩ [("script", u)]) ∧ ∀ base : Heap, (K w.params).In base → base.Ns mainGlobals mg → FnG l.prog w (K w.params) mg base 6 fa fd ["script"] (spF ⟨K w.params, cls⟩ 1 s_law)) :
    PySem.W.WalkO q loose XP YP l.row.toRowW d [] (fun f vs => PySem.call f vs) :=
  walk_ofG (k := 6) (x := "script") hn (by decide) hdf ⟨rfl, by decide, by decide⟩ hY F law_true
end K39
open PySem PySem.W PyProof.Rows
set_option maxRecDepth 100000 in
set_option maxHeartbeats 0 in
theorem PySem.Challenge.cw_ditherdepths_k39_screens_shown_and_read_holds : PySem.Challenge.rw_ditherdepths_k39_screens_shown_and_read.Holds := by
  w_on; o_law; k_head; (case hw => w_witness2)
  k_fill
  refine K39.walk (l := PySem.Challenge.rw_ditherdepths_k39_screens_shown_and_read) rfl rfl (fun w h Y => PySem.W.kIn_of Y) ?F
  case F =>
    intro w mg fa h KX G hmg
    refine' K39.all_mk KX G hmg ?aC0 ?pg0 ?hd0 ?po0 ?sa0 ?mk0 ?kc0 ?ha0 ?hn0 ?tk0 ?mro0 ?ty0 ?y0bool ?y0int ?y0str ?y0tuple ?y0list ?y0dict ?z0NoneType ?z0bool ?z0int ?z0str ?z0tuple ?z0list ?z0dict ?nf0own_levels ?a0 ?l0 ?c0 ?k0 ?a1 ?l1 ?c1 ?k1 ?a2 ?l2 ?c2 ?k2 ?a3 ?l3 ?c3 ?k3 ?a4 ?l4 ?c4 ?k4 ?a5 ?b5 ?d5 ?e5 ?l5 ?c5 ?k5 ?a6 ?l6 ?c6 ?k6 ?a7 ?l7 ?c7 ?k7 ?a8 ?l8 ?c8 ?k8 ?a9 ?l9 ?c9 ?k9 ?a10 ?i10 ?l10 ?c10 ?k10 ?a11 ?l11 ?c11 ?k11 ?a12 ?i12 ?l12 ?c12 ?k12 ?a13 ?l13 ?c13 ?k13 ?n_all ?n_bool ?n_enumerate ?n_int ?n_isinstance ?n_len ?n_list ?n_max ?n_range ?n_sorted ?n_str ?n_tuple ?q_MOST_LEVELS_screens ?q_MOST_LEVELS_texts
    (case aC0 => k_is)
    (case pg0 => k_is)
    (case hd0 => k_is)
    (case po0 => k_is)
    (case sa0 => k_is)
    (case mk0 => k_is)
    (case kc0 => k_is)
    (case ha0 => k_is)
    (case hn0 => k_is)
    (case tk0 => k_is)
    (case mro0 => k_is)
    (case ty0 => k_is)
    (case y0bool => k_is)
    (case y0int => k_is)
    (case y0str => k_is)
    (case y0tuple => k_is)
    (case y0list => k_is)
    (case y0dict => k_is)
    (case z0NoneType => k_is)
    (case z0bool => k_is)
    (case z0int => k_is)
    (case z0str => k_is)
    (case z0tuple => k_is)
    (case z0list => k_is)
    (case z0dict => k_is)
    (case nf0own_levels => k_is)
    (case a0 => k_is)
    (case l0 => k_is)
    (case c0 => k_is)
    (case k0 => k_is)
    (case a1 => k_is)
    (case l1 => k_is)
    (case c1 => k_is)
    (case k1 => k_is)
    (case a2 => k_is)
    (case l2 => k_is)
    (case c2 => k_is)
    (case k2 => k_is)
    (case a3 => k_is)
    (case l3 => k_is)
    (case c3 => k_is)
    (case k3 => k_is)
    (case a4 => k_is)
    (case l4 => k_is)
    (case c4 => k_is)
    (case k4 => k_is)
    (case a5 => k_is)
    (case b5 => k_is)
    (case d5 => k_is)
    (case e5 => k_is)
    (case l5 => k_is)
    (case c5 => k_is)
    (case k5 => k_is)
    (case a6 => k_is)
    (case l6 => k_is)
    (case c6 => k_is)
    (case k6 => k_is)
    (case a7 => k_is)
    (case l7 => k_is)
    (case c7 => k_is)
    (case k7 => k_is)
    (case a8 => k_is)
    (case l8 => k_is)
    (case c8 => k_is)
    (case k8 => k_is)
    (case a9 => k_is)
    (case l9 => k_is)
    (case c9 => k_is)
    (case k9 => k_is)
    (case a10 => k_is)
    (case i10 => k_is)
    (case l10 => k_is)
    (case c10 => k_is)
    (case k10 => k_is)
    (case a11 => k_is)
    (case l11 => k_is)
    (case c11 => k_is)
    (case k11 => k_is)
    (case a12 => k_is)
    (case i12 => k_is)
    (case l12 => k_is)
    (case c12 => k_is)
    (case k12 => k_is)
    (case a13 => k_is)
    (case l13 => k_is)
    (case c13 => k_is)
    (case k13 => k_is)
    (case n_all => k_is)
    (case n_bool => k_is)
    (case n_enumerate => k_is)
    (case n_int => k_is)
    (case n_isinstance => k_is)
    (case n_len => k_is)
    (case n_list => k_is)
    (case n_max => k_is)
    (case n_range => k_is)
    (case n_sorted => k_is)
    (case n_str => k_is)
    (case n_tuple => k_is)
    (case q_MOST_LEVELS_screens => k_is)
    (case q_MOST_LEVELS_texts => k_is)
#print axioms PySem.Challenge.cw_ditherdepths_k39_screens_shown_and_read_holds
