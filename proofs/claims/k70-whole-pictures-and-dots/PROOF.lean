import PyProof.Rows.All
import Wide.All
import OpenK.AllK
import Wide.FinOn
import HandS.ForExc
import HandS.Comp
import HandS.Iter
import HandS.Dict
import HandS.Text
import HandS.Property
import HandS.Conv
import HandS.Style
import HandS.Wide
import HandS.WideBits
import HandS.Zip
import HandS.Strs
import HandS.Deep
import HandS.DeepEq
import HandS.IsInst
import HandS.TupAny
import HandS.RaiseMore
import KE.GoesMore
import PyProof.LongRange
import PyProof.ReprRoads
import KE.KeyNested
import PyProof.DictRoadsH
import HandS.SortInts
import HandS.TryOnly
import HandS.Ends
import HandS.Star
import HandS.SetFor
import KE.DataMinMax
import PyProof.Rows.RowBridgeK
import KE.KRevSl
import HandS.Replace
import KE.SortData
import KE.KDictDisplayH
import HandS.DictTup
import KE.GoesZip
import HandS.Zip0
import HandS.TupLe
import PyProof.NeKinds
import KE.KExcIs
import HandS.ExcValue
import HandS.Spec
import HandS.More
import HandS.HeadHook3
import PyProof.MaxThree
import PySem.Challenge.RW_ditherdepths_k70_whole_pictures_and_dots
set_option Elab.async false
set_option linter.all false
set_option maxRecDepth 100000
/-! a semantic layer: pure data, store cells, outcomes -/
namespace Dd
open PySem PySem.Spec PyProof.Rows L2

/-- pure data -/
inductive D where
  | non | bl (b : Bool) | int (i : Int) | str (s : Str)
  | tup (l : List D) | lst (l : List D) | scr (l : List D) | edct
  | exn (k : Nat) (f : D) | scp (l : List D)
  | fn (k : Nat) | opq (k : Nat) | ol (l : List D)
  deriving Inhabited
/-- a value: pure, or a cell of the store -/
inductive R where
  | p (d : D) | r (n : Nat)
  deriving Inhabited
/-- what a cell holds -/
inductive Con where
  | lst (l : List D) | dct (kvs : List (D × D)) | obj (k : Nat) (fs : List (Str × D)) | dt (kvs : List (D × D))
inductive Cell where
  | mu (o : Con) | fz (l : List D) | dead
abbrev Store := List Cell
structure Sg where
  sl : List (Option R)
  st : Store
/-- an own exception: its class's number, its field -/
structure Xn where
  k : Nat
  f : D
inductive Res (α : Type) where
  | ok (a : α) (S : Sg) | exc (x : Xn) (S : Sg) | bad
abbrev M (α : Type) := Sg → Res α
def M.pure {α : Type} (a : α) : M α := fun S => .ok a S
def M.bind {α β : Type} (f : M α) (g : α → M β) : M β := fun S => match f S with
  | .ok a S' => g a S'
  | .exc x S' => .exc x S'
  | .bad => .bad
instance : Monad M := { pure := M.pure, bind := M.bind }
def bad {α : Type} : M α := fun _ => .bad
def raiseX {α : Type} (x : Xn) : M α := fun S => .exc x S
section
variable {α β : Type}
theorem bind_ap (f : M α) (g : α → M β) (S : Sg) : (f >>= g) S = (match f S with | .ok a S' => g a S' | .exc x S' => .exc x S' | .bad => .bad) := rfl
theorem bind_ok {f : M α} {g : α → M β} {S S' : Sg} {a : α} (h : f S = .ok a S') : (f >>= g) S = g a S' := by rw [bind_ap, h]
theorem bind_exc {f : M α} {g : α → M β} {S S' : Sg} {x : Xn} (h : f S = .exc x S') : (f >>= g) S = .exc x S' := by rw [bind_ap, h]
theorem bind_bad {f : M α} {g : α → M β} {S : Sg} (h : f S = .bad) : (f >>= g) S = .bad := by rw [bind_ap, h]
end

/-- the static context: the written part, the classes by number -/
structure Cg where
  K : PySem.W.Frag
  cls : Nat → Addr
  fna : Nat → Addr
/-- ghosts: G what never changes any more, L what others keep, ρ where the cells stand, O the lists that objects own: by whom, as which attribute, what they hold -/
structure Gh where
  G : Hp
  L : Hp
  ρ : List Addr
  O : Addr → Option (Addr × Str × List V)
def Ext (H H' : Hp) : Prop := ∀ a o, H a = some o → H' a = some o
theorem Ext.refl {H : Hp} : Ext H H := fun _ _ h => h
theorem Ext.trans {H H1 H2 : Hp} (a : Ext H H1) (b : Ext H1 H2) : Ext H H2 := fun c o h => b c o (a c o h)
theorem Ext.upd {H : Hp} {p : Addr} {o : HO} (h : H p = none) : Ext H (upd H p o) := fun a u e => by rw [upd_ne (ne_of_none e h)]; exact e
theorem Ext.none {H H' : Hp} (e : Ext H H') {a : Addr} (h : H' a = none) : H a = none := by
  cases q : H a with
  | none => rfl
  | some o => rw [e _ _ q] at h; cases h
structure Gh.le (Γ Γ' : Gh) : Prop where
  g : Ext Γ.G Γ'.G
  l : Γ'.L = Γ.L
  r : ∃ t, Γ'.ρ = Γ.ρ ++ t
theorem Gh.le.refl {Γ : Gh} : Γ.le Γ := ⟨Ext.refl, rfl, [], by simp⟩
theorem Gh.le.trans {Γ Γ1 Γ2 : Gh} (a : Γ.le Γ1) (b : Γ1.le Γ2) : Γ.le Γ2 :=
  ⟨a.g.trans b.g, b.l.trans a.l, by
    obtain ⟨t, e⟩ := a.r
    obtain ⟨u, e'⟩ := b.r
    exact ⟨t ++ u, by rw [e', e, List.append_assoc]⟩⟩
theorem Gh.le.at {Γ Γ' : Gh} (h : Γ.le Γ') {n : Nat} {a : Addr} (e : Γ.ρ[n]? = some a) : Γ'.ρ[n]? = some a := by
  obtain ⟨t, q⟩ := h.r
  rw [q, List.getElem?_append_left (List.getElem?_eq_some_iff.mp e).1]
  exact e

/-- .. whatever others keep -/
structure Gh.sub (Γ Γ' : Gh) : Prop where
  g : Ext Γ.G Γ'.G
  r : ∃ t, Γ'.ρ = Γ.ρ ++ t
theorem Gh.le.sub {Γ Γ' : Gh} (h : Γ.le Γ') : Γ.sub Γ' := ⟨h.g, h.r⟩
theorem Gh.sub.trans {Γ Γ1 Γ2 : Gh} (a : Γ.sub Γ1) (b : Γ1.sub Γ2) : Γ.sub Γ2 :=
  ⟨a.g.trans b.g, by
    obtain ⟨t, e⟩ := a.r
    obtain ⟨u, e'⟩ := b.r
    exact ⟨t ++ u, by rw [e', e, List.append_assoc]⟩⟩
theorem Gh.sub.at {Γ Γ' : Gh} (h : Γ.sub Γ') {n : Nat} {a : Addr} (e : Γ.ρ[n]? = some a) : Γ'.ρ[n]? = some a := by
  obtain ⟨t, q⟩ := h.r
  rw [q, List.getElem?_append_left (List.getElem?_eq_some_iff.mp e).1]
  exact e
/-! ### data and values -/
/-- a tuple that is known to have no dict -/
def TupS (K : PySem.W.Frag) (G : Hp) (a : Addr) (vs : List V) : Prop :=
  (∃ o : Obj, G a = some (.frz o (.tup vs)) ∧ o.dict = none) ∨
    ∃ (o : Obj) (its : Array Value) (n : Nat), K.lookup a = some o ∧ o.cls = .type "tuple" ∧ o.dict = none ∧ o.data = .seq its n ∧ its.size ≤ sizeLine ∧ Vals vs its.toList
theorem TupS.sq {K : PySem.W.Frag} {G : Hp} {a : Addr} {vs : List V} (h : TupS K G a vs) : SqT K G a vs := by
  rcases h with ⟨o, h, _⟩ | ⟨o, its, n, h1, h2, _, h3, h4, h5⟩
  · exact .inl (.inr ⟨o, h⟩)
  · exact .inr ⟨o, its, n, h1, h2, h3, h4, h5⟩
theorem TupS.mono {K : PySem.W.Frag} {H H' : Hp} (e : Ext H H') {a : Addr} {xs : List V} (h : TupS K H a xs) : TupS K H' a xs := by
  rcases h with ⟨o, h, k⟩ | h
  · exact .inl ⟨o, e _ _ h, k⟩
  · exact .inr h
/-- the attribute of an own exception, by its class's number -/
def fldN (k : Nat) : Str := if k = 101 then "level" else if k = 105 then "part" else if k = 106 then "most" else if k = 107 then "count" else "item"
/-- an own exception's object at a -/
def ExV (cls : Value) (d : Option Addr) (a : Addr) : HO := .ext fun h => ∃ o fs, h.get? a = some o ∧ o.cls = cls ∧ o.dict = d ∧ o.data = .fields fs
mutual
def Rep (c : Cg) (G : Hp) : D → V → Prop
  | .non, v => v = .non
  | .bl b, v => v = .bl b
  | .int i, v => v = .int i
  | .str s, v => v = .str s
  | .tup l, v => ∃ a vs, v = .ref a ∧ TupS c.K G a vs ∧ RepL c G l vs
  | .lst l, v => ∃ a vs, v = .ref a ∧ G a = some (.lst vs) ∧ RepL c G l vs
  | .scp l, v => ∃ a vs, v = .ref a ∧ SqL c.K G a vs ∧ RepL c G l vs
  | .scr l, v => ∃ a dx b vs, v = .ref a ∧ G a = some (.ins (c.cls 0) dx [("own_levels", .ref b)]) ∧ TupS c.K G b vs ∧ RepL c G l vs
  | .edct, v => ∃ a, v = .ref a ∧ G a = some (.dK [])
  | .exn k f, v => ∃ a d, v = .ref a ∧ G a = some (ExV (.ref (c.cls k)) d a) ∧
      ((d = none ∧ f = .non ∧ (k ≤ 100 ∨ 108 ≤ k)) ∨ ∃ dx u, d = some dx ∧ G dx = some (.xd [(fldN k, u)]) ∧ Rep c G f u)
  | .fn k, v => v = .ref (c.fna k)
  | .opq k, v => ∃ a dx vs, v = .ref a ∧ G a = some (.ins (c.cls k) dx vs)
  | .ol _, _ => False
def RepL (c : Cg) (G : Hp) : List D → List V → Prop
  | [], vs => vs = []
  | d :: ds, vs => ∃ v r, vs = v :: r ∧ Rep c G d v ∧ RepL c G ds r
end
theorem SqL.mono {K : PySem.W.Frag} {H H' : Hp} (e : Ext H H') {a : Addr} {xs : List V} (h : SqL K H a xs) : SqL K H' a xs := by
  rcases h with (h | ⟨o, h⟩) | h
  · exact .inl (.inl (e _ _ h))
  · exact .inl (.inr ⟨o, e _ _ h⟩)
  · exact .inr h
theorem SqT.mono {K : PySem.W.Frag} {H H' : Hp} (e : Ext H H') {a : Addr} {xs : List V} (h : SqT K H a xs) : SqT K H' a xs := by
  rcases h with (h | ⟨o, h⟩) | h
  · exact .inl (.inl (e _ _ h))
  · exact .inl (.inr ⟨o, e _ _ h⟩)
  · exact .inr h
mutual
theorem Rep.mono {c : Cg} {G G' : Hp} (e : Ext G G') : ∀ {d : D} {v : V}, Rep c G d v → Rep c G' d v
  | .non, v, h => h
  | .bl b, v, h => h
  | .int i, v, h => h
  | .str s, v, h => h
  | .tup l, v, h => by
    unfold Rep at h ⊢
    obtain ⟨a, vs, h1, h2, h3⟩ := h
    exact ⟨a, vs, h1, TupS.mono e h2, RepL.mono e h3⟩
  | .lst l, v, h => by
    unfold Rep at h ⊢
    obtain ⟨a, vs, h1, h2, h3⟩ := h
    exact ⟨a, vs, h1, e _ _ h2, RepL.mono e h3⟩
  | .scp l, v, h => by
    unfold Rep at h ⊢
    obtain ⟨a, vs, h1, h2, h3⟩ := h
    exact ⟨a, vs, h1, SqL.mono e h2, RepL.mono e h3⟩
  | .scr l, v, h => by
    unfold Rep at h ⊢
    obtain ⟨a, dx, b, vs, h1, h2, h3, h4⟩ := h
    exact ⟨a, dx, b, vs, h1, e _ _ h2, TupS.mono e h3, RepL.mono e h4⟩
  | .edct, v, h => by
    unfold Rep at h ⊢
    obtain ⟨a, h1, h2⟩ := h
    exact ⟨a, h1, e _ _ h2⟩
  | .exn k f, v, h => by
    unfold Rep at h ⊢
    obtain ⟨a, d, h1, h2, h3⟩ := h
    refine ⟨a, d, h1, e _ _ h2, ?_⟩
    rcases h3 with h3 | ⟨dx, u, h3, h4, h5⟩
    · exact .inl h3
    · exact .inr ⟨dx, u, h3, e _ _ h4, Rep.mono e h5⟩
  | .fn k, v, h => by unfold Rep at h ⊢; exact h
  | .opq k, v, h => by
    unfold Rep at h ⊢
    obtain ⟨a, dx, vs, h1, h2⟩ := h
    exact ⟨a, dx, vs, h1, e _ _ h2⟩
  | .ol l, v, h => by unfold Rep at h ⊢; exact h
theorem RepL.mono {c : Cg} {G G' : Hp} (e : Ext G G') : ∀ {l : List D} {vs : List V}, RepL c G l vs → RepL c G' l vs
  | [], vs, h => by unfold RepL at h ⊢; exact h
  | d :: ds, vs, h => by
    unfold RepL at h ⊢
    obtain ⟨v, r, h1, h2, h3⟩ := h
    exact ⟨v, r, h1, Rep.mono e h2, RepL.mono e h3⟩
end
section
variable {c : Cg} {G : Hp}
theorem RepL.nil_iff {vs : List V} : RepL c G [] vs ↔ vs = [] := by unfold RepL; exact Iff.rfl
theorem RepL.cons_iff {d : D} {ds : List D} {vs : List V} : RepL c G (d :: ds) vs ↔ ∃ v r, vs = v :: r ∧ Rep c G d v ∧ RepL c G ds r := by
  constructor
  · intro h; unfold RepL at h; exact h
  · intro h; unfold RepL; exact h
theorem RepL.nil : RepL c G [] [] := RepL.nil_iff.mpr rfl
theorem RepL.cons {d : D} {ds : List D} {v : V} {vs : List V} (h : Rep c G d v) (t : RepL c G ds vs) : RepL c G (d :: ds) (v :: vs) := RepL.cons_iff.mpr ⟨v, vs, rfl, h, t⟩
theorem RepL.length : ∀ {ds : List D} {vs : List V}, RepL c G ds vs → vs.length = ds.length
  | [], vs, h => by rw [RepL.nil_iff.mp h]; rfl
  | d :: ds, vs, h => by
    obtain ⟨v, r, rfl, _, t⟩ := RepL.cons_iff.mp h
    simp [RepL.length t]
theorem RepL.get : ∀ {ds : List D} {vs : List V} {i : Nat} {d : D}, RepL c G ds vs → ds[i]? = some d → ∃ v, vs[i]? = some v ∧ Rep c G d v
  | [], vs, i, d, h, e => by simp at e
  | d' :: ds, vs, i, d, h, e => by
    obtain ⟨v, r, rfl, h1, t⟩ := RepL.cons_iff.mp h
    cases i with
    | zero => simp at e; subst e; exact ⟨v, rfl, h1⟩
    | succ i => exact RepL.get (i := i) t (by simpa using e)
theorem RepL.append : ∀ {ds es : List D} {vs ws : List V}, RepL c G ds vs → RepL c G es ws → RepL c G (ds ++ es) (vs ++ ws)
  | [], es, vs, ws, h, k => by rw [RepL.nil_iff.mp h]; exact k
  | d :: ds, es, vs, ws, h, k => by
    obtain ⟨v, r, rfl, h1, t⟩ := RepL.cons_iff.mp h
    exact RepL.cons h1 (RepL.append t k)
theorem RepL.one {d : D} {v : V} (h : Rep c G d v) : RepL c G [d] [v] := RepL.cons h RepL.nil
theorem RepL.set : ∀ {ds : List D} {vs : List V} {d : D} {v : V} (i : Nat), RepL c G ds vs → Rep c G d v → RepL c G (ds.set i d) (vs.set i v)
  | [], vs, d, v, i, h, k => by rw [RepL.nil_iff.mp h]; exact RepL.nil
  | d' :: ds, vs, d, v, i, h, k => by
    obtain ⟨v', r, rfl, h1, t⟩ := RepL.cons_iff.mp h
    cases i with
    | zero => exact RepL.cons k t
    | succ i => exact RepL.cons h1 (RepL.set i t k)
theorem RepL.take : ∀ {ds : List D} {vs : List V} (n : Nat), RepL c G ds vs → RepL c G (ds.take n) (vs.take n)
  | _, _, 0, _ => by simp; exact RepL.nil
  | [], vs, n + 1, h => by rw [RepL.nil_iff.mp h]; exact RepL.nil
  | d :: ds, vs, n + 1, h => by
    obtain ⟨v, r, rfl, h1, t⟩ := RepL.cons_iff.mp h
    exact RepL.cons h1 (RepL.take n t)
theorem RepL.drop : ∀ {ds : List D} {vs : List V} (n : Nat), RepL c G ds vs → RepL c G (ds.drop n) (vs.drop n)
  | _, _, 0, h => by simpa using h
  | [], vs, n + 1, h => by rw [RepL.nil_iff.mp h]; exact RepL.nil
  | d :: ds, vs, n + 1, h => by
    obtain ⟨v, r, rfl, h1, t⟩ := RepL.cons_iff.mp h
    exact RepL.drop n t
theorem RepL.eraseIdx : ∀ {ds : List D} {vs : List V} (i : Nat), RepL c G ds vs → RepL c G (ds.eraseIdx i) (vs.eraseIdx i)
  | [], vs, i, h => by rw [RepL.nil_iff.mp h]; exact RepL.nil
  | d :: ds, vs, i, h => by
    obtain ⟨v, r, rfl, h1, t⟩ := RepL.cons_iff.mp h
    cases i with
    | zero => exact t
    | succ i => exact RepL.cons h1 (RepL.eraseIdx i t)
theorem RepL.ints : ∀ {ns : List Int} {vs : List V}, RepL c G (ns.map D.int) vs → vs = ns.map V.int
  | [], vs, h => RepL.nil_iff.mp h
  | n :: ns, vs, h => by
    obtain ⟨v, r, rfl, h1, t⟩ := RepL.cons_iff.mp h
    unfold Rep at h1
    rw [h1, RepL.ints t]; rfl
theorem RepL.of_ints : ∀ (ns : List Int), RepL c G (ns.map D.int) (ns.map V.int)
  | [] => RepL.nil
  | n :: ns => RepL.cons (by unfold Rep; rfl) (RepL.of_ints ns)
theorem RepL.bls : ∀ {ns : List Bool} {vs : List V}, RepL c G (ns.map D.bl) vs → vs = ns.map V.bl
  | [], vs, h => RepL.nil_iff.mp h
  | n :: ns, vs, h => by
    obtain ⟨v, r, rfl, h1, t⟩ := RepL.cons_iff.mp h
    unfold Rep at h1
    rw [h1, RepL.bls t]; rfl
end
theorem Rep.int_iff {c : Cg} {G : Hp} {i : Int} {v : V} : Rep c G (.int i) v ↔ v = .int i := by unfold Rep; exact Iff.rfl
theorem Rep.bl_iff {c : Cg} {G : Hp} {b : Bool} {v : V} : Rep c G (.bl b) v ↔ v = .bl b := by unfold Rep; exact Iff.rfl
theorem Rep.str_iff {c : Cg} {G : Hp} {b : Str} {v : V} : Rep c G (.str b) v ↔ v = .str b := by unfold Rep; exact Iff.rfl
theorem Rep.non_iff {c : Cg} {G : Hp} {v : V} : Rep c G .non v ↔ v = .non := by unfold Rep; exact Iff.rfl
theorem Rep.tup_iff {c : Cg} {G : Hp} {l : List D} {v : V} : Rep c G (.tup l) v ↔ ∃ a vs, v = .ref a ∧ TupS c.K G a vs ∧ RepL c G l vs := by
  constructor
  · intro h; unfold Rep at h; exact h
  · intro h; unfold Rep; exact h
theorem Rep.scp_iff {c : Cg} {G : Hp} {l : List D} {v : V} : Rep c G (.scp l) v ↔ ∃ a vs, v = .ref a ∧ SqL c.K G a vs ∧ RepL c G l vs := by
  constructor
  · intro h; unfold Rep at h; exact h
  · intro h; unfold Rep; exact h
theorem Rep.lst_iff {c : Cg} {G : Hp} {l : List D} {v : V} : Rep c G (.lst l) v ↔ ∃ a vs, v = .ref a ∧ G a = some (.lst vs) ∧ RepL c G l vs := by
  constructor
  · intro h; unfold Rep at h; exact h
  · intro h; unfold Rep; exact h
theorem Rep.scr_iff {c : Cg} {G : Hp} {l : List D} {v : V} : Rep c G (.scr l) v ↔ ∃ a dx b vs, v = .ref a ∧ G a = some (.ins (c.cls 0) dx [("own_levels", .ref b)]) ∧ TupS c.K G b vs ∧ RepL c G l vs := by
  constructor
  · intro h; unfold Rep at h; exact h
  · intro h; unfold Rep; exact h
theorem Rep.exn_iff {c : Cg} {G : Hp} {k : Nat} {f : D} {v : V} : Rep c G (.exn k f) v ↔ ∃ a d, v = .ref a ∧ G a = some (ExV (.ref (c.cls k)) d a) ∧
    ((d = none ∧ f = .non ∧ (k ≤ 100 ∨ 108 ≤ k)) ∨ ∃ dx u, d = some dx ∧ G dx = some (.xd [(fldN k, u)]) ∧ Rep c G f u) := by
  constructor
  · intro h; unfold Rep at h; exact h
  · intro h; unfold Rep; exact h
theorem Rep.fn_iff {c : Cg} {G : Hp} {k : Nat} {v : V} : Rep c G (.fn k) v ↔ v = .ref (c.fna k) := by unfold Rep; exact Iff.rfl
theorem Rep.ol_iff {c : Cg} {G : Hp} {l : List D} {v : V} : Rep c G (.ol l) v ↔ False := by unfold Rep; exact Iff.rfl
theorem Rep.opq_iff {c : Cg} {G : Hp} {k : Nat} {v : V} : Rep c G (.opq k) v ↔ ∃ a dx vs, v = .ref a ∧ G a = some (.ins (c.cls k) dx vs) := by
  constructor
  · intro h; unfold Rep at h; exact h
  · intro h; unfold Rep; exact h
theorem Rep.edct_iff {c : Cg} {G : Hp} {v : V} : Rep c G .edct v ↔ ∃ a, v = .ref a ∧ G a = some (.dK []) := by unfold Rep; exact Iff.rfl

def RepR (c : Cg) (Γ : Gh) : R → V → Prop
  | .p d, v => Rep c Γ.G d v
  | .r n, v => ∃ a, Γ.ρ[n]? = some a ∧ v = .ref a
theorem RepR.mono {c : Cg} {Γ Γ' : Gh} (e : Γ.le Γ') : ∀ {x : R} {v : V}, RepR c Γ x v → RepR c Γ' x v
  | .p d, v, h => Rep.mono e.g h
  | .r n, v, h => by
    obtain ⟨a, h1, h2⟩ := h
    exact ⟨a, e.at h1, h2⟩
theorem RepR.sub {c : Cg} {Γ Γ' : Gh} (e : Γ.sub Γ') : ∀ {x : R} {v : V}, RepR c Γ x v → RepR c Γ' x v
  | .p d, v, h => Rep.mono e.g h
  | .r n, v, h => by
    obtain ⟨a, h1, h2⟩ := h
    exact ⟨a, e.at h1, h2⟩
def RepRL (c : Cg) (Γ : Gh) : List R → List V → Prop
  | [], vs => vs = []
  | x :: xs, vs => ∃ v r, vs = v :: r ∧ RepR c Γ x v ∧ RepRL c Γ xs r
theorem RepRL.mono {c : Cg} {Γ Γ' : Gh} (e : Γ.le Γ') : ∀ {x : List R} {v : List V}, RepRL c Γ x v → RepRL c Γ' x v
  | [], v, h => h
  | x :: xs, v, h => by
    obtain ⟨u, r, h1, h2, h3⟩ := h
    exact ⟨u, r, h1, RepR.mono e h2, RepRL.mono e h3⟩
theorem RepRL.length {c : Cg} {Γ : Gh} : ∀ {x : List R} {v : List V}, RepRL c Γ x v → v.length = x.length
  | [], v, h => by rw [show v = [] from h]; rfl
  | x :: xs, v, h => by
    obtain ⟨u, r, rfl, h2, h3⟩ := h
    simp [RepRL.length h3]
theorem RepRL.get {c : Cg} {Γ : Gh} : ∀ {xs : List R} {vs : List V} {i : Nat} {x : R}, RepRL c Γ xs vs → xs[i]? = some x → ∃ v, vs[i]? = some v ∧ RepR c Γ x v
  | [], v, i, x, h, e => by simp at e
  | x' :: xs, v, i, x, h, e => by
    obtain ⟨u, r, rfl, h2, h3⟩ := h
    cases i with
    | zero => simp at e; subst e; exact ⟨u, rfl, h2⟩
    | succ i => exact RepRL.get (i := i) h3 (by simpa using e)

/-! ### the store, held -/
/-- an attribute of the object at a: pure data, or a list of its own -/
def RepX (c : Cg) (Γ : Gh) (a : Addr) (n : Str) : D → V → Prop
  | .ol l, v => ∃ b ws, v = .ref b ∧ Γ.O b = some (a, n, ws) ∧ RepL c Γ.G l ws
  | d, v => Rep c Γ.G d v
/-- an object's attributes -/
def RepF (c : Cg) (Γ : Gh) (a : Addr) : List (Str × D) → List (Str × V) → Prop
  | [], fs => fs = []
  | (n, x) :: xs, fs => ∃ v r, fs = (n, v) :: r ∧ RepX c Γ a n x v ∧ RepF c Γ a xs r
/-! ### nested tuples of ints and truths as keys -/
mutual
def nkD : D → Option NestedKey
  | .int i => some (.num i)
  | .bl b => some (.num (if b = true then 1 else 0))
  | .tup l => (match nkL l with
    | some ks => some (.tup ks)
    | none => none)
  | _ => none
def nkL : List D → Option (List NestedKey)
  | [] => some []
  | d :: r => (match nkD d with
    | some k => (match nkL r with
      | some ks => some (k :: ks)
      | none => none)
    | none => none)
end
mutual
def noTxt : NestedKey → Bool
  | .text _ => false
  | .tup ks => noTxts ks
  | _ => true
def noTxts : List NestedKey → Bool
  | [] => true
  | k :: ks => noTxt k && noTxts ks
end
/-! ### a dict with such keys, by its raw entries -/
def entry0 (w0 : World) (x : NestedKey × Addr × Value) : DictEntry := ⟨x.1.hash w0, .ref x.2.1, x.2.2⟩
def RawAt (w0 : World) (d : Addr) (xs : List (NestedKey × Addr × Value)) (ep : Nat) (h : Heap) : Prop :=
  xs.length ≤ sizeLine ∧ (d == sysModules) = false ∧ ∃ o es, h.get? d = some o ∧ o.ExactDict ∧ o.data = .dict es ep ∧ es.toList = xs.map (entry0 w0) ∧ (xs.map (·.1)).Nodup
def rawD (w0 : World) (d : Addr) (xs : List (NestedKey × Addr × Value)) (ep : Nat) : HO := .ext (RawAt w0 d xs ep)
/-- a dict's entries, as data -/
def KvOk (c : Cg) (G : Hp) : List (D × D) → List (NestedKey × Addr × Value) → Prop
  | [], xs => xs = []
  | kv :: r, xs => ∃ nk b u vv t, xs = (nk, b, u) :: t ∧ Rep c G kv.1 (.ref b) ∧ nkD kv.1 = some nk ∧ nk.depth ≤ 8 ∧ noTxt nk = true ∧ Rep c G kv.2 vv ∧ RelV vv u ∧ KvOk c G r t
theorem KvOk.mono {c : Cg} {G G' : Hp} (e : Ext G G') : ∀ {kvs : List (D × D)} {xs : List (NestedKey × Addr × Value)}, KvOk c G kvs xs → KvOk c G' kvs xs
  | [], _, h => h
  | kv :: r, _, h => by
    obtain ⟨nk, b, u, vv, t, h1, h2, h3, h4, h5, h6, h7, h8⟩ := h
    exact ⟨nk, b, u, vv, t, h1, h2.mono e, h3, h4, h5, h6.mono e, h7, KvOk.mono e h8⟩
/-- what stands at a cell's address -/
def ConOk (c : Cg) (Γ : Gh) (a : Addr) : Con → HO → Prop
  | .lst l, o => ∃ vs, o = .lst vs ∧ RepL c Γ.G l vs
  | .dct kvs, o => kvs = [] ∧ o = .dK []
  | .obj k fs, o => ∃ dx vs, o = .ins (c.cls k) dx vs ∧ RepF c Γ a fs vs ∧ (fs.map (·.1)).Nodup
  | .dt kvs, o => ∃ w0 xs ep, o = rawD w0 a xs ep ∧ KvOk c Γ.G kvs xs
def CellOk (c : Cg) (Γ : Gh) (H : Hp) (a : Addr) : Cell → Prop
  | .mu o => ∃ u, H a = some u ∧ ConOk c Γ a o u ∧ Γ.G a = none ∧ Γ.L a = none
  | .fz l => ∃ vs, Γ.G a = some (.lst vs) ∧ RepL c Γ.G l vs
  | .dead => True
structure StOk (c : Cg) (Γ : Gh) (st : Store) (H : Hp) : Prop where
  g : Ext Γ.G H
  l : Ext Γ.L H
  gl : ∀ (a : Addr) (o : HO), Γ.L a = some o → Γ.G a = none
  len : st.length = Γ.ρ.length
  cell : ∀ (n : Nat) (x : Cell) (a : Addr), st[n]? = some x → Γ.ρ[n]? = some a → CellOk c Γ H a x
  inj : ∀ (n m : Nat) (a : Addr) (o u : Con), st[n]? = some (.mu o) → st[m]? = some (.mu u) → Γ.ρ[n]? = some a → Γ.ρ[m]? = some a → n = m
  own : ∀ (b a : Addr) (f : Str) (ws : List V), Γ.O b = some (a, f, ws) → H b = some (.lst ws) ∧ Γ.G b = none ∧ Γ.L b = none ∧ ∀ (n : Nat) (q : Con), st[n]? = some (.mu q) → Γ.ρ[n]? ≠ some b
structure FrOk (c : Cg) (Γ : Gh) (S : Sg) (σ : L2.St) (H : Hp) : Prop where
  s : StOk c Γ S.st H
  len : S.sl.length = σ.length
  sl : ∀ (i : Nat) (x : R), S.sl[i]? = some (some x) → ∃ v, σ[i]? = some (some v) ∧ RepR c Γ x v

/-- what is wanted of an own exception: class, dict -/
def XRep (c : Cg) (Γ : Gh) (H : Hp) (x : Xn) (cls : Value) (dd : Option Addr) : Prop := cls = .ref (c.cls x.k) ∧
  ((dd = none ∧ x.f = .non ∧ (x.k ≤ 100 ∨ 108 ≤ x.k)) ∨ ∃ dx u, dd = some dx ∧ Γ.G dx = some (.xd [(fldN x.k, u)]) ∧ Rep c Γ.G x.f u)
/-- what is wanted behind an outcome -/
def Post (c : Cg) (W : WX) (σ : L2.St) (Γ : Gh) {α : Type} (r : Res α) (K : α → Sg → Gh → Hp → Prop) : Prop := match r with
  | .ok a S' => ∀ Γ' H', Γ.le Γ' → FrOk c Γ' S' σ H' → K a S' Γ' H'
  | .exc x S' => ∀ Γ' H' cls dd, Γ.le Γ' → FrOk c Γ' S' σ H' → XRep c Γ' H' x cls dd → W cls dd σ H'
  | .bad => False
section
variable {c : Cg} {W : WX} {σ : L2.St} {Γ Γ1 : Gh} {α β : Type}
theorem Post.le {r : Res α} {K : α → Sg → Gh → Hp → Prop} (h : Post c W σ Γ r K) (e : Γ.le Γ1) : Post c W σ Γ1 r K := by
  cases r with
  | ok a S => exact fun Γ' H' e' f => h Γ' H' (e.trans e') f
  | exc x S => exact fun Γ' H' cls dd e' f q => h Γ' H' cls dd (e.trans e') f q
  | bad => exact h
theorem Post.imp {r : Res α} {K K' : α → Sg → Gh → Hp → Prop} (h : Post c W σ Γ r K) (k : ∀ a S' Γ' H', Γ.le Γ' → FrOk c Γ' S' σ H' → K a S' Γ' H' → K' a S' Γ' H') : Post c W σ Γ r K' := by
  cases r with
  | ok a S => exact fun Γ' H' e' f => k _ _ _ _ e' f (h Γ' H' e' f)
  | exc x S => exact h
  | bad => exact h
theorem Post.bind {f : M α} {g : α → M β} {S : Sg} {K : β → Sg → Gh → Hp → Prop} (h : Post c W σ Γ ((f >>= g) S) K) :
    Post c W σ Γ (f S) fun a S' Γ' H' => Γ.le Γ' ∧ Post c W σ Γ' (g a S') K := by
  rw [bind_ap] at h
  cases e : f S with
  | ok a S' => rw [e] at h; exact fun Γ' H' e' f => ⟨e', Post.le h e'⟩
  | exc x S' => rw [e] at h; exact h
  | bad => rw [e] at h; exact h
theorem Post.ok {a : α} {S : Sg} {K : α → Sg → Gh → Hp → Prop} {Γ' : Gh} {H' : Hp} (h : Post c W σ Γ (.ok a S) K) (e : Γ.le Γ') (f : FrOk c Γ' S σ H') : K a S Γ' H' := h Γ' H' e f
end

/-- an expression's reading -/
def rdE (c : Cg) (W : WX) (f : M R) : TE := fun σ H Q => ∃ Γ S, FrOk c Γ S σ H ∧ Post c W σ Γ (f S) fun x S' Γ' H' => ∀ v, RepR c Γ' x v → Q v H'
/-- a test's -/
def rdT (c : Cg) (W : WX) (f : M Bool) : TT := fun σ H Q => ∃ Γ S, FrOk c Γ S σ H ∧ Post c W σ Γ (f S) fun b S' Γ' H' => Q b H'
/-- an argument list's -/
def rdA (c : Cg) (W : WX) (f : M (List R)) : TA := fun σ H Q => ∃ Γ S, FrOk c Γ S σ H ∧ Post c W σ Γ (f S) fun xs S' Γ' H' => ∀ vs, RepRL c Γ' xs vs → Q vs H'

/-- where a statement goes on -/
inductive Fl where
  | nx | bk | ct | rt (x : R)
def PostS (c : Cg) (W : WX) (Γ : Gh) (r : Res Fl) (E : Ends) : Prop := match r with
  | .ok .nx S' => ∀ Γ' σ' H', Γ.le Γ' → FrOk c Γ' S' σ' H' → E.nx σ' H'
  | .ok .bk S' => ∀ Γ' σ' H', Γ.le Γ' → FrOk c Γ' S' σ' H' → E.bk σ' H'
  | .ok .ct S' => ∀ Γ' σ' H', Γ.le Γ' → FrOk c Γ' S' σ' H' → E.ct σ' H'
  | .ok (.rt x) S' => ∀ Γ' σ' H' v, Γ.le Γ' → FrOk c Γ' S' σ' H' → RepR c Γ' x v → E.rt v H'
  | .exc x S' => ∀ Γ' σ' H' cls dd, Γ.le Γ' → FrOk c Γ' S' σ' H' → XRep c Γ' H' x cls dd → W cls dd σ' H'
  | .bad => False
def rdS (c : Cg) (W : WX) (f : M Fl) : TS := fun E σ H => ∃ Γ S, FrOk c Γ S σ H ∧ PostS c W Γ (f S) E
section
variable {c : Cg} {W : WX} {Γ Γ1 : Gh} {E : Ends}
theorem PostS.le {r : Res Fl} (h : PostS c W Γ r E) (e : Γ.le Γ1) : PostS c W Γ1 r E := by
  cases r with
  | ok a S =>
    cases a with
    | nx => exact fun Γ' σ' H' e' f => h Γ' σ' H' (e.trans e') f
    | bk => exact fun Γ' σ' H' e' f => h Γ' σ' H' (e.trans e') f
    | ct => exact fun Γ' σ' H' e' f => h Γ' σ' H' (e.trans e') f
    | rt x => exact fun Γ' σ' H' v e' f q => h Γ' σ' H' v (e.trans e') f q
  | exc x S => exact fun Γ' σ' H' cls dd e' f q => h Γ' σ' H' cls dd (e.trans e') f q
  | bad => exact h
/-- an expression ahead of a statement -/
theorem PostS.bindE {α : Type} {f : M α} {g : α → M Fl} {S : Sg} {σ : L2.St} (h : PostS c W Γ ((f >>= g) S) E) :
    Post c W σ Γ (f S) fun a S' Γ' H' => Γ.le Γ' ∧ PostS c W Γ' (g a S') E := by
  rw [bind_ap] at h
  cases e : f S with
  | ok a S' => rw [e] at h; exact fun Γ' H' e' f => ⟨e', PostS.le h e'⟩
  | exc x S' => rw [e] at h; exact fun Γ' H' cls dd e' f q => h Γ' σ H' cls dd e' f q
  | bad => rw [e] at h; exact h
end
end Dd

set_option Elab.async false
set_option linter.all false
set_option maxRecDepth 100000
namespace Dd
open PySem PySem.Spec PyProof.Rows L2

/-! ### names, constants, operators -/
section
variable {X : Cx} {c : Cg} {W : WX} {e a b : Expr} {f fa fb : M R} {pos : Pos}
theorem se_of {t : TE} (h : PE X e t) (hi : ∀ σ H Q, rdE c W f σ H Q → t σ H Q) : PE X e (rdE c W f) := ⟨fun pins s σ H Q I q => h.run pins s σ H Q I (hi σ H Q q)⟩
theorem st_of {t : TT} {f : M Bool} (h : PT X e t) (hi : ∀ σ H Q, rdT c W f σ H Q → t σ H Q) : PT X e (rdT c W f) := ⟨fun pins s σ H Q I q => h.run pins s σ H Q I (hi σ H Q q)⟩
theorem sa_of {es : List Expr} {t : TA} {f : M (List R)} (h : PA X es t) (hi : ∀ σ H Q, rdA c W f σ H Q → t σ H Q) : PA X es (rdA c W f) := ⟨fun pos pins s σ H Q I q => h.run pos pins s σ H Q I (hi σ H Q q)⟩
theorem ss_of {st : Stmt} {t : TS} {f : M Fl} (h : PS X st t) (hi : ∀ E σ H, rdS c W f E σ H → t E σ H) : PS X st (rdS c W f) := ⟨fun pins s σ H E I q => h.run pins s σ H E I (hi E σ H q)⟩
theorem sss_of {st : List Stmt} {t : TS} {f : M Fl} (h : PSs X st t) (hi : ∀ E σ H, rdS c W f E σ H → t E σ H) : PSs X st (rdS c W f) := ⟨fun pins s σ H E I q => h.run pins s σ H E I (hi E σ H q)⟩

theorem RepR.pure {Γ : Gh} {d : D} {v : V} : RepR c Γ (.p d) v ↔ Rep c Γ.G d v := Iff.rfl
theorem RepR.int {Γ : Gh} {i : Int} {v : V} (h : RepR c Γ (.p (.int i)) v) : v = .int i := Rep.int_iff.mp (RepR.pure.mp h)
theorem RepR.bl {Γ : Gh} {i : Bool} {v : V} (h : RepR c Γ (.p (.bl i)) v) : v = .bl i := Rep.bl_iff.mp (RepR.pure.mp h)
theorem RepR.str {Γ : Gh} {i : Str} {v : V} (h : RepR c Γ (.p (.str i)) v) : v = .str i := Rep.str_iff.mp (RepR.pure.mp h)
theorem RepR.non {Γ : Gh} {v : V} (h : RepR c Γ (.p .non) v) : v = .non := Rep.non_iff.mp (RepR.pure.mp h)
/-- the name in slot i -/
def vr (i : Nat) : M R := fun S => match S.sl[i]? with
  | some (some x) => .ok x S
  | _ => .bad
theorem vr_ok {i : Nat} {S : Sg} {x : R} (h : S.sl[i]? = some (some x)) : vr i S = .ok x S := by unfold vr; rw [h]
theorem se_var {i : Nat} (h : PE X e (tVar i)) : PE X e (rdE c W (vr i)) := by
  refine se_of h fun σ H Q q => ?_
  obtain ⟨Γ, S, F, P⟩ := q
  unfold vr at P
  split at P
  · rename_i x hx
    obtain ⟨v, h1, h2⟩ := F.sl i x hx
    exact ⟨v, h1, P.ok Gh.le.refl F v h2⟩
  · exact P.elim
def ci (i : Int) : M R := pure (.p (.int i))
def cb (b : Bool) : M R := pure (.p (.bl b))
def cn : M R := pure (.p .non)
def cs (s : Str) : M R := pure (.p (.str s))
theorem se_tC {d : D} {v : V} (hr : ∀ G, Rep c G d v) (h : PE X e (tC v)) : PE X e (rdE c W (pure (.p d))) := by
  refine se_of h fun σ H Q q => ?_
  obtain ⟨Γ, S, F, P⟩ := q
  exact Post.ok (c := c) (W := W) P Gh.le.refl F v (hr _)
theorem se_int {i : Int} {j} : PE X (.Constant (.int i) j pos) (rdE c W (ci i)) := se_tC (fun _ => Rep.int_iff.mpr rfl) pe_int
theorem se_bl {i : Bool} {j} : PE X (.Constant (.bool i) j pos) (rdE c W (cb i)) := se_tC (fun _ => Rep.bl_iff.mpr rfl) pe_bl
theorem se_non {j} : PE X (.Constant .none j pos) (rdE c W cn) := se_tC (fun _ => Rep.non_iff.mpr rfl) pe_non
theorem se_str {i : Str} {j} : PE X (.Constant (.str i) j pos) (rdE c W (cs i)) := se_tC (fun _ => Rep.str_iff.mpr rfl) pe_str
/-- a module's constant that is pure data -/
def cd (d : D) : M R := pure (.p d)
theorem se_glob {d : D} {v : V} (hr : ∀ G, Rep c G d v) (h : PE X e (tC v)) : PE X e (rdE c W (cd d)) := se_tC hr h

def bin (op : R → R → M R) (f g : M R) : M R := do
  let x ← f
  let y ← g
  op x y
/-- an operation on values serves a rule -/
def OpD (c : Cg) (W : WX) (op : R → R → M R) (r : R2) : Prop :=
  ∀ (Γ : Gh) (S : Sg) (σ : L2.St) (H : Hp) (x y : R) (v w : V) (Q : VK), FrOk c Γ S σ H → RepR c Γ x v → RepR c Γ y w →
    Post c W σ Γ (op x y S) (fun z S' Γ' H' => ∀ u, RepR c Γ' z u → Q u H') → r v w H Q
theorem bin_read {op : R → R → M R} {r : R2} (hd : OpD c W op r) {σ : L2.St} {H : Hp} {Q : VK} (q : rdE c W (bin op fa fb) σ H Q) : tOp r (rdE c W fa) (rdE c W fb) σ H Q := by
  obtain ⟨Γ, S, F, P⟩ := q
  refine ⟨Γ, S, F, ?_⟩
  refine (Post.bind P).imp fun x S1 Γ1 H1 e1 F1 ⟨_, P1⟩ v hv => ?_
  refine ⟨Γ1, S1, F1, ?_⟩
  refine (Post.bind P1).imp fun y S2 Γ2 H2 e2 F2 ⟨_, P2⟩ w hw => ?_
  exact hd Γ2 S2 σ H2 x y v w Q F2 (hv.mono e2) hw P2
theorem se_bin {o : Operator} {op : R → R → M R} {r : R2} (ho : OpR X (binaryOp o) r) (hd : OpD c W op r) (ha : PE X a (rdE c W fa)) (hb : PE X b (rdE c W fb)) : PE X (.BinOp a o b pos) (rdE c W (bin op fa fb)) :=
  se_of (pe_op ho ha hb) fun _ _ _ q => bin_read hd q
theorem se_cmp {o : CmpOp} {op : R → R → M R} {r : R2} (ho : OpR X (compareOp o) r) (hd : OpD c W op r) (ha : PE X a (rdE c W fa)) (hb : PE X b (rdE c W fb)) (hm : behindInMarks o b = false) : PE X (.Compare a [o] [b] pos) (rdE c W (bin op fa fb)) :=
  se_of (pe_cmpR ho ha hb hm) fun _ _ _ q => bin_read hd q
theorem OpD.or {op : R → R → M R} {r r' : R2} (h : OpD c W op r) : OpD c W op (fun x y H Q => r x y H Q ∨ r' x y H Q) := fun Γ S σ H x y v w Q F hx hy P => .inl (h Γ S σ H x y v w Q F hx hy P)

/-- ints in -/
def opI (C : Int → Int → Prop) [∀ i j, Decidable (C i j)] (g : Int → Int → D) : R → R → M R := fun x y S => match x, y with
  | .p (.int i), .p (.int j) => if C i j then .ok (.p (g i j)) S else .bad
  | _, _ => .bad
def opI0 (g : Int → Int → D) : R → R → M R := fun x y S => match x, y with
  | .p (.int i), .p (.int j) => .ok (.p (g i j)) S
  | _, _ => .bad
/-- the ints behind two values -/
theorem two_ints {x y : R} {S : Sg} {α : Type} {k : Int → Int → Res α} {Z : Prop}
    (h : ∀ i j, x = .p (.int i) → y = .p (.int j) → Z) (P : (match x, y with | .p (.int i), .p (.int j) => k i j | _, _ => (Res.bad : Res α)) ≠ .bad) : Z := by
  split at P
  · exact h _ _ rfl rfl
  · exact (P rfl).elim
theorem Post.ne {α : Type} {σ : L2.St} {Γ : Gh} {r : Res α} {K : α → Sg → Gh → Hp → Prop} (P : Post c W σ Γ r K) : r ≠ .bad := by
  intro e
  rw [e] at P
  exact P
theorem od_I {C : Int → Int → Prop} [∀ i j, Decidable (C i j)] {g : Int → Int → D} {gv : Int → Int → V} (hg : ∀ G i j, Rep c G (g i j) (gv i j)) : OpD c W (opI C g) (rI C gv) := by
  intro Γ S σ H x y v w Q F hx hy P
  unfold opI at P
  refine two_ints (S := S) (k := fun i j => if C i j then Res.ok (R.p (g i j)) S else .bad) (fun i j e1 e2 => ?_) P.ne
  subst e1 e2
  have P : Post c W σ Γ (if C i j then Res.ok (R.p (g i j)) S else Res.bad) fun z S' Γ' H' => ∀ u, RepR c Γ' z u → Q u H' := P
  by_cases h : C i j
  · rw [if_pos h] at P
    exact ⟨i, j, RepR.int hx, RepR.int hy, h, P.ok Gh.le.refl F _ (hg _ _ _)⟩
  · rw [if_neg h] at P
    exact P.elim
theorem od_I0 {g : Int → Int → D} {gv : Int → Int → V} (hg : ∀ G i j, Rep c G (g i j) (gv i j)) : OpD c W (opI0 g) (rI0 gv) := by
  intro Γ S σ H x y v w Q F hx hy P
  unfold opI0 at P
  refine two_ints (S := S) (k := fun i j => Res.ok (R.p (g i j)) S) (fun i j e1 e2 => ?_) P.ne
  subst e1 e2
  exact ⟨i, j, RepR.int hx, RepR.int hy, P.ok Gh.le.refl F _ (hg _ _ _)⟩
end
instance (i j : Int) : Decidable (CDivW i j) := inferInstanceAs (Decidable (_ ∧ _))
instance (i j : Int) : Decidable (CMulW i j) := inferInstanceAs (Decidable (_ < _))
instance (i j : Int) : Decidable (CPow i j) := inferInstanceAs (Decidable (_ ∧ _ ∧ _))
instance (i j : Int) : Decidable (CShl i j) := inferInstanceAs (Decidable (_ ∧ _))

/-! ### sequences, looked into -/
/-- the items of a list or tuple -/
def getL (x : R) (S : Sg) : Option (List D) := match x with
  | .p (.tup l) => some l
  | .p (.lst l) => some l
  | .p (.scp l) => some l
  | .p _ => none
  | .r n => match S.st[n]? with
    | some (.mu (.lst l)) => some l
    | some (.fz l) => some l
    | _ => none
/-- a list's alone -/
def getLst (x : R) (S : Sg) : Option (List D) := match x with
  | .p (.lst l) => some l
  | .p (.scp l) => some l
  | .p _ => none
  | .r n => match S.st[n]? with
    | some (.mu (.lst l)) => some l
    | some (.fz l) => some l
    | _ => none
section
variable {c : Cg} {W : WX} {Γ : Gh} {S : Sg} {σ : L2.St} {H : Hp} {x : R} {v : V} {l : List D}
theorem StOk.at {st : Store} (F : StOk c Γ st H) {n : Nat} {o : Cell} (h : st[n]? = some o) : ∃ a, Γ.ρ[n]? = some a := by
  have h1 := (List.getElem?_eq_some_iff.mp h).1
  rw [F.len] at h1
  exact ⟨_, List.getElem?_eq_getElem h1⟩
theorem StOk.lst {st : Store} (F : StOk c Γ st H) {n : Nat} {l : List D} (h : st[n]? = some (.mu (.lst l))) : ∃ a vs, Γ.ρ[n]? = some a ∧ H a = some (.lst vs) ∧ RepL c Γ.G l vs ∧ Γ.G a = none ∧ Γ.L a = none := by
  obtain ⟨a, ha⟩ := F.at h
  obtain ⟨u, h1, ⟨vs, h2, h3⟩, h4, h5⟩ := F.cell n _ a h ha
  subst h2
  exact ⟨a, vs, ha, h1, h3, h4, h5⟩
theorem StOk.fro {st : Store} (F : StOk c Γ st H) {n : Nat} {l : List D} (h : st[n]? = some (.fz l)) : ∃ a vs, Γ.ρ[n]? = some a ∧ Γ.G a = some (.lst vs) ∧ RepL c Γ.G l vs := by
  obtain ⟨a, ha⟩ := F.at h
  obtain ⟨vs, h1, h2⟩ := F.cell n _ a h ha
  exact ⟨a, vs, ha, h1, h2⟩
theorem getLst_ok (F : FrOk c Γ S σ H) (hx : RepR c Γ x v) (h : getLst x S = some l) : ∃ a vs, v = .ref a ∧ SqL c.K H a vs ∧ RepL c Γ.G l vs := by
  cases x with
  | p d =>
    cases d with
    | lst l' =>
      cases h
      obtain ⟨a, vs, h1, h2, h3⟩ := Rep.lst_iff.mp hx
      exact ⟨a, vs, h1, .inl (.inl (F.s.g _ _ h2)), h3⟩
    | scp l' =>
      cases h
      obtain ⟨a, vs, h1, h2, h3⟩ := Rep.scp_iff.mp hx
      exact ⟨a, vs, h1, SqL.mono F.s.g h2, h3⟩
    | _ => cases h
  | r n =>
    obtain ⟨a, h1, h2⟩ := hx
    unfold getLst at h
    simp only at h
    split at h
    · rename_i l' e
      cases h
      obtain ⟨a', vs, h3, h4, h5, _⟩ := F.s.lst e
      rw [h1] at h3; cases h3
      exact ⟨a, vs, h2, .inl (.inl h4), h5⟩
    · rename_i l' e
      cases h
      obtain ⟨a', vs, h3, h4, h5⟩ := F.s.fro e
      rw [h1] at h3; cases h3
      exact ⟨a, vs, h2, .inl (.inl (F.s.g _ _ h4)), h5⟩
    · cases h
theorem getL_ok (F : FrOk c Γ S σ H) (hx : RepR c Γ x v) (h : getL x S = some l) : ∃ a vs, v = .ref a ∧ (SqL c.K H a vs ∨ SqT c.K H a vs) ∧ RepL c Γ.G l vs := by
  cases x with
  | p d =>
    cases d with
    | lst l' =>
      cases h
      obtain ⟨a, vs, h1, h2, h3⟩ := Rep.lst_iff.mp hx
      exact ⟨a, vs, h1, .inl (.inl (.inl (F.s.g _ _ h2))), h3⟩
    | scp l' =>
      cases h
      obtain ⟨a, vs, h1, h2, h3⟩ := Rep.scp_iff.mp hx
      exact ⟨a, vs, h1, .inl (SqL.mono F.s.g h2), h3⟩
    | tup l' =>
      cases h
      obtain ⟨a, vs, h1, h2, h3⟩ := Rep.tup_iff.mp hx
      exact ⟨a, vs, h1, .inr (TupS.mono F.s.g h2).sq, h3⟩
    | _ => cases h
  | r n =>
    obtain ⟨a, vs, h1, h2, h3⟩ := getLst_ok (x := .r n) F hx h
    exact ⟨a, vs, h1, .inl h2, h3⟩

/-! ### the store changes: a new object, a new cell, a list written, a list frozen -/
theorem RepX.of {Γ : Gh} {a : Addr} {n : Str} {d : D} {v : V} (h : Rep c Γ.G d v) : RepX c Γ a n d v := by
  cases d <;> first | exact h | exact (Rep.ol_iff.mp h).elim
theorem RepX.mono {Γ Γ' : Gh} {a : Addr} {n : Str} {d : D} {v : V} (e : Ext Γ.G Γ'.G) (ho : ∀ b f ws, Γ.O b = some (a, f, ws) → Γ'.O b = some (a, f, ws)) (h : RepX c Γ a n d v) : RepX c Γ' a n d v := by
  cases d with
  | ol l =>
    obtain ⟨b, ws, h1, h2, h3⟩ := h
    exact ⟨b, ws, h1, ho _ _ _ h2, RepL.mono e h3⟩
  | _ => exact Rep.mono e h
theorem RepF.mono {Γ Γ' : Gh} {a : Addr} (e : Ext Γ.G Γ'.G) (ho : ∀ b f ws, Γ.O b = some (a, f, ws) → Γ'.O b = some (a, f, ws)) : ∀ {fs : List (Str × D)} {vs : List (Str × V)}, RepF c Γ a fs vs → RepF c Γ' a fs vs
  | [], _, h => h
  | (n, x) :: xs, _, h => by
    obtain ⟨v, r, h1, h2, h3⟩ := h
    exact ⟨v, r, h1, h2.mono e ho, RepF.mono e ho h3⟩
theorem ConOk.mono {Γ Γ' : Gh} (e : Γ.le Γ') (hO : Γ'.O = Γ.O) {a : Addr} {o : Con} {u : HO} (h : ConOk c Γ a o u) : ConOk c Γ' a o u := by
  cases o with
  | lst l => obtain ⟨vs, k1, k2⟩ := h; exact ⟨vs, k1, RepL.mono e.g k2⟩
  | dct kvs => exact h
  | obj k fs => obtain ⟨dx, vs, k1, k2, k3⟩ := h; exact ⟨dx, vs, k1, k2.mono e.g (fun b f ws q => by rw [hO]; exact q), k3⟩
  | dt kvs => obtain ⟨w0, xs, ep, k1, k2⟩ := h; exact ⟨w0, xs, ep, k1, k2.mono e.g⟩
/-- a new object that never changes -/
theorem StOk.newG {st : Store} {p : Addr} {o : HO} (F : StOk c Γ st H) (hp : H p = none) : StOk c { Γ with G := upd Γ.G p o } st (upd H p o) where
  g := fun a u e => by
    by_cases h : a = p
    · have e' : upd Γ.G p o a = some u := e
      subst h; rw [upd_same] at e' ⊢; exact e'
    · have e' : upd Γ.G p o a = some u := e
      rw [upd_ne h] at e' ⊢; exact F.g _ _ e'
  l := fun a u e => by rw [upd_ne (ne_of_none (F.l _ _ e) hp)]; exact F.l _ _ e
  gl := fun a u e => by
    show upd Γ.G p o a = none
    rw [upd_ne (ne_of_none (F.l _ _ e) hp)]; exact F.gl a u e
  len := F.len
  cell := fun n x a e1 e2 => by
    have hGp : Γ.G p = none := Ext.none F.g hp
    have ex : Ext Γ.G (upd Γ.G p o) := Ext.upd hGp
    have q := F.cell n x a e1 e2
    cases x with
    | mu u =>
      obtain ⟨w, h1, h2, h3, h4⟩ := q
      have hap : a ≠ p := ne_of_none h1 hp
      refine ⟨w, by rw [upd_ne hap]; exact h1, ?_, by show upd Γ.G p o a = none; rw [upd_ne hap]; exact h3, h4⟩
      cases u with
      | lst l => obtain ⟨vs, k1, k2⟩ := h2; exact ⟨vs, k1, RepL.mono ex k2⟩
      | dct kvs => exact h2
      | obj k fs =>
        have le : Γ.le { Γ with G := upd Γ.G p o } := ⟨ex, rfl, [], by simp⟩
        exact ConOk.mono le rfl h2
      | dt kvs =>
        have le : Γ.le { Γ with G := upd Γ.G p o } := ⟨ex, rfl, [], by simp⟩
        exact ConOk.mono le rfl h2
    | fz l =>
      obtain ⟨vs, h1, h2⟩ := q
      exact ⟨vs, ex _ _ h1, RepL.mono ex h2⟩
    | dead => trivial
  inj := F.inj
  own := fun b a f ws e => by
    obtain ⟨h1, h2, h3, h4⟩ := F.own b a f ws e
    have hb : b ≠ p := ne_of_none h1 hp
    exact ⟨by rw [upd_ne hb]; exact h1, by show upd Γ.G p o b = none; rw [upd_ne hb]; exact h2, h3, h4⟩
/-- a new cell -/
theorem StOk.newC {st : Store} {p : Addr} {o : Con} {u : HO} (F : StOk c Γ st H) (hp : H p = none) (ho : ConOk c Γ p o u) : StOk c { Γ with ρ := Γ.ρ ++ [p] } (st ++ [.mu o]) (upd H p u) where
  g := fun a w e => by rw [upd_ne (ne_of_none (F.g _ _ e) hp)]; exact F.g _ _ e
  l := fun a w e => by rw [upd_ne (ne_of_none (F.l _ _ e) hp)]; exact F.l _ _ e
  gl := F.gl
  len := by simp [F.len]
  cell := fun n x a e1 e2 => by
    have le : Γ.le { Γ with ρ := Γ.ρ ++ [p] } := ⟨Ext.refl, rfl, [p], rfl⟩
    by_cases hn : n < st.length
    · rw [List.getElem?_append_left hn] at e1
      have hn2 : n < Γ.ρ.length := by rw [← F.len]; exact hn
      have e2' : (Γ.ρ ++ [p])[n]? = some a := e2
      rw [List.getElem?_append_left hn2] at e2'
      have q := F.cell n x a e1 e2'
      cases x with
      | mu w =>
        obtain ⟨w', h1, h2, h3, h4⟩ := q
        exact ⟨w', by rw [upd_ne (ne_of_none h1 hp)]; exact h1, h2.mono le rfl, h3, h4⟩
      | fz l => exact q
      | dead => trivial
    · have hn' : n = st.length := by
        have := (List.getElem?_eq_some_iff.mp e1).1
        simp at this
        omega
      subst hn'
      have e2' : (Γ.ρ ++ [p])[st.length]? = some a := e2
      rw [F.len] at e2'
      simp at e1 e2'
      subst e1 e2'
      exact ⟨u, upd_same, ho.mono le rfl, Ext.none F.g hp, Ext.none F.l hp⟩
  own := fun b a f ws e => by
    obtain ⟨h1, h2, h3, h4⟩ := F.own b a f ws e
    have hb : b ≠ p := ne_of_none h1 hp
    refine ⟨by rw [upd_ne hb]; exact h1, h2, h3, fun n q e1 e2 => ?_⟩
    have e2' : (Γ.ρ ++ [p])[n]? = some b := e2
    by_cases hn : n < st.length
    · have hn2 : n < Γ.ρ.length := by rw [← F.len]; exact hn
      rw [List.getElem?_append_left hn] at e1
      rw [List.getElem?_append_left hn2] at e2'
      exact h4 n q e1 e2'
    · have hn' : n = st.length := by
        have := (List.getElem?_eq_some_iff.mp e1).1
        simp at this
        omega
      subst hn'
      rw [F.len] at e2'
      simp at e2'
      exact hb e2'.symm
  inj := fun n m a o1 o2 h1 h2 h3 h4 => by
    have h3' : (Γ.ρ ++ [p])[n]? = some a := h3
    have h4' : (Γ.ρ ++ [p])[m]? = some a := h4
    have old : ∀ (k : Nat) (o : Con), k < st.length → (st ++ [Cell.mu o])[k]? = st[k]? := fun k o hk => List.getElem?_append_left hk
    have ne : ∀ (k : Nat) (o : Con), k < st.length → st[k]? = some (.mu o) → Γ.ρ[k]? = some a → a ≠ p := fun k o hk e1 e2 => by
      obtain ⟨w, q, _⟩ := F.cell k _ a e1 e2
      exact ne_of_none q hp
    by_cases hn : n < st.length
    · have hn2 : n < Γ.ρ.length := by rw [← F.len]; exact hn
      rw [List.getElem?_append_left hn] at h1
      rw [List.getElem?_append_left hn2] at h3'
      by_cases hm : m < st.length
      · have hm2 : m < Γ.ρ.length := by rw [← F.len]; exact hm
        rw [List.getElem?_append_left hm] at h2
        rw [List.getElem?_append_left hm2] at h4'
        exact F.inj n m a o1 o2 h1 h2 h3' h4'
      · have hm' : m = st.length := by
          have := (List.getElem?_eq_some_iff.mp h2).1
          simp at this; omega
        subst hm'
        rw [F.len] at h4'
        simp at h4'
        exact ((ne n o1 hn h1 h3') h4'.symm).elim
    · have hn' : n = st.length := by
        have := (List.getElem?_eq_some_iff.mp h1).1
        simp at this; omega
      subst hn'
      rw [F.len] at h3'
      simp at h3'
      by_cases hm : m < st.length
      · have hm2 : m < Γ.ρ.length := by rw [← F.len]; exact hm
        rw [List.getElem?_append_left hm] at h2
        rw [List.getElem?_append_left hm2] at h4'
        exact ((ne m o2 hm h2 h4') h3'.symm).elim
      · have := (List.getElem?_eq_some_iff.mp h2).1
        simp at this; omega
/-- a cell is written -/
theorem StOk.setC {st : Store} {n : Nat} {a : Addr} {o o' : Con} {u : HO} (F : StOk c Γ st H) (h : st[n]? = some (.mu o)) (ha : Γ.ρ[n]? = some a) (ho : ConOk c Γ a o' u) : StOk c Γ (st.set n (.mu o')) (upd H a u) := by
  obtain ⟨w, h1, h2, h3, h4⟩ := F.cell n _ a h ha
  have hlt := (List.getElem?_eq_some_iff.mp h).1
  have back : ∀ (m : Nat) (p : Con), (st.set n (.mu o'))[m]? = some (.mu p) → ∃ p', st[m]? = some (.mu p') := fun m p e => by
    by_cases hm : n = m
    · subst hm; exact ⟨o, h⟩
    · rw [List.getElem?_set_ne hm] at e; exact ⟨p, e⟩
  refine ⟨fun b x e => ?_, fun b x e => ?_, F.gl, by simpa using F.len, fun m x b e1 e2 => ?_, fun m k b p p' e1 e2 e3 e4 => ?_, fun b a' f ws e => ?_⟩
  · have : b ≠ a := fun z => by rw [z, h3] at e; cases e
    rw [upd_ne this]; exact F.g _ _ e
  · have : b ≠ a := fun z => by rw [z, h4] at e; cases e
    rw [upd_ne this]; exact F.l _ _ e
  · by_cases hm : n = m
    · subst hm
      rw [List.getElem?_set_self hlt] at e1
      cases e1
      rw [ha] at e2; cases e2
      exact ⟨u, upd_same, ho, h3, h4⟩
    · rw [List.getElem?_set_ne hm] at e1
      have q := F.cell m x b e1 e2
      cases x with
      | mu p =>
        obtain ⟨w', q1, q2, q3, q4⟩ := q
        have : b ≠ a := fun z => by subst z; exact hm (F.inj n m b o p h e1 ha e2)
        exact ⟨w', by rw [upd_ne this]; exact q1, q2, q3, q4⟩
      | fz l => exact q
      | dead => trivial
  · obtain ⟨q1, r1⟩ := back m p e1
    obtain ⟨q2, r2⟩ := back k p' e2
    exact F.inj m k b q1 q2 r1 r2 e3 e4
  · obtain ⟨k1, k2, k3, k4⟩ := F.own b a' f ws e
    have hb : b ≠ a := fun z => k4 n o h (by rw [z]; exact ha)
    refine ⟨by rw [upd_ne hb]; exact k1, k2, k3, fun m p e1 e2 => ?_⟩
    obtain ⟨q1, r1⟩ := back m p e1
    exact k4 m q1 r1 e2
/-- what is known of a cell no longer matters -/
theorem StOk.drop {st : Store} {n : Nat} {x : Cell} (F : StOk c Γ st H) (hx : ∀ a, Γ.ρ[n]? = some a → CellOk c Γ H a x) (hm : ∀ o, x ≠ .mu o) : StOk c Γ (st.set n x) H := by
  have old : ∀ (m : Nat) (p : Con), (st.set n x)[m]? = some (.mu p) → st[m]? = some (.mu p) := fun m p e => by
      by_cases h : n = m
      · subst h
        have hlt := (List.getElem?_eq_some_iff.mp e).1
        simp at hlt
        rw [List.getElem?_set_self hlt] at e
        cases e
        exact (hm p rfl).elim
      · rw [List.getElem?_set_ne h] at e; exact e
  refine ⟨F.g, F.l, F.gl, by simpa using F.len, fun m y b e1 e2 => ?_, fun m k b p p' e1 e2 e3 e4 => ?_, fun b a f ws e => let ⟨k1, k2, k3, k4⟩ := F.own b a f ws e; ⟨k1, k2, k3, fun m q e1 e2 => k4 m q (old m q e1) e2⟩⟩
  · by_cases h : n = m
    · subst h
      have hlt := (List.getElem?_eq_some_iff.mp e1).1
      simp at hlt
      rw [List.getElem?_set_self hlt] at e1
      cases e1
      exact hx b e2
    · rw [List.getElem?_set_ne h] at e1
      exact F.cell m y b e1 e2
  · have old : ∀ (m : Nat) (p : Con), (st.set n x)[m]? = some (.mu p) → st[m]? = some (.mu p) := fun m p e => by
      by_cases h : n = m
      · subst h
        have hlt := (List.getElem?_eq_some_iff.mp e).1
        simp at hlt
        rw [List.getElem?_set_self hlt] at e
        cases e
        exact (hm p rfl).elim
      · rw [List.getElem?_set_ne h] at e; exact e
    exact F.inj m k b p p' (old m p e1) (old k p' e2) e3 e4
/-- G takes in what stands at an address, no cell's any more -/
theorem StOk.takeG {st : Store} {a : Addr} {o : HO} (F : StOk c Γ st H) (h : H a = some o) (hg : Γ.G a = none) (hL : Γ.L a = none) (hn : ∀ (n : Nat) (p : Con), st[n]? = some (.mu p) → Γ.ρ[n]? ≠ some a) (hO : Γ.O a = none) : StOk c { Γ with G := upd Γ.G a o } st H where
  g := fun b u e => by
    have e' : upd Γ.G a o b = some u := e
    by_cases hb : b = a
    · subst hb; rw [upd_same] at e'; cases e'; exact h
    · rw [upd_ne hb] at e'; exact F.g _ _ e'
  l := F.l
  gl := fun b u e => by
    show upd Γ.G a o b = none
    have : b ≠ a := fun z => by
      have e' : Γ.L b = some u := e
      rw [z, hL] at e'; cases e'
    rw [upd_ne this]; exact F.gl b u e
  len := F.len
  cell := fun n x b e1 e2 => by
    have ex : Ext Γ.G (upd Γ.G a o) := Ext.upd hg
    have le : Γ.le { Γ with G := upd Γ.G a o } := ⟨ex, rfl, [], by simp⟩
    have q := F.cell n x b e1 e2
    cases x with
    | mu p =>
      obtain ⟨w, q1, q2, q3, q4⟩ := q
      have hb : b ≠ a := fun z => hn n p e1 (by rw [← z]; exact e2)
      exact ⟨w, q1, q2.mono le rfl, by show upd Γ.G a o b = none; rw [upd_ne hb]; exact q3, q4⟩
    | fz l => obtain ⟨vs, q1, q2⟩ := q; exact ⟨vs, ex _ _ q1, RepL.mono ex q2⟩
    | dead => trivial
  inj := F.inj
  own := fun b a' f ws e => by
    obtain ⟨k1, k2, k3, k4⟩ := F.own b a' f ws e
    have hb : b ≠ a := fun z => by
      have e' : Γ.O b = some (a', f, ws) := e
      rw [z, hO] at e'; cases e'
    exact ⟨k1, by show upd Γ.G a o b = none; rw [upd_ne hb]; exact k2, k3, k4⟩
theorem StOk.noO {st : Store} {n : Nat} {a : Addr} {o : Con} (F : StOk c Γ st H) (h : st[n]? = some (.mu o)) (ha : Γ.ρ[n]? = some a) : Γ.O a = none := by
  cases e : Γ.O a with
  | none => rfl
  | some x =>
    obtain ⟨b, f, ws⟩ := x
    exact ((F.own a b f ws e).2.2.2 n o h ha).elim
theorem FrOk.of {Γ' : Gh} {st' : Store} {H' : Hp} (F : FrOk c Γ S σ H) (e : Γ.le Γ') (F' : StOk c Γ' st' H') : FrOk c Γ' { S with st := st' } σ H' :=
  ⟨F', F.len, fun i x h => let ⟨v, h1, h2⟩ := F.sl i x h; ⟨v, h1, h2.mono e⟩⟩
end
/-- an object's data, a screen's -/
def objD (k : Nat) (fs : List (Str × D)) : Option D := match fs with
  | [] => none
  | f :: r => match f.2 with
    | .tup l => if k = 0 ∧ f.1 = "own_levels" ∧ r.isEmpty = true then some (.scr l) else none
    | _ => none
/-- a value as pure data: a list's cell is frozen, a made screen is one -/
def pureC (n : Nat) (S : Sg) : Option Cell → Res D
  | some (.fz l) => .ok (.lst l) S
  | some (.mu o) => match o with
    | .lst l => .ok (.lst l) { S with st := S.st.set n (.fz l) }
    | .dct kvs => if kvs.isEmpty = true then .ok .edct { S with st := S.st.set n .dead } else .bad
    | .obj k fs => match objD k fs with
      | some d => .ok d { S with st := S.st.set n .dead }
      | none => if 1 ≤ k ∧ k ≤ 99 then .ok (.opq k) { S with st := S.st.set n .dead } else .bad
    | .dt _ => .bad
  | _ => .bad
def pure1 : R → M D
  | .p d => pure d
  | .r n => fun S => pureC n S S.st[n]?
section
variable {c : Cg} {W : WX} {Γ : Gh} {S : Sg} {σ : L2.St} {H : Hp} {x : R} {v : V} {l : List D}
theorem freeze_aux {n : Nat} {o : Con} {a : Addr} {u : HO} {d : D} {y : Cell} (F : FrOk c Γ S σ H) (h : S.st[n]? = some (.mu o)) (ha : Γ.ρ[n]? = some a) (hu : H a = some u) (hG : Γ.G a = none) (hL : Γ.L a = none)
    (hd : Rep c (upd Γ.G a u) d (.ref a)) (hy : ∀ o, y ≠ .mu o) (hc : CellOk c { Γ with G := upd Γ.G a u } H a y) :
    ∃ Γ', Γ.le Γ' ∧ FrOk c Γ' { S with st := S.st.set n y } σ H ∧ Rep c Γ'.G d (.ref a) := by
  have ex : Ext Γ.G (upd Γ.G a u) := Ext.upd hG
  have le : Γ.le { Γ with G := upd Γ.G a u } := ⟨ex, rfl, [], by simp⟩
  have F1 : StOk c Γ (S.st.set n .dead) H := F.s.drop (fun _ _ => trivial) (fun _ => by simp)
  have F2 : StOk c { Γ with G := upd Γ.G a u } (S.st.set n .dead) H := F1.takeG (hO := F.s.noO h ha) hu hG hL fun m p e1 e2 => by
    by_cases hm : n = m
    · subst hm
      have hlt := (List.getElem?_eq_some_iff.mp h).1
      rw [List.getElem?_set_self hlt] at e1
      cases e1
    · rw [List.getElem?_set_ne hm] at e1
      exact hm (F.s.inj n m a o p h e1 ha e2)
  have F3 : StOk c { Γ with G := upd Γ.G a u } ((S.st.set n .dead).set n y) H := F2.drop (fun b hb => by
    have hb' : Γ.ρ[n]? = some b := hb
    rw [ha] at hb'; cases hb'; exact hc) hy
  rw [List.set_set] at F3
  exact ⟨_, le, F.of le F3, hd⟩
theorem objD_some {k : Nat} {fs : List (Str × D)} {d : D} (h : objD k fs = some d) : ∃ l, d = .scr l ∧ k = 0 ∧ fs = [(("own_levels" : Str), D.tup l)] := by
  cases fs with
  | nil => cases h
  | cons f r =>
    obtain ⟨nm, x⟩ := f
    cases x with
    | tup l =>
      have h : (if k = 0 ∧ nm = "own_levels" ∧ r.isEmpty = true then some (D.scr l) else none) = some d := h
      by_cases q : k = 0 ∧ nm = "own_levels" ∧ r.isEmpty = true
      · rw [if_pos q] at h
        cases h
        obtain ⟨q1, q2, q3⟩ := q
        subst q1 q2
        cases r with
        | nil => exact ⟨l, rfl, rfl, rfl⟩
        | cons y ys => cases q3
      · rw [if_neg q] at h; cases h
    | _ => cases h
theorem pure1_ok {K : D → Sg → Gh → Hp → Prop} (F : FrOk c Γ S σ H) (hx : RepR c Γ x v) (P : Post c W σ Γ (pure1 x S) K) : ∃ d Γ' S', Γ.le Γ' ∧ FrOk c Γ' S' σ H ∧ Rep c Γ'.G d v ∧ K d S' Γ' H := by
  cases x with
  | p d => exact ⟨d, Γ, S, Gh.le.refl, F, hx, Post.ok (c := c) (W := W) P Gh.le.refl F⟩
  | r n =>
    obtain ⟨a, ha, hv⟩ := hx
    subst hv
    have P : Post c W σ Γ (pureC n S S.st[n]?) K := P
    cases e : S.st[n]? with
    | none => rw [e] at P; exact P.elim
    | some y =>
      rw [e] at P
      cases y with
      | dead => exact P.elim
      | fz l =>
        obtain ⟨a', vs, h1, h2, h3⟩ := F.s.fro e
        rw [ha] at h1; cases h1
        exact ⟨.lst l, Γ, S, Gh.le.refl, F, Rep.lst_iff.mpr ⟨a, vs, rfl, h2, h3⟩, Post.ok (c := c) (W := W) P Gh.le.refl F⟩
      | mu o =>
        obtain ⟨u, h1, h2, h4, h5⟩ := F.s.cell n _ a e ha
        cases o with
        | lst l =>
          obtain ⟨vs, h2, h3⟩ := h2
          subst h2
          have ex : Ext Γ.G (upd Γ.G a (.lst vs)) := Ext.upd h4
          obtain ⟨Γ', le, F', R'⟩ := freeze_aux (d := .lst l) (y := .fz l) F e ha h1 h4 h5 (Rep.lst_iff.mpr ⟨a, vs, rfl, upd_same, RepL.mono ex h3⟩) (fun _ => by simp) ⟨vs, upd_same, RepL.mono ex h3⟩
          exact ⟨_, Γ', _, le, F', R', Post.ok (c := c) (W := W) P le F'⟩
        | dt kvs => exact P.elim
        | dct kvs =>
          have P : Post c W σ Γ (if kvs.isEmpty = true then Res.ok D.edct { S with st := S.st.set n .dead } else .bad) K := P
          by_cases hk : kvs.isEmpty = true
          · rw [if_pos hk] at P
            obtain ⟨_, h2⟩ := h2
            subst h2
            obtain ⟨Γ', le, F', R'⟩ := freeze_aux (d := .edct) (y := .dead) F e ha h1 h4 h5 (Rep.edct_iff.mpr ⟨a, rfl, upd_same⟩) (fun _ => by simp) trivial
            exact ⟨_, Γ', _, le, F', R', Post.ok (c := c) (W := W) P le F'⟩
          · rw [if_neg hk] at P; exact P.elim
        | obj k fs =>
          have P : Post c W σ Γ (match objD k fs with | some d => Res.ok d { S with st := S.st.set n .dead } | none => if 1 ≤ k ∧ k ≤ 99 then Res.ok (.opq k) { S with st := S.st.set n .dead } else .bad) K := P
          cases hd : objD k fs with
          | none =>
            rw [hd] at P
            have P : Post c W σ Γ (if 1 ≤ k ∧ k ≤ 99 then Res.ok (.opq k) { S with st := S.st.set n .dead } else .bad) K := P
            by_cases hk : 1 ≤ k ∧ k ≤ 99
            · rw [if_pos hk] at P
              obtain ⟨dx, vs, rfl, _, _⟩ := h2
              obtain ⟨Γ', le, F', R'⟩ := freeze_aux (d := .opq k) (y := .dead) F e ha h1 h4 h5 (Rep.opq_iff.mpr ⟨a, dx, vs, rfl, upd_same⟩) (fun _ => by simp) trivial
              exact ⟨_, Γ', _, le, F', R', Post.ok (c := c) (W := W) P le F'⟩
            · rw [if_neg hk] at P; exact P.elim
          | some d =>
            rw [hd] at P
            obtain ⟨l, rfl, rfl, rfl⟩ := objD_some hd
            obtain ⟨dx, fs, h2, ⟨v', r, h3, h3', h3''⟩, _⟩ := h2
            have h3b : r = [] := h3''
            subst h3b h3 h2
            obtain ⟨b, vs, k1, k2, k3⟩ := Rep.tup_iff.mp h3'
            subst k1
            have ex : Ext Γ.G (upd Γ.G a (.ins (c.cls 0) dx [("own_levels", .ref b)])) := Ext.upd h4
            obtain ⟨Γ', le, F', R'⟩ := freeze_aux (d := .scr l) (y := .dead) F e ha h1 h4 h5 (Rep.scr_iff.mpr ⟨a, dx, b, vs, rfl, upd_same, TupS.mono ex k2, RepL.mono ex k3⟩) (fun _ => by simp) trivial
            exact ⟨_, Γ', _, le, F', R', Post.ok (c := c) (W := W) P le F'⟩
end
end Dd

set_option Elab.async false
set_option linter.all false
set_option maxRecDepth 100000
namespace Dd
open PySem PySem.Spec PyProof.Rows L2

/-! ### argument lists, displays -/
def aN : M (List R) := pure []
def aC (f : M R) (g : M (List R)) : M (List R) := do
  let x ← f
  let xs ← g
  pure (x :: xs)
def pur (f : M R) : M R := do
  let x ← f
  let d ← pure1 x
  pure (.p d)
def pureL : List R → M (List D)
  | [] => pure []
  | x :: xs => do
    let d ← pure1 x
    let ds ← pureL xs
    pure (d :: ds)
def allocT (ds : List D) : M R := fun S => if ds.length ≤ sizeLine then .ok (.p (.tup ds)) S else .bad
def allocL (ds : List D) : M R := fun S => if ds.length ≤ sizeLine then .ok (.r S.st.length) { S with st := S.st ++ [.mu (.lst ds)] } else .bad
def tupE (g : M (List R)) : M R := do
  let xs ← g
  let ds ← pureL xs
  allocT ds
def lstE (g : M (List R)) : M R := do
  let xs ← g
  let ds ← pureL xs
  allocL ds
section
variable {X : Cx} {c : Cg} {W : WX} {e a b : Expr} {es : List Expr} {f fa fb : M R} {g : M (List R)} {pos : Pos}
theorem sa_nil : PA X [] (rdA c W aN) := sa_of pa_nil fun σ H Q q => by
  obtain ⟨Γ, S, F, P⟩ := q
  exact Post.ok (c := c) (W := W) P Gh.le.refl F [] rfl
theorem sa_cons (ha : PE X e (rdE c W f)) (hr : PA X es (rdA c W g)) (hs : starEach (e :: es) X.env = (false, eval e X.env) :: starEach es X.env := by rfl) : PA X (e :: es) (rdA c W (aC f g)) :=
  sa_of (pa_cons ha hr hs) fun σ H Q q => by
    obtain ⟨Γ, S, F, P⟩ := q
    refine ⟨Γ, S, F, ?_⟩
    refine (Post.bind P).imp fun x S1 Γ1 H1 e1 F1 ⟨_, P1⟩ v hv => ?_
    refine ⟨Γ1, S1, F1, ?_⟩
    refine (Post.bind P1).imp fun xs S2 Γ2 H2 e2 F2 ⟨_, P2⟩ vs hvs => ?_
    exact Post.ok (c := c) (W := W) P2 Gh.le.refl F2 (v :: vs) ⟨v, vs, rfl, hv.mono e2, hvs⟩
theorem se_pur (ha : PE X e (rdE c W f)) : PE X e (rdE c W (pur f)) := se_of ha fun σ H Q q => by
  obtain ⟨Γ, S, F, P⟩ := q
  refine ⟨Γ, S, F, ?_⟩
  refine (Post.bind P).imp fun x S1 Γ1 H1 e1 F1 ⟨_, P1⟩ v hv => ?_
  obtain ⟨d, Γ2, S2, e2, F2, hd, _, P2⟩ := pure1_ok F1 hv (Post.bind P1)
  exact Post.ok (c := c) (W := W) P2 Gh.le.refl F2 v hd
theorem pureL_ok {σ : L2.St} {H : Hp} : ∀ {xs : List R} {vs : List V} {Γ : Gh} {S : Sg} {K : List D → Sg → Gh → Hp → Prop}, FrOk c Γ S σ H → RepRL c Γ xs vs → Post c W σ Γ (pureL xs S) K → ∃ ds Γ' S', Γ.le Γ' ∧ FrOk c Γ' S' σ H ∧ RepL c Γ'.G ds vs ∧ K ds S' Γ' H
  | [], vs, Γ, S, K, F, hx, P => ⟨[], Γ, S, Gh.le.refl, F, RepL.nil_iff.mpr hx, Post.ok (c := c) (W := W) P Gh.le.refl F⟩
  | x :: xs, vs, Γ, S, K, F, hx, P => by
    obtain ⟨v, r, rfl, h1, h2⟩ := hx
    obtain ⟨d, Γ1, S1, e1, F1, hd, _, P1⟩ := pure1_ok F h1 (Post.bind P)
    obtain ⟨ds, Γ2, S2, e2, F2, hds, _, P2⟩ := pureL_ok F1 (RepRL.mono e1 h2) (Post.bind P1)
    exact ⟨d :: ds, Γ2, S2, e1.trans e2, F2, RepL.cons (Rep.mono e2.g hd) hds, Post.ok (c := c) (W := W) P2 Gh.le.refl F2⟩
/-- a tuple that is made: known to have no dict -/
def tTupF (t : TA) : TE := fun σ H Q => t σ H fun xs H1 => xs.length ≤ sizeLine ∧ ∀ p o, H1 p = none → o.dict = none → Q (.ref p) (upd H1 p (.frz o (.tup xs)))
theorem pe_tupF {x1} {t : TA} (h : PA X es t) : PE X (.Tuple es x1 pos) (tTupF t) := by
  refine ⟨fun pins s σ H Q I hq => ?_⟩
  refine wpAny_Tuple_spliced (thn (h.run pos pins s σ H _ I hq) fun us s1 ⟨xs, H1, I1, r, z, q⟩ => ⟨by rw [← r.length]; exact z, ?_⟩)
  have hf : H1 s1.heap.objs.size = none := I1.hok.fresh (Nat.le_refl _)
  refine ⟨.ref s1.heap.objs.size, upd H1 s1.heap.objs.size (.frz { cls := .type "tuple", data := .seq us.toArray } (.tup xs)), I1.laid (t' := s1.toks) (fun b u e => Heap.get?_push_of_some _ e) (Nat.le_refl _) ?_, rfl, q _ _ hf rfl⟩
  exact ⟨Heap.get?_push_size _ rfl, z, us, r, ⟨_, Heap.get?_push_size _ rfl, rfl, _, rfl⟩⟩
theorem newT_ok {Γ : Gh} {S : Sg} {σ : L2.St} {H : Hp} {ds : List D} {vs : List V} {p : Addr} {o : Obj} (F : FrOk c Γ S σ H) (h : RepL c Γ.G ds vs) (hp : H p = none) (ho : o.dict = none) :
    ∃ Γ', Γ.le Γ' ∧ FrOk c Γ' S σ (upd H p (.frz o (.tup vs))) ∧ Rep c Γ'.G (.tup ds) (.ref p) := by
  have hG : Γ.G p = none := Ext.none F.s.g hp
  have ex : Ext Γ.G (upd Γ.G p (.frz o (.tup vs))) := Ext.upd hG
  have le : Γ.le { Γ with G := upd Γ.G p (.frz o (.tup vs)) } := ⟨ex, rfl, [], by simp⟩
  exact ⟨_, le, F.of le (F.s.newG hp), Rep.tup_iff.mpr ⟨p, vs, rfl, .inl ⟨o, upd_same, ho⟩, RepL.mono ex h⟩⟩
theorem newL_ok {Γ : Gh} {S : Sg} {σ : L2.St} {H : Hp} {ds : List D} {vs : List V} {p : Addr} (F : FrOk c Γ S σ H) (h : RepL c Γ.G ds vs) (hp : H p = none) :
    ∃ Γ', Γ.le Γ' ∧ FrOk c Γ' { S with st := S.st ++ [.mu (.lst ds)] } σ (upd H p (.lst vs)) ∧ RepR c Γ' (.r S.st.length) (.ref p) := by
  have le : Γ.le { Γ with ρ := Γ.ρ ++ [p] } := ⟨Ext.refl, rfl, [p], rfl⟩
  refine ⟨_, le, F.of le (F.s.newC hp ⟨vs, rfl, h⟩), p, ?_, rfl⟩
  show (Γ.ρ ++ [p])[S.st.length]? = some p
  rw [F.s.len]; simp
theorem se_tup {x1} (h : PA X es (rdA c W g)) : PE X (.Tuple es x1 pos) (rdE c W (tupE g)) := se_of (pe_tupF h) fun σ H Q q => by
  obtain ⟨Γ, S, F, P⟩ := q
  refine ⟨Γ, S, F, ?_⟩
  refine (Post.bind P).imp fun xs S1 Γ1 H1 e1 F1 ⟨_, P1⟩ vs hvs => ?_
  obtain ⟨ds, Γ2, S2, e2, F2, hds, _, P2⟩ := pureL_ok F1 hvs (Post.bind P1)
  unfold allocT at P2
  by_cases hz : ds.length ≤ sizeLine
  · rw [if_pos hz] at P2
    refine ⟨by rw [hds.length]; exact hz, fun p o hp ho => ?_⟩
    obtain ⟨Γ3, e3, F3, r3⟩ := newT_ok F2 hds hp ho
    exact P2.ok e3 F3 _ r3
  · rw [if_neg hz] at P2; exact P2.elim
theorem se_lst (h : PA X es (rdA c W g)) : PE X (.List es pos) (rdE c W (lstE g)) := se_of (pe_lst h) fun σ H Q q => by
  obtain ⟨Γ, S, F, P⟩ := q
  refine ⟨Γ, S, F, ?_⟩
  refine (Post.bind P).imp fun xs S1 Γ1 H1 e1 F1 ⟨_, P1⟩ vs hvs => ?_
  obtain ⟨ds, Γ2, S2, e2, F2, hds, _, P2⟩ := pureL_ok F1 hvs (Post.bind P1)
  unfold allocL at P2
  by_cases hz : ds.length ≤ sizeLine
  · rw [if_pos hz] at P2
    refine ⟨by rw [hds.length]; exact hz, fun p hp => ?_⟩
    obtain ⟨Γ3, e3, F3, r3⟩ := newL_ok F2 hds hp
    exact P2.ok e3 F3 _ r3
  · rw [if_neg hz] at P2; exact P2.elim
end

/-! ### functions -/
inductive FR where
  | val (d : D) | new (o : Con)
inductive FRes where
  | ok (r : FR) (st : Store) | exc (x : Xn) (st : Store) | bad
abbrev Fn := List R → Store → FRes
def applyF (S : Sg) : FRes → Res R
  | .ok (.val d) st => .ok (.p d) { S with st := st }
  | .ok (.new o) st => .ok (.r st.length) { S with st := st ++ [.mu o] }
  | .exc x st => .exc x { S with st := st }
  | .bad => .bad
def callM (F : Fn) (n : Nat) (g : M (List R)) : M R := do
  let xs ← g
  fun S => if xs.length = n then applyF S (F xs S.st) else .bad
def FPost (c : Cg) (Γ : Gh) (r : FRes) (Q : VK) (E : XK) : Prop := match r with
  | .ok (.val d) st => ∀ Γ' H' v, Γ.le Γ' → StOk c Γ' st H' → Rep c Γ'.G d v → Q v H'
  | .ok (.new o) st => ∀ Γ' H' a, Γ.le Γ' → StOk c { Γ' with ρ := Γ'.ρ ++ [a] } (st ++ [.mu o]) H' → Q (.ref a) H'
  | .exc x st => ∀ Γ' H' cls dd, Γ.le Γ' → StOk c Γ' st H' → XRep c Γ' H' x cls dd → E cls dd H'
  | .bad => False
def spF (c : Cg) (n : Nat) (F : Fn) : Sp := fun vs H Q E => ∃ xs Γ st, vs.length = n ∧ RepRL c Γ xs vs ∧ StOk c Γ st H ∧ FPost c Γ (F xs st) Q E
theorem le_app {Γ : Gh} {a : Addr} : Γ.le { Γ with ρ := Γ.ρ ++ [a] } := ⟨Ext.refl, rfl, [a], rfl⟩
/-- from the wish at an expression to the promise -/
theorem applyF_ok {c : Cg} {W : WX} {Γ : Gh} {S : Sg} {σ : L2.St} {H : Hp} {r : FRes} {Q : VK} (F : FrOk c Γ S σ H) (P : Post c W σ Γ (applyF S r) fun x S' Γ' H' => ∀ v, RepR c Γ' x v → Q v H') : FPost c Γ r Q (WE W σ) := by
  cases r with
  | bad => exact P.elim
  | exc x st => exact fun Γ' H' cls dd e s q => P Γ' H' cls dd e (F.of e s) q
  | ok r st =>
    cases r with
    | val d => exact fun Γ' H' v e s q => Post.ok (c := c) (W := W) P e (F.of e s) v q
    | new o =>
      intro Γ' H' a e s
      have e' : Γ.le { Γ' with ρ := Γ'.ρ ++ [a] } := e.trans le_app
      refine Post.ok (c := c) (W := W) P e' (F.of e' s) (.ref a) ⟨a, ?_, rfl⟩
      show (Γ'.ρ ++ [a])[st.length]? = some a
      have hl := s.len
      simp at hl
      rw [hl]; simp
/-- a def's promise where no repr is under way -/
structure FnG (P : Program) (w : World) (K : PySem.W.Frag) (mg : Str → Option Value) (base : Heap) (k : Nat) (f : Addr) (fd : FuncData) (ps : List Str) (sp : Sp) : Prop where
  len : ∀ vs H Q E, sp vs H Q E → vs.length = ps.length
  run : ∀ (A : Around) (outer : List Env) (s : Shared) (H : Hp) (args : Args) (us : List Value) (vs : List V) (Q : VK) (E : XK), A.guards = some [] → Room k A → Env0 P w K mg base A outer s H → BindsTo s fd args (ps.zip us) → Vals vs us → sp vs H Q E →
    codeAny (model P w) A (.call (.ref f) args) (CR (L2.CX P w) outer P w H s Q E) s
/-- how a call's outcome is taken -/
theorem taken {X : Cx} {pins : List (Addr × Obj)} {σ : L2.St} {H : Hp} {s s' : Shared} {Q : VK} {E : XK} {r : Result} (hx : PassesAt (L2.CX X.prog X.w) X σ E) (I : L2.Inv X pins σ H s) (h : CR (L2.CX X.prog X.w) X.stack X.prog X.w H s Q E r s') :
    (∃ e, r = .error e ∧ X.xe e s') ∨ ∃ u, r = .ok (.ret u) ∧ EP X pins σ Q u s' := by
  match r, h with
  | .error e, h => exact .inl ⟨e, rfl, hx pins H s e s' I h⟩
  | .ok (.ret u), h => exact .inr ⟨u, rfl, I.after h⟩
theorem run_fnG {X : Cx} {pins : List (Addr × Obj)} {σ : L2.St} {H : Hp} {s : Shared} {Q : VK} {us : List Value} {vs : List V} {E : XK} {k : Nat} {f : Addr} {fd : FuncData} {ps : List Str} {sp : Sp} (F : FnG X.prog X.w X.K X.mg X.base k f fd ps sp) (hG : X.A.guards = some []) (hr : Room k X.A) (hb : Binds X.K fd ps [])
    (hx : PassesAt (L2.CX X.prog X.w) X σ E) (I : L2.Inv X pins σ H s) (r : Vals vs us) (h : sp vs H Q E) : wpAny (model X.prog X.w) X.A (call (.ref f) us) (EP X pins σ Q) X.xe s := by
  have hl : (us ++ []).length = ps.length := by rw [List.append_nil, ← r.length]; exact F.len _ _ _ _ h
  have b := hb s us I.kIn hl
  simp only [List.append_nil] at b
  refine wpAny_call (codeAny_mono (F.run X.A X.stack s H _ us vs Q E hG hr I.env0 b r h) fun r s' hq => ?_)
  rcases taken hx I hq with ⟨e, rfl, q⟩ | ⟨u, rfl, q⟩
  · exact q
  · exact q
theorem pe_callG {X : Cx} {W : WX} {p pos : Pos} {x : Str} {e : Expr} {es : List Expr} {t : TA} {k : Nat} {f : Addr} {fd : FuncData} {ps : List Str} {sp : Sp} (F : FnG X.prog X.w X.K X.mg X.base k f fd ps sp) (hG : X.A.guards = some []) (hr : Room k X.A) (hg : Gl X x) (hm : X.mg x = some (.ref f)) (hk : PySem.W.keepIn X.K (.ref f) = true) (hb : Binds X.K fd ps []) (tk : Takes X W)
    (ha : PA X (e :: es) t) (hdb : (x == ("__debug__" : Str)) = false) (he : starEach (e :: es) X.env = (false, eval e X.env) :: starEach es X.env) (hpl : (backTo pos (starEach es X.env)).any (·.1) = false) :
    PE X (.Call (.Name x p) (e :: es) [] pos) (tCallS sp (WE W) t) :=
  ⟨fun pins s σ H Q I h => wpAny_Call_Name_kw (ld_glob I hg hm (PySem.W.callWith_K (h₀ := X.base) I.ok.mod.kin hk (thn (ha.run pos pins s σ H _ I h) fun us s1 ⟨vs, H1, I1, r, q⟩ => ⟨I1.kIn, run_fnG F hG hr hb (passAt tk σ) I1 r q⟩) he hpl) hdb)⟩
section
variable {X : Cx} {c : Cg} {W : WX} {e a b o : Expr} {es : List Expr} {f fa fb : M R} {g : M (List R)} {pos p apos : Pos} {F : Fn} {n k : Nat} {fA C : Addr} {fd : FuncData} {ps : List Str} {x m : Str}
theorem callM_read {σ : L2.St} {H : Hp} {Q : VK} (q : rdE c W (callM F n g) σ H Q) : rdA c W g σ H fun vs H1 => spF c n F vs H1 Q (WE W σ) := by
  obtain ⟨Γ, S, Fo, P⟩ := q
  refine ⟨Γ, S, Fo, ?_⟩
  refine (Post.bind P).imp fun xs S1 Γ1 H1 e1 F1 ⟨_, P1⟩ vs hvs => ?_
  by_cases h : xs.length = n
  · rw [if_pos h] at P1
    exact ⟨xs, Γ1, S1.st, by rw [hvs.length, h], hvs, F1.s, applyF_ok F1 P1⟩
  · rw [if_neg h] at P1; exact P1.elim
theorem se_call (Fk : FnG X.prog X.w X.K X.mg X.base k fA fd ps (spF c n F)) (hG : X.A.guards = some []) (hr : Room k X.A) (hg : Gl X x) (hm : X.mg x = some (.ref fA)) (hk : PySem.W.keepIn X.K (.ref fA) = true) (hb : Binds X.K fd ps []) (tk : Takes X W)
    (ha : PA X (e :: es) (rdA c W g)) (hdb : (x == ("__debug__" : Str)) = false := by decide) (he : starEach (e :: es) X.env = (false, eval e X.env) :: starEach es X.env := by rfl) (hpl : (backTo pos (starEach es X.env)).any (·.1) = false := by rfl) :
    PE X (.Call (.Name x p) (e :: es) [] pos) (rdE c W (callM F n g)) :=
  se_of (pe_callG Fk hG hr hg hm hk hb tk ha hdb he hpl) fun σ H Q q => callM_read q

/-! ### rules for built-ins -/
def CallD (c : Cg) (W : WX) (op : List R → M R) (r : List V → Hp → VK → Prop) : Prop :=
  ∀ (Γ : Gh) (S : Sg) (σ : L2.St) (H : Hp) (xs : List R) (vs : List V) (Q : VK), FrOk c Γ S σ H → RepRL c Γ xs vs →
    Post c W σ Γ (op xs S) (fun z S' Γ' H' => ∀ u, RepR c Γ' z u → Q u H') → r vs H Q
def opA (op : List R → M R) (g : M (List R)) : M R := g >>= op
theorem opA_read {op : List R → M R} {r : List V → Hp → VK → Prop} (hd : CallD c W op r) {σ : L2.St} {H : Hp} {Q : VK} (q : rdE c W (opA op g) σ H Q) : tCB r (rdA c W g) σ H Q := by
  obtain ⟨Γ, S, F, P⟩ := q
  refine ⟨Γ, S, F, ?_⟩
  refine (Post.bind P).imp fun xs S1 Γ1 H1 e1 F1 ⟨_, P1⟩ vs hvs => ?_
  exact hd Γ1 S1 σ H1 xs vs Q F1 hvs P1
theorem se_callB {id : String} {op : List R → M R} {r : List V → Hp → VK → Prop} (hc : CallR X (.builtin id) r) (hd : CallD c W op r) (hg : Gl X x) (hm : X.mg x = none) (hv : bootBuiltins x = some (.builtin id)) (ha : PA X (e :: es) (rdA c W g)) (hn : x ≠ "__name__" := by decide) (hdb : (x == ("__debug__" : Str)) = false := by decide)
    (he : starEach (e :: es) X.env = (false, eval e X.env) :: starEach es X.env := by rfl) (hpl : (backTo pos (starEach es X.env)).any (·.1) = false := by rfl) : PE X (.Call (.Name x p) (e :: es) [] pos) (rdE c W (opA op g)) :=
  se_of (pe_callB hc hg hm hv ha hn hdb he hpl) fun σ H Q q => opA_read hd q
theorem se_callTy {T : String} {op : List R → M R} {r : List V → Hp → VK → Prop} (hc : CallR X (.type T) r) (hd : CallD c W op r) (hg : Gl X x) (hm : X.mg x = none) (hv : bootBuiltins x = some (.type T)) (ha : PA X (e :: es) (rdA c W g)) (hn : x ≠ "__name__" := by decide) (hdb : (x == ("__debug__" : Str)) = false := by decide)
    (he : starEach (e :: es) X.env = (false, eval e X.env) :: starEach es X.env := by rfl) (hpl : (backTo pos (starEach es X.env)).any (·.1) = false := by rfl) : PE X (.Call (.Name x p) (e :: es) [] pos) (rdE c W (opA op g)) :=
  se_of (pe_callTy hc hg hm hv ha hn hdb he hpl) fun σ H Q q => opA_read hd q
/-- a method of a built-in type: the receiver looked at ahead of the arguments -/
def MtD (c : Cg) (W : WX) (op : R → List R → M R) (r : V → List V → Hp → VK → Prop) : Prop :=
  ∀ (Γ : Gh) (S : Sg) (σ : L2.St) (H : Hp) (x : R) (v : V) (xs : List R) (vs : List V) (Q : VK), FrOk c Γ S σ H → RepR c Γ x v → RepRL c Γ xs vs →
    Post c W σ Γ (op x xs S) (fun z S' Γ' H' => ∀ u, RepR c Γ' z u → Q u H') → r v vs H Q
/-- what is asked of the receiver -/
def TyD (c : Cg) (chk : R → Sg → Bool) (ty : V → Hp → Prop) : Prop := ∀ (Γ : Gh) (S : Sg) (σ : L2.St) (H : Hp) (x : R) (v : V), FrOk c Γ S σ H → RepR c Γ x v → chk x S = true → ty v H
def methM (chk : R → Sg → Bool) (op : R → List R → M R) (f : M R) (g : M (List R)) : M R := do
  let x ← f
  fun S => if chk x S = true then (g >>= op x) S else .bad
def tMg (ty : V → Hp → Prop) (r : V → List V → Hp → VK → Prop) (to : TE) (t : TA) : TE := fun σ H Q => to σ H fun x H1 => ty x H1 ∧ t σ H1 fun xs H2 => r x xs H2 Q
theorem methM_read {chk : R → Sg → Bool} {ty : V → Hp → Prop} {op : R → List R → M R} {r : V → List V → Hp → VK → Prop} (ht : TyD c chk ty) (hd : MtD c W op r) {σ : L2.St} {H : Hp} {Q : VK} (q : rdE c W (methM chk op f g) σ H Q) : tMg ty r (rdE c W f) (rdA c W g) σ H Q := by
  obtain ⟨Γ, S, F, P⟩ := q
  refine ⟨Γ, S, F, ?_⟩
  refine (Post.bind P).imp fun x S1 Γ1 H1 e1 F1 ⟨_, P1⟩ v hv => ?_
  by_cases h : chk x S1 = true
  · rw [if_pos h] at P1
    refine ⟨ht Γ1 S1 σ H1 x v F1 hv h, Γ1, S1, F1, ?_⟩
    refine (Post.bind P1).imp fun xs S2 Γ2 H2 e2 F2 ⟨_, P2⟩ vs hvs => ?_
    exact hd Γ2 S2 σ H2 x v xs vs Q F2 (hv.mono e2) hvs P2
  · rw [if_neg h] at P1; exact P1.elim
/-- the rules of method calls, the type told by any predicate -/
structure TyOk (X : Cx) (T : String) (ty : V → Hp → Prop) : Prop where
  is : ∀ (pins : List (Addr × Obj)) (σ : L2.St) (H : Hp) (s : Shared) (x : V) (v : Value), Inv X pins σ H s → RelV x v → ty x H → s.TypeIs v T ∧ ∀ a, v = .ref a → ∃ ob, s.heap.get? a = some ob ∧ ob.dict = none
theorem tyOk_V {T : String} : TyOk X T (tyV X.K T) := ⟨fun _ _ _ _ _ _ I r ty => tyV_is I r ty⟩
theorem tyOk_T : TyOk X "tuple" (fun v H => ∃ a vs, v = .ref a ∧ TupS X.K H a vs) := by
  refine ⟨fun pins σ H s x v I r ty => ?_⟩
  obtain ⟨a, vs, e, h⟩ := ty
  subst e
  obtain rfl : v = Value.ref a := r
  rcases h with ⟨o, h, hd⟩ | ⟨o, its, n, h1, h2, h3, _⟩
  · obtain ⟨e, _, its, _, o', e', hc, _⟩ := (show ObjOk X.prog X.w H s.heap a (.frz o (.tup vs)) from I.hok a _ h)
    rw [e] at e'; cases e'
    exact ⟨⟨_, e, hc⟩, fun b hb => by cases hb; exact ⟨o, e, hd⟩⟩
  · have e := I.kIn a o h1
    exact ⟨⟨_, e, h2⟩, fun b hb => by cases hb; exact ⟨o, e, h3⟩⟩
variable {T id : String} {name : Str} {to : TE} {t : TA} {r : V → List V → Hp → VK → Prop} {ty : V → Hp → Prop} {cpos : Pos}
theorem pe_bmG (pa : PlainAttrs T) (slot : Slot T name id) (hty : typeOf (.builtin id) = pure (.type "method_descriptor")) (hT : TyOk X T ty) (hm : MtR X id r) (ho : PE X o to) (ha : PA X (e :: es) t)
    (hbase : attributeBase o name X.env (eval o X.env) = eval o X.env := by rfl)
    (hfew : ((backTo cpos (starEach (e :: es) X.env)).all (fun x => !x.1) && (backToKw cpos (keywordEach [] X.env)).all (fun x => x.1.isSome)
      && decide ((e :: es).length + ([] : List Keyword).length + (if ([] : List Keyword).isEmpty then 0 else 1) < 30)) = true := by rfl)
    (hline : (apos.endLine == cpos.line) = true := by rfl) (hs : starEach (e :: es) X.env = (false, eval e X.env) :: starEach es X.env := by rfl) (hplain : (backTo cpos (starEach es X.env)).any (·.1) = false := by rfl) :
    PE X (.Call (.Attribute o name apos) (e :: es) [] cpos) (tMg ty r to t) := by
  refine ⟨fun pins s σ H Q I h => ?_⟩
  refine wpAny_Call_method_late hbase hfew hline rfl (thn (ho.run pins s σ H _ I h) fun v s1 ⟨x, H1, I1, r1, ty, q1⟩ => ?_)
  obtain ⟨h1, h2⟩ := hT.is _ _ _ _ _ _ I1 r1 ty
  refine ⟨T, id, pa, slot, hty, h1, h2, ?_⟩
  have hA := ha.run cpos pins s1 σ H1 _ I1 q1
  rw [hs] at hA ⊢
  refine Calls.callWith_builtin (by show (false || (backTo cpos (starEach es X.env)).any (·.1)) = false; rw [hplain] <;> rfl) (Calls.evalArgs_plain ?_)
  exact thn hA fun us s2 ⟨vs, H2, I2, r2, q2⟩ => hm pins s2 σ H2 x vs v us Q I2 r1 r2 q2
theorem se_bm {chk : R → Sg → Bool} {op : R → List R → M R} (pa : PlainAttrs T) (slot : Slot T name id) (hty : typeOf (.builtin id) = pure (.type "method_descriptor")) (hT : TyOk X T ty) (hm : MtR X id r) (ht : TyD c chk ty) (hd : MtD c W op r) (ho : PE X o (rdE c W f)) (ha : PA X (e :: es) (rdA c W g))
    (hbase : attributeBase o name X.env (eval o X.env) = eval o X.env := by rfl)
    (hfew : ((backTo cpos (starEach (e :: es) X.env)).all (fun x => !x.1) && (backToKw cpos (keywordEach [] X.env)).all (fun x => x.1.isSome)
      && decide ((e :: es).length + ([] : List Keyword).length + (if ([] : List Keyword).isEmpty then 0 else 1) < 30)) = true := by rfl)
    (hline : (apos.endLine == cpos.line) = true := by rfl) (hs : starEach (e :: es) X.env = (false, eval e X.env) :: starEach es X.env := by rfl) (hplain : (backTo cpos (starEach es X.env)).any (·.1) = false := by rfl) :
    PE X (.Call (.Attribute o name apos) (e :: es) [] cpos) (rdE c W (methM chk op f g)) :=
  se_of (pe_bmG pa slot hty hT hm ho ha hbase hfew hline hs hplain) fun σ H Q q => methM_read ht hd q
end

/-! ### statements -/
section
variable {X : Cx} {c : Cg} {W : WX} {e a b o : Expr} {es : List Expr} {f fa fb : M R} {g : M (List R)} {h h1 h2 : M Fl} {pos pos' : Pos} {st : Stmt} {sts : List Stmt}
def sNx : M Fl := pure .nx
/-- one statement, then others -/
def sSq (h1 h2 : M Fl) : M Fl := do
  let f ← h1
  match f with
  | .nx => h2
  | x => pure x
theorem sSq_nx {S S' : Sg} (q : h1 S = .ok .nx S') : sSq h1 h2 S = h2 S' := by unfold sSq; rw [bind_ok q]
theorem sSq_rt {S S' : Sg} {x : R} (q : h1 S = .ok (.rt x) S') : sSq h1 h2 S = .ok (.rt x) S' := by unfold sSq; rw [bind_ok q]; rfl
theorem sSq_bk {S S' : Sg} (q : h1 S = .ok .bk S') : sSq h1 h2 S = .ok .bk S' := by unfold sSq; rw [bind_ok q]; rfl
theorem sSq_ct {S S' : Sg} (q : h1 S = .ok .ct S') : sSq h1 h2 S = .ok .ct S' := by unfold sSq; rw [bind_ok q]; rfl
theorem sSq_exc {S S' : Sg} {x : Xn} (q : h1 S = .exc x S') : sSq h1 h2 S = .exc x S' := by unfold sSq; rw [bind_exc q]
theorem sSq_bad {S : Sg} (q : h1 S = .bad) : sSq h1 h2 S = .bad := by unfold sSq; rw [bind_bad q]
theorem sss_nil : PSs X [] (rdS c W sNx) := sss_of pss_nil fun E σ H q => by
  obtain ⟨Γ, S, F, P⟩ := q
  exact P Γ σ H Gh.le.refl F
theorem PostS.seq {Γ : Gh} {S : Sg} {E : Ends} (P : PostS c W Γ (sSq h1 h2 S) E) : PostS c W Γ (h1 S) { E with nx := rdS c W h2 E } := by
  cases q : h1 S with
  | bad => rw [sSq_bad q] at P; exact P.elim
  | exc x S' => rw [sSq_exc q] at P; exact P
  | ok a S' =>
    cases a with
    | nx => rw [sSq_nx q] at P; exact fun Γ' σ' H' e F => ⟨Γ', S', F, P.le e⟩
    | rt x => rw [sSq_rt q] at P; exact P
    | bk => rw [sSq_bk q] at P; exact P
    | ct => rw [sSq_ct q] at P; exact P
theorem sss_cons (hs : PS X st (rdS c W h1)) (ht : PSs X sts (rdS c W h2)) : PSs X (st :: sts) (rdS c W (sSq h1 h2)) := sss_of (pss_cons hs ht) fun E σ H q => by
  obtain ⟨Γ, S, F, P⟩ := q
  exact ⟨Γ, S, F, P.seq⟩
theorem sss_one (hs : PS X st (rdS c W h1)) : PSs X [st] (rdS c W h1) := pss_one hs
def sBad : M Fl := bad
def sBk : M Fl := pure .bk
def sCt : M Fl := pure .ct
theorem ss_break : PS X (.Break pos) (rdS c W sBk) := ss_of ps_break fun E σ H q => by
  obtain ⟨Γ, S, F, P⟩ := q
  exact P Γ σ H Gh.le.refl F
def sEx (f : M R) : M Fl := do
  let _ ← f
  pure .nx
theorem ss_expr (he : PE X e (rdE c W f)) (hs : swapsWith e none pos.line X.env = pure false := by rfl) : PS X (.Expr e pos) (rdS c W (sEx f)) := ss_of (ps_expr he hs) fun E σ H q => by
  obtain ⟨Γ, S, F, P⟩ := q
  refine ⟨Γ, S, F, (PostS.bindE P).imp fun x S1 Γ1 H1 e1 F1 ⟨_, P1⟩ v hv => ?_⟩
  exact P1 Γ1 σ H1 Gh.le.refl F1
def sRt (f : M R) : M Fl := do
  let x ← f
  pure (.rt x)
theorem ss_ret (he : PE X e (rdE c W f)) : PS X (.Return (some e) pos) (rdS c W (sRt f)) := ss_of (ps_ret he) fun E σ H q => by
  obtain ⟨Γ, S, F, P⟩ := q
  refine ⟨Γ, S, F, (PostS.bindE P).imp fun x S1 Γ1 H1 e1 F1 ⟨_, P1⟩ v hv => ?_⟩
  exact P1 Γ1 σ H1 v Gh.le.refl F1 hv
def sRtN : M Fl := pure (.rt (.p .non))
def sIf (t : M Bool) (h1 h2 : M Fl) : M Fl := do
  let k ← t
  if k = true then h1 else h2
theorem ss_if {t : M Bool} {p q : List Stmt} (hc : PT X e (rdT c W t)) (hp : PSs X p (rdS c W h1)) (hq : PSs X q (rdS c W h2)) : PS X (.If e p q pos) (rdS c W (sIf t h1 h2)) := ss_of (ps_if hc hp hq) fun E σ H q => by
  obtain ⟨Γ, S, F, P⟩ := q
  refine ⟨Γ, S, F, (PostS.bindE P).imp fun k S1 Γ1 H1 e1 F1 ⟨_, P1⟩ => ?_⟩
  cases k with
  | true => exact ⟨Γ1, S1, F1, P1⟩
  | false => exact ⟨Γ1, S1, F1, P1⟩
/-- a name is stored -/
def put (i : Nat) (x : R) : M Unit := fun S => .ok () { S with sl := S.sl.set i (some x) }
theorem FrOk.put {Γ : Gh} {S : Sg} {σ : L2.St} {H : Hp} {x : R} {v : V} (i : Nat) (F : FrOk c Γ S σ H) (h : RepR c Γ x v) : FrOk c Γ { S with sl := S.sl.set i (some x) } (σ.set i (some v)) H := by
  refine ⟨F.s, by simp [F.len], fun j y hj => ?_⟩
  by_cases e : i = j
  · subst e
    have hlt := (List.getElem?_eq_some_iff.mp hj).1
    simp at hlt
    rw [List.getElem?_set_self hlt] at hj
    cases hj
    exact ⟨v, by rw [List.getElem?_set_self (by rw [← F.len]; exact hlt)], h⟩
  · rw [List.getElem?_set_ne e] at hj
    obtain ⟨w, h1, h2⟩ := F.sl j y hj
    exact ⟨w, by rw [List.getElem?_set_ne e]; exact h1, h2⟩
def sSet (i : Nat) (f : M R) : M Fl := do
  let x ← f
  put i x
  pure .nx
theorem ss_set {i : Nat} {x : Str} (hN : X.N.Nodup) (hi : X.N[i]? = some x) (hx : Loc X.env.scope x) (he : PE X e (rdE c W f)) (hs : swapsWith e (some (.Name x pos')) pos.line X.env = pure false := by rfl) (hf : X.fn x = true ∨ X.env.scope.names.lookup x = some .local := by first | exact .inl rfl | exact .inr rfl | assumption) :
    PS X (.Assign [.Name x pos'] e pos) (rdS c W (sSet i f)) := ss_of (ps_set hN hi hx he hs hf) fun E σ H q => by
  obtain ⟨Γ, S, F, P⟩ := q
  refine ⟨Γ, S, F, (PostS.bindE P).imp fun x S1 Γ1 H1 e1 F1 ⟨_, P1⟩ v hv => ?_⟩
  exact P1 Γ1 _ H1 Gh.le.refl (F1.put i hv)
end
end Dd

set_option Elab.async false
set_option linter.all false
set_option maxRecDepth 100000
namespace Dd
open PySem PySem.Spec PyProof.Rows L2

/-! ### tests -/
def toB : R → M Bool := fun x S => match x with
  | .p (.bl b) => .ok b S
  | _ => .bad
def tst (f : M R) : M Bool := f >>= toB
def mNot (t : M Bool) : M Bool := do
  let b ← t
  pure (!b)
def mAnd (t u : M Bool) : M Bool := do
  let b ← t
  if b = true then u else pure false
def mOr (t u : M Bool) : M Bool := do
  let b ← t
  if b = true then pure true else u
section
variable {X : Cx} {c : Cg} {W : WX} {e a b o : Expr} {rest : List Expr} {f fa fb fc : M R} {t u : M Bool} {pos : Pos}
theorem toB_ok {σ : L2.St} {Γ : Gh} {S : Sg} {x : R} {v : V} {K : Bool → Sg → Gh → Hp → Prop} {H : Hp} (F : FrOk c Γ S σ H) (hv : RepR c Γ x v) (P : Post c W σ Γ (toB x S) K) : ∃ k, v = .bl k ∧ K k S Γ H := by
  cases x with
  | r n => exact P.elim
  | p d =>
    cases d with
    | bl k => exact ⟨k, RepR.bl hv, Post.ok (c := c) (W := W) P Gh.le.refl F⟩
    | _ => exact P.elim
theorem tst_read {σ : L2.St} {H : Hp} {Q : Bool → Hp → Prop} (q : rdT c W (tst f) σ H Q) : rdE c W f σ H fun x H1 => ∃ k, x = .bl k ∧ Q k H1 := by
  obtain ⟨Γ, S, F, P⟩ := q
  refine ⟨Γ, S, F, (Post.bind P).imp fun x S1 Γ1 H1 e1 F1 ⟨_, P1⟩ v hv => ?_⟩
  exact toB_ok F1 hv P1
theorem st_val (h : PE X e (rdE c W f)) (he : ∀ whole, isTrue e X.env whole = (do let v ← whole; standAt e.pos; holding [v] (truthy v)) := by intro _; rfl) : PT X e (rdT c W (tst f)) :=
  st_of (pt_val h he) fun σ H Q q => tst_read q
theorem st_cmp {op' : CmpOp} {op : R → R → M R} {r : R2} (ho : OpR X (compareOp op') r) (hd : OpD c W op r) (ha : PE X a (rdE c W fa)) (hb : PE X b (rdE c W fb)) (hm : behindInMarks op' b = false) : PT X (.Compare a [op'] [b] pos) (rdT c W (tst (bin op fa fb))) :=
  st_of (pt_cmpR ho ha hb hm) fun σ H Q q => bin_read hd (tst_read q)
theorem st_not (h : PT X a (rdT c W t)) : PT X (.UnaryOp .Not a pos) (rdT c W (mNot t)) := st_of (pt_not h) fun σ H Q q => by
  obtain ⟨Γ, S, F, P⟩ := q
  refine ⟨Γ, S, F, (Post.bind P).imp fun k S1 Γ1 H1 e1 F1 ⟨_, P1⟩ => ?_⟩
  exact Post.ok (c := c) (W := W) P1 Gh.le.refl F1
theorem sw_and1 (h : PT X a (rdT c W t)) : PW X (.BoolOp .And [a] pos) (rdT c W t) := pw_and1 h
theorem sw_or1 (h : PT X a (rdT c W t)) : PW X (.BoolOp .Or [a] pos) (rdT c W t) := pw_or1 h
theorem sw_and (ha : PT X a (rdT c W t)) (hb : PW X (.BoolOp .And (b :: rest) pos) (rdT c W u)) : PW X (.BoolOp .And (a :: b :: rest) pos) (rdT c W (mAnd t u)) := ⟨fun wh pins s σ H Q I q => (pw_and ha hb).run wh pins s σ H Q I (by
  obtain ⟨Γ, S, F, P⟩ := q
  refine ⟨Γ, S, F, (Post.bind P).imp fun k S1 Γ1 H1 e1 F1 ⟨_, P1⟩ => ?_⟩
  cases k with
  | true => exact ⟨Γ1, S1, F1, P1⟩
  | false => exact Post.ok (c := c) (W := W) P1 Gh.le.refl F1)⟩
theorem sw_or (ha : PT X a (rdT c W t)) (hb : PW X (.BoolOp .Or (b :: rest) pos) (rdT c W u)) : PW X (.BoolOp .Or (a :: b :: rest) pos) (rdT c W (mOr t u)) := ⟨fun wh pins s σ H Q I q => (pw_or ha hb).run wh pins s σ H Q I (by
  obtain ⟨Γ, S, F, P⟩ := q
  refine ⟨Γ, S, F, (Post.bind P).imp fun k S1 Γ1 H1 e1 F1 ⟨_, P1⟩ => ?_⟩
  cases k with
  | false => exact ⟨Γ1, S1, F1, P1⟩
  | true => exact Post.ok (c := c) (W := W) P1 Gh.le.refl F1)⟩
theorem st_bool {o : BoolOp} {es : List Expr} (h : PW X (.BoolOp o es pos) (rdT c W t)) : PT X (.BoolOp o es pos) (rdT c W t) := h.pt
/-- values: a and b, a or b, not a (bools) -/
def eAnd (f g : M R) : M R := do
  let b ← tst f
  if b = true then g else pure (.p (.bl false))
def eOr (f g : M R) : M R := do
  let b ← tst f
  if b = true then pure (.p (.bl true)) else g
def eNot (f : M R) : M R := do
  let b ← tst f
  pure (.p (.bl (!b)))
theorem se_one {o : BoolOp} (h : PE X a (rdE c W f)) : PE X (.BoolOp o [a] pos) (rdE c W f) := pe_one h
theorem se_and (ha : PE X a (rdE c W fa)) (hb : PE X (.BoolOp .And (b :: rest) pos) (rdE c W fb)) : PE X (.BoolOp .And (a :: b :: rest) pos) (rdE c W (eAnd fa fb)) := se_of (pe_and ha hb) fun σ H Q q => by
  obtain ⟨Γ, S, F, P⟩ := q
  refine ⟨Γ, S, F, (Post.bind (Post.bind P)).imp fun x S1 Γ1 H1 e1 F1 ⟨_, P1⟩ v hv => ?_⟩
  obtain ⟨k, ek, _, P2⟩ := toB_ok F1 hv P1
  refine ⟨k, ek, ?_⟩
  cases k with
  | true => exact ⟨Γ1, S1, F1, P2⟩
  | false => exact Post.ok (c := c) (W := W) P2 Gh.le.refl F1 _ ((Rep.bl_iff (c := c) (G := Γ1.G)).mpr rfl)
theorem se_not (ha : PE X a (rdE c W fa)) : PE X (.UnaryOp .Not a pos) (rdE c W (eNot fa)) := se_of (pe_not ha) fun σ H Q q => by
  obtain ⟨Γ, S, F, P⟩ := q
  refine ⟨Γ, S, F, (Post.bind (Post.bind P)).imp fun x S1 Γ1 H1 e1 F1 ⟨_, P1⟩ v hv => ?_⟩
  obtain ⟨k, ek, _, P2⟩ := toB_ok F1 hv P1
  exact ⟨k, ek, Post.ok (c := c) (W := W) P2 Gh.le.refl F1 _ ((Rep.bl_iff (c := c) (G := Γ1.G)).mpr rfl)⟩
def eIf (t : M Bool) (f g : M R) : M R := do
  let b ← t
  if b = true then f else g
theorem se_if {e : Expr} (hc : PT X e (rdT c W t)) (ha : PE X a (rdE c W fa)) (hb : PE X b (rdE c W fb)) : PE X (.IfExp e a b pos) (rdE c W (eIf t fa fb)) := se_of (pe_ifExp hc ha hb) fun σ H Q q => by
  obtain ⟨Γ, S, F, P⟩ := q
  refine ⟨Γ, S, F, (Post.bind P).imp fun k S1 Γ1 H1 e1 F1 ⟨_, P1⟩ => ?_⟩
  cases k with
  | true => exact ⟨Γ1, S1, F1, P1⟩
  | false => exact ⟨Γ1, S1, F1, P1⟩
/-- a op1 b op2 c -/
def eChain (op op' : R → R → M R) (f g h : M R) : M R := do
  let x ← f
  let y ← g
  let z ← op x y
  let b ← toB z
  if b = true then do
    let w ← h
    op' y w
  else pure (.p (.bl false))
theorem se_chain_read {op op' : R → R → M R} {r r' : R2} (hd : OpD c W op r) (hd' : OpD c W op' r') {σ : L2.St} {H : Hp} {Q : VK} (q : rdE c W (eChain op op' fa fb fc) σ H Q) : tChain r r' (rdE c W fa) (rdE c W fb) (rdE c W fc) σ H Q := by
  obtain ⟨Γ, S, F, P⟩ := q
  refine ⟨Γ, S, F, (Post.bind P).imp fun x S1 Γ1 H1 e1 F1 ⟨_, P1⟩ v hv => ?_⟩
  refine ⟨Γ1, S1, F1, (Post.bind P1).imp fun y S2 Γ2 H2 e2 F2 ⟨_, P2⟩ w hw => ?_⟩
  refine hd Γ2 S2 σ H2 x y v w _ F2 (hv.mono e2) hw ((Post.bind P2).imp fun z S3 Γ3 H3 e3 F3 ⟨_, P3⟩ u hu => ?_)
  obtain ⟨k, ek, _, P4⟩ := toB_ok F3 hu (Post.bind P3)
  refine ⟨k, ek, ?_⟩
  cases k with
  | false => exact Post.ok (c := c) (W := W) P4 Gh.le.refl F3 _ ((Rep.bl_iff (c := c) (G := Γ3.G)).mpr rfl)
  | true =>
    refine ⟨Γ3, S3, F3, (Post.bind P4).imp fun y' S4 Γ4 H4 e4 F4 ⟨_, P5⟩ w' hw' => ?_⟩
    exact hd' Γ4 S4 σ H4 y y' w w' Q F4 (hw.mono (e3.trans e4)) hw' P5
theorem se_chain {o o' : CmpOp} {op op' : R → R → M R} {r r' : R2} (ho : OpR X (compareOp o) r) (ho' : OpR X (compareOp o') r') (hd : OpD c W op r) (hd' : OpD c W op' r') {e' : Expr} (ha : PE X a (rdE c W fa)) (hb : PE X b (rdE c W fb)) (hc : PE X e' (rdE c W fc))
    (hm : lastMarks [o, o'] [b, e'] = false := by with_unfolding_all rfl) : PE X (.Compare a [o, o'] [b, e'] pos) (rdE c W (eChain op op' fa fb fc)) :=
  se_of (pe_chain ho ho' ha hb hc hm) fun σ H Q q => se_chain_read hd hd' q
theorem st_chain {o o' : CmpOp} {op op' : R → R → M R} {r r' : R2} (ho : OpR X (compareOp o) r) (ho' : OpR X (compareOp o') r') (hd : OpD c W op r) (hd' : OpD c W op' r') {e' : Expr} (ha : PE X a (rdE c W fa)) (hb : PE X b (rdE c W fb)) (hc : PE X e' (rdE c W fc))
    (hm : lastMarks [o, o'] [b, e'] = false := by with_unfolding_all rfl) : PT X (.Compare a [o, o'] [b, e'] pos) (rdT c W (tst (eChain op op' fa fb fc))) :=
  st_of (pt_chain ho ho' ha hb hc hm) fun σ H Q q => se_chain_read hd hd' (tst_read q)
end

/-! ### targets -/
/-- what a target does with an item -/
abbrev Tg := D → M Unit
def rdG (c : Cg) (W : WX) (t : Tg) : TG := fun v σ H Q => ∃ Γ S d, FrOk c Γ S σ H ∧ Rep c Γ.G d v ∧ match t d S with
  | .ok _ S' => ∀ Γ' σ' H', Γ.le Γ' → FrOk c Γ' S' σ' H' → Q σ' H'
  | _ => False
def rdGs (c : Cg) (W : WX) (t : List D → M Unit) : TGs := fun vs σ H Q => ∃ Γ S ds, FrOk c Γ S σ H ∧ RepL c Γ.G ds vs ∧ match t ds S with
  | .ok _ S' => ∀ Γ' σ' H', Γ.le Γ' → FrOk c Γ' S' σ' H' → Q σ' H'
  | _ => False
def gN (i : Nat) : Tg := fun d => put i (.p d)
def gsN : List D → M Unit := fun ds S => match ds with
  | [] => .ok () S
  | _ => .bad
def gsC (t : Tg) (u : List D → M Unit) : List D → M Unit := fun ds S => match ds with
  | d :: r => (t d >>= fun _ => u r) S
  | _ => .bad
/-- (a, b, ..) = a tuple -/
def gT (n : Nat) (u : List D → M Unit) : Tg := fun d S => match d with
  | .tup l => if l.length = n then u l S else .bad
  | _ => .bad
section
variable {X : Cx} {c : Cg} {W : WX} {e : Expr} {es : List Expr} {t : Tg} {u : List D → M Unit} {pos : Pos}
theorem sg_of {g : TG} (h : PG X e g) (hi : ∀ v σ H Q, rdG c W t v σ H Q → g v σ H Q) : PG X e (rdG c W t) := ⟨fun pins s σ H v u Q I r q => h.run pins s σ H v u Q I r (hi v σ H Q q)⟩
theorem sgs_of {g : TGs} (h : PGs X es g) (hi : ∀ vs σ H Q, rdGs c W u vs σ H Q → g vs σ H Q) : PGs X es (rdGs c W u) := ⟨fun pins s σ H vs us Q I r q => h.run pins s σ H vs us Q I r (hi vs σ H Q q)⟩
theorem sg_name {i : Nat} {x : Str} (hN : X.N.Nodup) (hi : X.N[i]? = some x) (hx : Loc X.env.scope x) (hf : X.fn x = true ∨ X.env.scope.names.lookup x = some .local := by first | exact .inl rfl | exact .inr rfl | assumption) : PG X (.Name x pos) (rdG c W (gN i)) :=
  sg_of (pg_name hN hi hx hf) fun v σ H Q q => by
    obtain ⟨Γ, S, d, F, r, k⟩ := q
    exact k Γ _ H Gh.le.refl (F.put i (x := .p d) r)
theorem sgs_nil : PGs X [] (rdGs c W gsN) := sgs_of pgs_nil fun vs σ H Q q => by
  obtain ⟨Γ, S, ds, F, r, k⟩ := q
  cases ds with
  | nil => exact ⟨RepL.nil_iff.mp r, k Γ σ H Gh.le.refl F⟩
  | cons d ds => exact k.elim
theorem sgs_cons (h1 : PG X e (rdG c W t)) (h2 : PGs X es (rdGs c W u)) (hs : (assignEach (e :: es) X.env).map (·.2) = assign e X.env :: (assignEach es X.env).map (·.2) := by rfl) : PGs X (e :: es) (rdGs c W (gsC t u)) :=
  sgs_of (pgs_cons h1 h2 hs) fun vs σ H Q q => by
    obtain ⟨Γ, S, ds, F, r, k⟩ := q
    cases ds with
    | nil => exact k.elim
    | cons d ds =>
      obtain ⟨v, vs', rfl, h1, h2⟩ := RepL.cons_iff.mp r
      refine ⟨v, vs', rfl, Γ, S, d, F, h1, ?_⟩
      have k : match (t d >>= fun _ => u ds) S with | .ok _ S' => ∀ Γ' σ' H', Γ.le Γ' → FrOk c Γ' S' σ' H' → Q σ' H' | _ => False := k
      rw [bind_ap] at k
      cases e1 : t d S with
      | bad => rw [e1] at k; exact k
      | exc x S' => rw [e1] at k; exact k
      | ok a S' =>
        rw [e1] at k
        intro Γ' σ' H' le F'
        refine ⟨Γ', S', ds, F', RepL.mono le.g h2, ?_⟩
        have k : match u ds S' with | .ok _ S' => ∀ Γ' σ' H', Γ.le Γ' → FrOk c Γ' S' σ' H' → Q σ' H' | _ => False := k
        cases e2 : u ds S' with
        | bad => rw [e2] at k; exact k
        | exc x S2 => rw [e2] at k; exact k
        | ok a S2 => rw [e2] at k; exact fun Γ2 σ2 H2 le2 F2 => k Γ2 σ2 H2 (le.trans le2) F2
theorem sg_tup {k : Nat} {n : Nat} (hc : X.calm = true) (hK : X.K = c.K) (h : PGs X es (rdGs c W u)) (hn : (assignEach es X.env).length = n := by rfl) (hst : (assignEach es X.env).findIdx? (·.1) = none := by rfl) : PG X (.Tuple es k pos) (rdG c W (gT n u)) :=
  sg_of (pg_tup hc h hn hst) fun v σ H Q q => by
    obtain ⟨Γ, S, d, F, r, k⟩ := q
    cases d with
    | tup l =>
      obtain ⟨a, vs, h1, h2, h3⟩ := Rep.tup_iff.mp r
      have k : match (if l.length = n then u l S else .bad) with | .ok _ S' => ∀ Γ' σ' H', Γ.le Γ' → FrOk c Γ' S' σ' H' → Q σ' H' | _ => False := k
      by_cases hl : l.length = n
      · rw [if_pos hl] at k
        exact ⟨a, vs, h1, hK ▸ (TupS.mono F.s.g h2).sq, by rw [h3.length, hl], Γ, S, l, F, h3, k⟩
      · rw [if_neg hl] at k; exact k.elim
    | _ => exact k.elim
/-- target = e, a tuple's items to names -/
def sAsg (f : M R) (t : Tg) : M Fl := do
  let x ← f
  let d ← pure1 x
  t d
  pure .nx
theorem ss_asg {tg e : Expr} {f : M R} (he : PE X e (rdE c W f)) (hg : PG X tg (rdG c W t)) (ht : ∀ d S x S', t d S ≠ .exc x S') (hs : swapsWithSole [tg] e pos.line X.env = pure false := by rfl) (hw : swappedStores [tg] e X.env = pure none := by rfl)
    (h1 : (assignEach [tg] X.env).map (·.2) = [assign tg X.env] := by rfl) : PS X (.Assign [tg] e pos) (rdS c W (sAsg f t)) := ss_of (ps_asg he hg hs hw h1) fun E σ H q => by
  obtain ⟨Γ, S, F, P⟩ := q
  refine ⟨Γ, S, F, (PostS.bindE P).imp fun x S1 Γ1 H1 e1 F1 ⟨_, P1⟩ v hv => ?_⟩
  obtain ⟨d, Γ2, S2, e2, F2, hd, _, P2⟩ := pure1_ok F1 hv (PostS.bindE P1)
  refine ⟨Γ2, S2, d, F2, hd, ?_⟩
  rw [bind_ap] at P2
  cases q : t d S2 with
  | bad => rw [q] at P2; exact P2
  | exc x S' => exact (ht _ _ _ _ q).elim
  | ok a S' => rw [q] at P2; exact fun Γ' σ' H' le F' => P2 Γ' σ' H' le F'
end
theorem gN_noexc {i : Nat} : ∀ d S x S', gN i d S ≠ .exc x S' := fun _ _ _ _ h => by cases h
theorem gsN_noexc : ∀ d S x S', gsN d S ≠ .exc x S' := fun d _ _ _ h => by cases d <;> cases h
theorem gsC_noexc {t : Tg} {u : List D → M Unit} (h1 : ∀ d S x S', t d S ≠ .exc x S') (h2 : ∀ d S x S', u d S ≠ .exc x S') : ∀ d S x S', gsC t u d S ≠ .exc x S' := fun d S x S' h => by
  cases d with
  | nil => cases h
  | cons d r =>
    have h : (t d >>= fun _ => u r) S = .exc x S' := h
    rw [bind_ap] at h
    cases e : t d S with
    | ok a S1 => rw [e] at h; exact h2 _ _ _ _ h
    | exc y S1 => exact h1 _ _ _ _ e
    | bad => rw [e] at h; cases h
theorem gT_noexc {n : Nat} {u : List D → M Unit} (h2 : ∀ d S x S', u d S ≠ .exc x S') : ∀ d S x S', gT n u d S ≠ .exc x S' := fun d S x S' h => by
  cases d with
  | tup l =>
    have h : (if l.length = n then u l S else .bad) = .exc x S' := h
    split at h
    · exact h2 _ _ _ _ h
    · cases h
  | _ => cases h

/-! ### what is walked -/
/-- the items that are come by, and what must stand while they are -/
structure Itm (α : Type) where
  ok : Sg → Prop
  l : List α
/-- the machine's side, items as values -/
def ItOk (c : Cg) (Γ0 : Gh) (I : Itm D) (J : L2.It) : Prop := ∀ (Γ : Gh) (S : Sg) (σ : L2.St) (H : Hp) (i : Nat), Γ0.sub Γ → FrOk c Γ S σ H → I.ok S →
  (∀ d, I.l[i]? = some d → J.go i H ∧ ∀ x H', J.yld i H x H' → ∃ Γ', Γ.le Γ' ∧ FrOk c Γ' S σ H' ∧ Rep c Γ'.G d x) ∧ (I.l.length = i → J.stop i H)
/-- .. items as new pairs -/
def ItOkT (c : Cg) (Γ0 : Gh) (I : Itm (List D)) (J : L2.It) : Prop := ∀ (Γ : Gh) (S : Sg) (σ : L2.St) (H : Hp) (i : Nat), Γ0.sub Γ → FrOk c Γ S σ H → I.ok S →
  (∀ ds, I.l[i]? = some ds → J.go i H ∧ ∀ x H', J.yld i H x H' → ∃ Γ' T vs, Γ.le Γ' ∧ FrOk c Γ' S σ H' ∧ x = .ref T ∧ H' T = some (.tup vs) ∧ RepL c Γ'.G ds vs) ∧ (I.l.length = i → J.stop i H)
def rdI (c : Cg) (W : WX) (f : M (Itm D)) : TI := fun σ H R => ∃ Γ S, FrOk c Γ S σ H ∧ Post c W σ Γ (f S) fun I S' Γ' H' => ∀ J, ItOk c Γ' I J → R J H'
def rdIT (c : Cg) (W : WX) (f : M (Itm (List D))) : TI := fun σ H R => ∃ Γ S, FrOk c Γ S σ H ∧ Post c W σ Γ (f S) fun I S' Γ' H' => ∀ J, ItOkT c Γ' I J → R J H'
open Classical in
/-- the turns of a loop -/
noncomputable def loopL {α : Type} (ok : Sg → Prop) (body : α → M Fl) : List α → M Fl
  | [] => fun S => if ok S then .ok .nx S else .bad
  | d :: ds => fun S => if ok S then (match body d S with
    | .ok .nx S' => loopL ok body ds S'
    | .ok .ct S' => loopL ok body ds S'
    | .ok .bk S' => .ok .nx S'
    | .ok (.rt x) S' => .ok (.rt x) S'
    | .exc x S' => .exc x S'
    | .bad => .bad) else .bad
noncomputable def sFor {α : Type} (it : M (Itm α)) (t : α → M Unit) (h : M Fl) : M Fl := do
  let I ← it
  loopL I.ok (fun d => t d >>= fun _ => h) I.l
section
variable {α : Type} {ok : Sg → Prop} {body : α → M Fl} {d : α} {ds : List α} {S S' : Sg}
theorem loopL_nil (h : ok S) : loopL ok body [] S = .ok .nx S := by unfold loopL; rw [if_pos h]
theorem loopL_cons (h : ok S) : loopL ok body (d :: ds) S = (match body d S with
    | .ok .nx S' => loopL ok body ds S'
    | .ok .ct S' => loopL ok body ds S'
    | .ok .bk S' => .ok .nx S'
    | .ok (.rt x) S' => .ok (.rt x) S'
    | .exc x S' => .exc x S'
    | .bad => .bad) := by
  conv => lhs; unfold loopL
  rw [if_pos h]
theorem loopL_ok {l : List α} (h : loopL ok body l S ≠ .bad) : ok S := by
  apply Classical.byContradiction
  intro hn
  cases l with
  | nil => exact h (by unfold loopL; rw [if_neg hn])
  | cons d ds => exact h (by unfold loopL; rw [if_neg hn])
theorem loopL_nx (h : ok S) (q : body d S = .ok .nx S') : loopL ok body (d :: ds) S = loopL ok body ds S' := by rw [loopL_cons h, q]
theorem loopL_ct (h : ok S) (q : body d S = .ok .ct S') : loopL ok body (d :: ds) S = loopL ok body ds S' := by rw [loopL_cons h, q]
theorem loopL_bk (h : ok S) (q : body d S = .ok .bk S') : loopL ok body (d :: ds) S = .ok .nx S' := by rw [loopL_cons h, q]
theorem loopL_rt {x : R} (h : ok S) (q : body d S = .ok (.rt x) S') : loopL ok body (d :: ds) S = .ok (.rt x) S' := by rw [loopL_cons h, q]
theorem loopL_exc {x : Xn} (h : ok S) (q : body d S = .exc x S') : loopL ok body (d :: ds) S = .exc x S' := by rw [loopL_cons h, q]
end
section
variable {X : Cx} {c : Cg} {W : WX} {tg iter : Expr} {body : List Stmt} {t : Tg} {h : M Fl} {pos : Pos}
theorem PostS.ne {Γ : Gh} {r : Res Fl} {E : Ends} (P : PostS c W Γ r E) : r ≠ .bad := by
  intro e
  rw [e] at P
  exact P
/-- a target ahead of a body -/
theorem bodyG {Γ : Gh} {S : Sg} {σ : L2.St} {H : Hp} {d : D} {v : V} {E : Ends} {r : M Fl} (F : FrOk c Γ S σ H) (hd : Rep c Γ.G d v) (ht : ∀ d S x S', t d S ≠ .exc x S') (P : PostS c W Γ ((t d >>= fun _ => r) S) E) :
    rdG c W t v σ H fun σ2 H2 => rdS c W r E σ2 H2 := by
  refine ⟨Γ, S, d, F, hd, ?_⟩
  rw [bind_ap] at P
  cases q : t d S with
  | bad => rw [q] at P; exact P
  | exc x S' => exact (ht _ _ _ _ q).elim
  | ok a S' => rw [q] at P; exact fun Γ' σ' H' le F' => ⟨Γ', S', F', P.le le⟩
theorem bodyGs {u : List D → M Unit} {Γ : Gh} {S : Sg} {σ : L2.St} {H : Hp} {ds : List D} {vs : List V} {E : Ends} {r : M Fl} (F : FrOk c Γ S σ H) (hd : RepL c Γ.G ds vs) (ht : ∀ d S x S', u d S ≠ .exc x S') (P : PostS c W Γ ((u ds >>= fun _ => r) S) E) :
    rdGs c W u vs σ H fun σ2 H2 => rdS c W r E σ2 H2 := by
  refine ⟨Γ, S, ds, F, hd, ?_⟩
  rw [bind_ap] at P
  cases q : u ds S with
  | bad => rw [q] at P; exact P
  | exc x S' => exact (ht _ _ _ _ q).elim
  | ok a S' => rw [q] at P; exact fun Γ' σ' H' le F' => ⟨Γ', S', F', P.le le⟩
theorem ss_for {it : M (Itm D)} (hp : PassesOwn (model X.prog X.w) X.A X.env X.xe) (hc : X.calm = true) (hi : PI X tg iter (rdI c W it)) (hg : PG X tg (rdG c W t)) (ht : ∀ d S x S', t d S ≠ .exc x S') (hb : PSs X body (rdS c W h))
    (hs : ∀ x, foldedSetIterable iter X.env x = pure x := by intro _; rfl) : PS X (.For tg iter body [] pos) (rdS c W (sFor it t h)) := ss_of (ps_for hp hc hi hg hb hs) fun E σ H q => by
  obtain ⟨Γ, S, F, P⟩ := q
  refine ⟨Γ, S, F, (PostS.bindE P).imp fun I S1 Γ1 H1 e1 F1 ⟨_, P1⟩ J hJ => ?_⟩
  refine ⟨fun i m σ H => m = I.l.length - i ∧ i ≤ I.l.length ∧ ∃ Γ S, Γ1.le Γ ∧ FrOk c Γ S σ H ∧ PostS c W Γ (loopL I.ok (fun d => t d >>= fun _ => h) (I.l.drop i) S) E, ⟨_, rfl, Nat.zero_le _, Γ1, S1, Gh.le.refl, F1, P1⟩, ?_⟩
  rintro i m σ H ⟨rfl, hi, Γ2, S2, e2, F2, P2⟩
  have hok := loopL_ok P2.ne
  obtain ⟨k1, k2⟩ := hJ Γ2 S2 σ H i e2.sub F2 hok
  by_cases hl : i < I.l.length
  · refine .inr ?_
    have hget := List.getElem?_eq_getElem hl
    obtain ⟨g1, g2⟩ := k1 _ hget
    rw [List.drop_eq_getElem_cons hl] at P2
    refine ⟨g1, fun σ' H' => ∃ Γ S, Γ1.le Γ ∧ FrOk c Γ S σ' H' ∧ PostS c W Γ (loopL I.ok (fun d => t d >>= fun _ => h) (I.l.drop (i + 1)) S) E, fun σ' H' ⟨Γ3, S3, e3, F3, P3⟩ => ⟨_, by omega, rfl, hl, Γ3, S3, e3, F3, P3⟩, fun x H' y => ?_⟩
    obtain ⟨Γ3, e3, F3, r3⟩ := g2 x H' y
    refine bodyG F3 r3 ht ?_
    have P3 := PostS.le P2 e3
    have e13 := e2.trans e3
    cases q : (t I.l[i] >>= fun _ => h) S2 with
    | bad => rw [loopL_cons hok, q] at P3; exact P3
    | exc x S' => rw [loopL_exc (body := fun d => t d >>= fun _ => h) hok q] at P3; exact P3
    | ok a S' =>
      cases a with
      | nx => rw [loopL_nx (body := fun d => t d >>= fun _ => h) hok q] at P3; exact fun Γ' σ' H' le F' => ⟨Γ', S', e13.trans le, F', P3.le le⟩
      | ct => rw [loopL_ct (body := fun d => t d >>= fun _ => h) hok q] at P3; exact fun Γ' σ' H' le F' => ⟨Γ', S', e13.trans le, F', P3.le le⟩
      | bk => rw [loopL_bk (body := fun d => t d >>= fun _ => h) hok q] at P3; exact P3
      | rt x => rw [loopL_rt (body := fun d => t d >>= fun _ => h) hok q] at P3; exact P3
  · have e : I.l.length = i := by omega
    refine .inl ⟨k2 e, ?_⟩
    rw [List.drop_eq_nil_of_le (by omega), loopL_nil hok] at P2
    exact P2 Γ2 σ H Gh.le.refl F2
/-- .. over new pairs, to a tuple of names -/
theorem ss_forT {it : M (Itm (List D))} {u : List D → M Unit} {es : List Expr} {kk : Nat} {tpos : Pos} {n : Nat} (hp : PassesOwn (model X.prog X.w) X.A X.env X.xe) (hc : X.calm = true) (hK : X.K = c.K) (hi : PI X (.Tuple es kk tpos) iter (rdIT c W it)) (hg : PGs X es (rdGs c W u)) (ht : ∀ d S x S', u d S ≠ .exc x S') (hb : PSs X body (rdS c W h))
    (hu : ∀ ds S, ds.length ≠ n → u ds S = .bad) (hn : (assignEach es X.env).length = n := by rfl) (hst : (assignEach es X.env).findIdx? (·.1) = none := by rfl)
    (hs : ∀ x, foldedSetIterable iter X.env x = pure x := by intro _; rfl) : PS X (.For (.Tuple es kk tpos) iter body [] pos) (rdS c W (sFor it u h)) := ss_of (ps_for hp hc hi (pg_tup hc hg hn hst) hb hs) fun E σ H q => by
  obtain ⟨Γ, S, F, P⟩ := q
  refine ⟨Γ, S, F, (PostS.bindE P).imp fun I S1 Γ1 H1 e1 F1 ⟨_, P1⟩ J hJ => ?_⟩
  refine ⟨fun i m σ H => m = I.l.length - i ∧ i ≤ I.l.length ∧ ∃ Γ S, Γ1.le Γ ∧ FrOk c Γ S σ H ∧ PostS c W Γ (loopL I.ok (fun d => u d >>= fun _ => h) (I.l.drop i) S) E, ⟨_, rfl, Nat.zero_le _, Γ1, S1, Gh.le.refl, F1, P1⟩, ?_⟩
  rintro i m σ H ⟨rfl, hi, Γ2, S2, e2, F2, P2⟩
  have hok := loopL_ok P2.ne
  obtain ⟨k1, k2⟩ := hJ Γ2 S2 σ H i e2.sub F2 hok
  by_cases hl : i < I.l.length
  · refine .inr ?_
    have hget := List.getElem?_eq_getElem hl
    obtain ⟨g1, g2⟩ := k1 _ hget
    rw [List.drop_eq_getElem_cons hl] at P2
    refine ⟨g1, fun σ' H' => ∃ Γ S, Γ1.le Γ ∧ FrOk c Γ S σ' H' ∧ PostS c W Γ (loopL I.ok (fun d => u d >>= fun _ => h) (I.l.drop (i + 1)) S) E, fun σ' H' ⟨Γ3, S3, e3, F3, P3⟩ => ⟨_, by omega, rfl, hl, Γ3, S3, e3, F3, P3⟩, fun x H' y => ?_⟩
    obtain ⟨Γ3, T, vs, e3, F3, rfl, hT, r3⟩ := g2 x H' y
    have P3 := PostS.le P2 e3
    have e13 := e2.trans e3
    have hlen : vs.length = n := by
      rw [r3.length]
      refine Classical.byContradiction fun hne => ?_
      have qb := hu I.l[i] S2 hne
      rw [loopL_cons hok, bind_bad qb] at P3
      exact P3
    refine ⟨T, vs, rfl, .inl (.inl hT), hlen, bodyGs F3 r3 ht ?_⟩
    cases q : (u I.l[i] >>= fun _ => h) S2 with
    | bad => rw [loopL_cons hok, q] at P3; exact P3
    | exc x S' => rw [loopL_exc (body := fun d => u d >>= fun _ => h) hok q] at P3; exact P3
    | ok a S' =>
      cases a with
      | nx => rw [loopL_nx (body := fun d => u d >>= fun _ => h) hok q] at P3; exact fun Γ' σ' H' le F' => ⟨Γ', S', e13.trans le, F', P3.le le⟩
      | ct => rw [loopL_ct (body := fun d => u d >>= fun _ => h) hok q] at P3; exact fun Γ' σ' H' le F' => ⟨Γ', S', e13.trans le, F', P3.le le⟩
      | bk => rw [loopL_bk (body := fun d => u d >>= fun _ => h) hok q] at P3; exact P3
      | rt x => rw [loopL_rt (body := fun d => u d >>= fun _ => h) hok q] at P3; exact P3
  · have e : I.l.length = i := by omega
    refine .inl ⟨k2 e, ?_⟩
    rw [List.drop_eq_nil_of_le (by omega), loopL_nil hok] at P2
    exact P2 Γ2 σ H Gh.le.refl F2
end
end Dd

set_option Elab.async false
set_option linter.all false
set_option maxRecDepth 100000
namespace Dd
open PySem PySem.Spec PyProof.Rows L2

/-! ### a def runs as its meaning -/
def finishR (base : Nat) (st : Store) : R → FRes
  | .p d => .ok (.val d) (st.take base)
  | .r n => if base ≤ n then (match st[n]? with
    | some (.mu o) => .ok (.new o) (st.take base)
    | some (.fz l) => .ok (.val (.lst l)) (st.take base)
    | _ => .bad) else .bad
def finish (base : Nat) : Res Fl → FRes
  | .ok .nx S => .ok (.val .non) (S.st.take base)
  | .ok (.rt x) S => finishR base S.st x
  | .exc x S => .exc x (S.st.take base)
  | _ => .bad
def startS (n : Nat) (xs : List R) (st : Store) : Sg := { sl := xs.map some ++ List.replicate (n - xs.length) none, st := st }
def runF (n : Nat) (h : M Fl) : Fn := fun xs st => finish st.length (h (startS n xs st))
section
variable {c : Cg} {Γ Γ' : Gh} {st st' : Store} {H H' : Hp}
theorem ConOk.rho {a : Addr} {o : Con} {u : HO} {ρ : List Addr} (h : ConOk c Γ a o u) : ConOk c { Γ with ρ := ρ } a o u := by
  cases o with
  | lst l => exact h
  | dct k => exact h
  | dt k => exact h
  | obj k fs =>
    obtain ⟨dx, vs, k1, k2, k3⟩ := h
    exact ⟨dx, vs, k1, RepF.mono (Γ := Γ) (Γ' := { Γ with ρ := ρ }) Ext.refl (fun _ _ _ q => q) k2, k3⟩
theorem StOk.trunc (F : StOk c Γ' st' H') (e : Γ.le Γ') : StOk c { Γ' with ρ := Γ.ρ } (st'.take Γ.ρ.length) H' := by
  obtain ⟨t, ht⟩ := e.r
  have hlen : Γ.ρ.length ≤ st'.length := by rw [F.len, ht]; simp
  have ix : ∀ (n : Nat) (a : Addr), Γ.ρ[n]? = some a → Γ'.ρ[n]? = some a := fun n a h => e.at h
  have cl : ∀ (n : Nat) (x : Cell), (st'.take Γ.ρ.length)[n]? = some x → st'[n]? = some x := fun n x h => by
    rw [List.getElem?_take] at h
    split at h
    · exact h
    · cases h
  refine ⟨F.g, F.l, F.gl, by simp [hlen], fun n x a e1 e2 => ?_, fun n m a o u e1 e2 e3 e4 => F.inj n m a o u (cl _ _ e1) (cl _ _ e2) (ix _ _ e3) (ix _ _ e4),
    fun b a f ws q => let ⟨k1, k2, k3, k4⟩ := F.own b a f ws q; ⟨k1, k2, k3, fun n o e1 e2 => k4 n o (cl _ _ e1) (ix _ _ e2)⟩⟩
  have q := F.cell n x a (cl _ _ e1) (ix _ _ e2)
  cases x with
  | mu o =>
    obtain ⟨u, q1, q2, q3, q4⟩ := q
    exact ⟨u, q1, q2.rho, q3, q4⟩
  | fz l => exact q
  | dead => trivial
/-- one cell above is kept -/
theorem StOk.trunc1 {n : Nat} {a : Addr} {o : Con} (F : StOk c Γ' st' H') (e : Γ.le Γ') (hn : Γ.ρ.length ≤ n) (ho : st'[n]? = some (.mu o)) (ha : Γ'.ρ[n]? = some a) :
    StOk c { Γ' with ρ := Γ.ρ ++ [a] } (st'.take Γ.ρ.length ++ [.mu o]) H' := by
  have T := F.trunc e
  have hl : (st'.take Γ.ρ.length).length = Γ.ρ.length := T.len
  have low : ∀ (b : Addr) (k : Nat) (p : Con), (st'.take Γ.ρ.length ++ [Cell.mu o])[k]? = some (.mu p) → (Γ.ρ ++ [a])[k]? = some b → (k < Γ.ρ.length ∧ st'[k]? = some (.mu p) ∧ Γ'.ρ[k]? = some b) ∨ (k = Γ.ρ.length ∧ b = a) := fun b k p h1 h2 => by
      by_cases hk : k < Γ.ρ.length
      · refine .inl ⟨hk, ?_, ?_⟩
        · rw [List.getElem?_append_left (by omega), List.getElem?_take] at h1
          rw [if_pos hk] at h1; exact h1
        · rw [List.getElem?_append_left hk] at h2
          exact e.at h2
      · have hk' : k = Γ.ρ.length := by
          have := (List.getElem?_eq_some_iff.mp h2).1
          simp at this; omega
        subst hk'
        simp at h2
        exact .inr ⟨rfl, h2.symm⟩
  refine ⟨F.g, F.l, F.gl, by simp [hl], fun m x b e1 e2 => ?_, fun m k b o1 o2 e1 e2 e3 e4 => ?_, fun b a' f ws q => ?_⟩
  rotate_left 2
  · obtain ⟨k1, k2, k3, k4⟩ := F.own b a' f ws q
    refine ⟨k1, k2, k3, fun m p e1 e2 => ?_⟩
    rcases low b m p e1 e2 with ⟨_, a2, a3⟩ | ⟨_, a2⟩
    · exact k4 m p a2 a3
    · subst a2; exact k4 n o ho ha
  · by_cases hm : m < Γ.ρ.length
    · rw [List.getElem?_append_left (by omega)] at e1
      have e2' : (Γ.ρ ++ [a])[m]? = some b := e2
      rw [List.getElem?_append_left hm] at e2'
      have q := T.cell m x b e1 e2'
      cases x with
      | mu p => obtain ⟨u, q1, q2, q3, q4⟩ := q; exact ⟨u, q1, q2.rho, q3, q4⟩
      | fz l => exact q
      | dead => trivial
    · have hm' : m = Γ.ρ.length := by
        have := (List.getElem?_eq_some_iff.mp e1).1
        simp [hl] at this; omega
      subst hm'
      have e2' : (Γ.ρ ++ [a])[Γ.ρ.length]? = some b := e2
      have e1' : (st'.take Γ.ρ.length ++ [Cell.mu o])[(st'.take Γ.ρ.length).length]? = some x := by rw [hl]; exact e1
      simp at e1' e2'
      subst e1' e2'
      obtain ⟨u, q1, q2, q3, q4⟩ := F.cell n _ a ho ha
      exact ⟨u, q1, q2.rho, q3, q4⟩
  · rcases low b m o1 e1 e3 with ⟨a1, a2, a3⟩ | ⟨a1, a2⟩
    · rcases low b k o2 e2 e4 with ⟨b1, b2, b3⟩ | ⟨b1, b2⟩
      · exact F.inj m k b o1 o2 a2 b2 a3 b3
      · subst b2
        have := F.inj m n b o1 o a2 ho a3 ha
        omega
    · rcases low b k o2 e2 e4 with ⟨b1, b2, b3⟩ | ⟨b1, b2⟩
      · subst a2
        have := F.inj k n b o2 o b2 ho b3 ha
        omega
      · rw [a1, b1]
theorem le_trunc (e : Γ.le Γ') : Γ.le { Γ' with ρ := Γ.ρ } := ⟨e.g, e.l, [], by simp⟩
end
section
variable {P : Program} {w : World} {K : PySem.W.Frag} {mg : Str → Option Value} {base : Heap} {c : Cg}
theorem start_ok {N ps : List Str} {xs : List R} {vs : List V} {Γ : Gh} {st : Store} {H : Hp} (h : RepRL c Γ xs vs) (F : StOk c Γ st H) : FrOk c Γ (startS N.length xs st) (L2.start N vs) H := by
  refine ⟨F, by simp [startS, L2.start, h.length], fun i x hx => ?_⟩
  have hl := h.length
  unfold startS at hx
  simp only at hx
  by_cases hi : i < xs.length
  · rw [List.getElem?_append_left (by simpa using hi)] at hx
    rw [List.getElem?_map] at hx
    cases q : xs[i]? with
    | none => rw [q] at hx; cases hx
    | some y =>
      rw [q] at hx
      cases hx
      obtain ⟨v, h1, h2⟩ := h.get q
      refine ⟨v, ?_, h2⟩
      unfold L2.start
      rw [List.getElem?_append_left (by simp; omega), List.getElem?_map, h1]
      rfl
  · rw [List.getElem?_append_right (by simpa using hi)] at hx
    obtain ⟨_, q⟩ := List.getElem?_eq_some_iff.mp hx
    rw [List.getElem_replicate] at q
    cases q
theorem finish_ok {Γ : Gh} {S : Sg} {st : Store} {r : Res Fl} {Q : VK} {E : XK} (hl : st.length = Γ.ρ.length) (h : FPost c Γ (finish st.length r) Q E) :
    PostS c (fun cls d _ H => E cls d H) Γ r { nx := fun _ H' => Q .non H', rt := Q } := by
  cases r with
  | bad => exact h
  | exc x S' =>
    intro Γ' σ' H' cls dd e F q
    have T := F.s.trunc e
    rw [← hl] at T
    exact h { Γ' with ρ := Γ.ρ } H' cls dd (le_trunc e) T q
  | ok a S' =>
    cases a with
    | nx =>
      intro Γ' σ' H' e F
      have T := F.s.trunc e
      rw [← hl] at T
      exact h { Γ' with ρ := Γ.ρ } H' .non (le_trunc e) T ((Rep.non_iff (c := c) (G := Γ'.G)).mpr rfl)
    | bk => exact (show False from h).elim
    | ct => exact (show False from h).elim
    | rt x =>
      intro Γ' σ' H' v e F q
      have T := F.s.trunc e
      rw [← hl] at T
      have h : FPost c Γ (finishR st.length S'.st x) Q E := h
      cases x with
      | p d => exact h { Γ' with ρ := Γ.ρ } H' v (le_trunc e) T q
      | r n =>
        obtain ⟨a, q1, q2⟩ := q
        subst q2
        unfold finishR at h
        simp only at h
        by_cases hb : st.length ≤ n
        · rw [if_pos hb] at h
          cases q3 : S'.st[n]? with
          | none => rw [q3] at h; exact h.elim
          | some y =>
            rw [q3] at h
            cases y with
            | dead => exact h.elim
            | fz l =>
              obtain ⟨a', vs, k1, k2, k3⟩ := F.s.fro q3
              rw [q1] at k1; cases k1
              exact h { Γ' with ρ := Γ.ρ } H' _ (le_trunc e) T (Rep.lst_iff.mpr ⟨a, vs, rfl, k2, k3⟩)
            | mu o =>
              have T1 := F.s.trunc1 e (by omega) q3 q1
              rw [← hl] at T1
              exact h { Γ' with ρ := Γ.ρ } H' a (le_trunc e) T1
        · rw [if_neg hb] at h; exact h.elim
/-- THE RULE of a def -/
theorem fn_ok {x qual : Str} {st : Stmt} {f : Addr} {fd : FuncData} {N ps : List Str} {k : Nat} {h : M Fl} (F : Fun K x qual st f fd) (S : FnScope N ps (defScope st))
    (hbody : ∀ (cdv : Value) (A : Around) (outer : List Env) (s : Shared) (H : Hp) (E : XK), (A.deeper (envOfC qual (defScope st) s.heap.objs.size f cdv)).guards = some [] → Room k (A.deeper (envOfC qual (defScope st) s.heap.objs.size f cdv)) →
      Takes (cxOf (L2.CX P w) P w K mg base N qual (defScope st) f cdv A outer s H E) (fun cls d _ H => E cls d H) →
      PSs (cxOf (L2.CX P w) P w K mg base N qual (defScope st) f cdv A outer s H E) (defBody st) (rdS c (fun cls d _ H => E cls d H) h)) :
    FnG P w K mg base (k + 1) f fd ps (spF c ps.length (runF N.length h)) := by
  obtain ⟨oc, od, kV, doc, pm, an, cdv, ct, osl, rfl, lk, hcd⟩ := F.ex
  refine ⟨fun vs H Q E ⟨_, _, _, h, _⟩ => h, fun A outer s H args us vs Q E hG hr e0 hb r hsp => ?_⟩
  have keep : ∀ b o, base.get? b = some o → s.heap.get? b = some o := fun b o e => (e0.bs b o e).1
  have KX : K.In s.heap := e0.mod.kin.keeps keep
  obtain ⟨xs, Γ, st', hl, hx, F', hP⟩ := hsp
  have hall : ∀ y ∈ ps.zip us, (defScope st).names.lookup y.1 = some .local ∨ ((defScope st).names.lookup y.1 = some .cell ∧ ((cellsFrom (s.heap.objs.size + 1) (defScope st).names []).lookup y.1).isSome = true) := fun y hy =>
    (S.par y.1 (List.of_mem_zip (a := y.1) (b := y.2) hy).1).imp_right fun q => ⟨q, PySem.W.cellsFrom_some _ _ _ (.inl q)⟩
  have cr := PySem.W.codeRec_of KX hcd
  have lk' := KX _ _ lk
  refine codeAny_call_function hr.depth lk' rfl S.co S.gen rfl cr ?_
  refine hb _ _ _ _ ?_
  refine wpAny_newFunctionEnv_cells S.kind hall fun env he s1 z => ?_
  subst he
  refine ⟨(e0.mod.nolimit.keeps keep).keeps z.toInCall.keep, codeAny_func ?_⟩
  have B := hbody cdv A outer s H E hG (hr.deeper _) (takes_of rfl rfl rfl rfl)
  have I0 : Inv (cxOf (L2.CX P w) P w K mg base N qual (defScope st) f cdv A outer s H E) [] (L2.start N vs) H s1 := inv_start S hr.hd e0 hl r z
  have B2 := B.run [] s1 (L2.start N vs) H { nx := fun _ H' => Q .non H', rt := Q } I0 ⟨Γ, _, start_ok (ps := ps) hx F', finish_ok (S := startS N.length xs st') F'.len hP⟩
  refine wpAny_mono B2 (fun fl s' q => ?_) fun _ _ q => q
  have fin : ∀ {σ' : L2.St} {H' : Hp} {v : V} {u : Value}, L2.Inv (cxOf (L2.CX P w) P w K mg base N qual (defScope st) f cdv A outer s H E) [] σ' H' s' → RelV v u → Q v H' → CE outer P w H s Q u s' :=
    fun {σ' H' v u} J rv q => ⟨v, H', J.os, J.bare, J.base, J.hok, rv, q⟩
  cases fl with
  | ret u =>
    obtain ⟨v, σ', H', J, rv, q⟩ := q
    exact fin J rv q
  | next =>
    obtain ⟨σ', H', J, q⟩ := q
    exact fin (v := V.non) (u := Value.none) J rfl q
  | brk =>
    obtain ⟨_, _, _, q⟩ := q
    exact False.elim q
  | cont =>
    obtain ⟨_, _, _, q⟩ := q
    exact False.elim q
end

/-! ### what is walked: lists, tuples, enumerate, zip, ranges -/
theorem meets_enumerate_newT (l : Addr) (items : Array Value) (n : Nat) (dct : Option Addr) (sl : Array (Option Value)) :
    Meets (Builtin.«enumerate.__new__» ⟨[.type "enumerate", .ref l], []⟩) (fun _ R s => s.heap.get? l = some { cls := .type "tuple", dict := dct, data := .seq items n, slots := sl } ∧
      R (.ok (.ret (.ref (s.heap.push { cls := .type "tuple_iterator", data := .fields #[.ref l, .int 0 0] }).objs.size)))
        { s with heap := (s.heap.push { cls := .type "tuple_iterator", data := .fields #[.ref l, .int 0 0] }).push { cls := .type "enumerate", data := .fields #[.none, .bool false, .ref s.heap.objs.size, rawInt 0, .none, .none] } }) :=
  .of_wp fun prog w A R s h => by
    obtain ⟨hp, g, d, tk, os⟩ := s; obtain ⟨hl, h⟩ := h
    have hsub := sub_enumerate
    have hL : Heap.IsTuple (Shared.heap ⟨hp, g, d, tk, os⟩) l items := ⟨_, hl, rfl, n, rfl⟩
    wp_walk using AutoSeq1.wpAny_loadPart' hl
    refine wpAny_stack_any fun st => wpAny_pure ?_
    split
    · rename_i c _ _ _ _ _
      cases (c == Value.type "enumerate")
      · wp_walk using AutoSeq1.wpAny_loadPart' hl, wpAny_pyIter_tuple hL
        exact ⟨_, rfl, h⟩
      · wp_walk using AutoSeq1.wpAny_loadPart' hl, wpAny_pyIter_tuple hL
        exact ⟨_, rfl, h⟩
    · wp_walk using AutoSeq1.wpAny_loadPart' hl, wpAny_pyIter_tuple hL
      exact ⟨_, rfl, h⟩
theorem call_enumerate_tuple {prog : Program} {w : World} {A : Around} {E : Value → Shared → Prop} {s : Shared} {l : Addr} {items : Array Value} {Q : Value → Shared → Prop} (hL : s.heap.IsTuple l items)
    (h : ∀ h', IsEnum h' (s.heap.objs.size + 1) s.heap.objs.size 0 .none → h'.IsTupleIter s.heap.objs.size l 0 → h'.objs.size = s.heap.objs.size + 2 →
      (∀ b o, s.heap.get? b = some o → h'.get? b = some o) → Q (.ref (s.heap.objs.size + 1)) { s with heap := h' }) :
    wpAny (model prog w) A (call (.type "enumerate") [.ref l]) Q E s := by
  obtain ⟨⟨c, dct, dt, sl⟩, hl, hc, n, hd⟩ := hL
  replace hc : c = .type "tuple" := hc
  replace hd : dt = .seq items n := hd
  subst hc hd
  refine callType_new F.called_enumerate (by decide) (F.typeCall_enumerate_1 _) (F.newCall_enumerate_1 _) (fun obj => F.args_object_init_2 obj _) F.entry_enumerate_new
    (meets_enumerate_newT l items n dct sl) ⟨hl, ?_⟩
  have hz : (s.heap.push { cls := .type "tuple_iterator", data := .fields #[.ref l, .int 0 0] }).objs.size = s.heap.objs.size + 1 := Heap.size_push ..
  show _ ∧ _
  rw [hz]
  have he : IsEnum ((s.heap.push { cls := .type "tuple_iterator", data := .fields #[.ref l, .int 0 0] }).push
      { cls := .type "enumerate", data := .fields #[.none, .bool false, .ref s.heap.objs.size, rawInt 0, .none, .none] }) (s.heap.objs.size + 1) s.heap.objs.size 0 .none := by
    have := Heap.get?_push_size (s.heap.push { cls := .type "tuple_iterator", data := .fields #[.ref l, .int 0 0] })
      (o := { cls := .type "enumerate", data := .fields #[.none, .bool false, .ref s.heap.objs.size, rawInt 0, .none, .none] }) rfl
    rw [hz] at this; exact this
  refine ⟨⟨_, he, rfl⟩, h _ he ⟨_, Heap.get?_push_of_some _ (Heap.get?_push_size _ rfl), rfl, rfl⟩ (by rw [Heap.size_push, hz]) fun b o x => Heap.get?_push_of_some _ (Heap.get?_push_of_some _ x)⟩
/-- the tuple at a, each item in a new pair -/
def IteT (K : PySem.W.Frag) (a : Addr) : L2.It :=
  ⟨fun i H => ∃ (xs : List V) (x : V), SqT K H a xs ∧ xs[i]? = some x, fun i H v H' => ∃ T x, v = .ref T ∧ H T = none ∧ H' = upd H T (.tup [.int (i : Nat), x]) ∧ ∀ xs, SqT K H a xs → xs[i]? = some x, fun i H => ∃ xs : List V, SqT K H a xs ∧ xs.length = i⟩
theorem in1_handled {A : Around} (h : A.handled = none) : A.in1.handled = none := h
theorem turn_enumT {P : Program} {w : World} {K : PySem.W.Frag} {elts : List Expr} {kk : Nat} {tpos : Pos} (a e it : Addr) (hai : a ≠ it) (hae : a ≠ e) :
    Turn P w K (.Tuple elts kk tpos) (IteT K a) [e, it] e (fun i h => (∃ old, IsEnum h e it ((i : Nat) : Int) old) ∧ h.IsTupleIter it a i ∧ e ≠ it) where
  mem := by simp
  obj := fun i h st b hb => by
    obtain ⟨⟨old, he⟩, ⟨o, ho, hc, hd⟩, _⟩ := st
    have e' : b = e ∨ b = it := by simpa using hb
    rcases e' with z | z
    · rw [z]; exact ⟨_, he, fun v q => nomatch q⟩
    · rw [z]; exact ⟨o, ho, fun v q => by rw [hd] at q; cases q⟩
  keep := fun i h h' st k => let ⟨⟨old, he⟩, hi, hne⟩ := st; ⟨⟨old, k e (by simp) _ he⟩, hi.at fun o q => k it (by simp) o q, hne⟩
  item := by
    intro X hP hw hK hc i pins s σ H E I hf st hg
    subst hP hw hK
    obtain ⟨⟨old, he⟩, hit, hne⟩ := st
    obtain ⟨xs, x, hq, hx⟩ := hg
    obtain ⟨its, rv, p, hz⟩ := I.tuple hq
    obtain ⟨u, hu, ru⟩ := rv.get hx
    have hel : e < s.heap.objs.size := Heap.lt_size he
    have hil : it < s.heap.objs.size := by obtain ⟨_, q, _⟩ := hit; exact Heap.lt_size q
    have hlt : i < its.toArray.size := by simpa using (List.getElem?_eq_some_iff.mp hu).1
    refine wpAny_pyNext_enum_itemD (Draws.tuple (prog := X.prog) (w := X.w) (in1_handled (I.ok.hd hc)) it a hai its.toArray) he ⟨hit, p⟩ hlt hne (by simp; exact ⟨hne, Ne.symm hae⟩) fun y h' tk hP ho hit' hT hsz hk => ?_
    have hy : u = y := by
      have hP' : its.toArray[i]? = some y := hP
      have hu' : its.toArray[i]? = some u := by simpa using hu
      rw [hu'] at hP'; exact Option.some.inj hP'
    subst hy
    refine ⟨_, rfl, wpAny_letOwnedTupleGo_enum (s := { s with heap := h', toks := tk + 1 }) ho fun h'' he' sb => ?_⟩
    have hT2 : h''.get? s.heap.objs.size = some { cls := .type "tuple", data := .seq #[.int i tk, u] } := (sb.2 _ (Nat.ne_of_gt hel)).trans hT
    have new : ObjOk X.prog X.w (upd H s.heap.objs.size (.tup [.int (i : Nat), x])) h'' s.heap.objs.size (.tup [.int (i : Nat), x]) :=
      ⟨by show 2 ≤ sizeLine; decide, [.int i tk, u], .cons ⟨_, rfl⟩ (.cons ru .nil), ⟨_, hT2, rfl, _, rfl⟩⟩
    have I1 : Inv X pins σ (upd H s.heap.objs.size (.tup [.int (i : Nat), x])) { s with heap := h'', toks := tk + 1 } :=
      I.turnedNew (ch := [e, it]) (fun b ob hb q => (sb.2 b (fun z => hb (by simp [z]))).trans (hk b ob (fun z => hb (by simp [z])) (fun z => hb (by simp [z])) q)) hf (Nat.le_refl _) new
    refine ⟨.ref s.heap.objs.size, _, I1, rfl, ⟨_, x, rfl, I.hok.fresh (Nat.le_refl _), rfl, fun ys hy => by rw [I.tuple_inj hy hq]; exact hx⟩, ⟨⟨u, ?_⟩, hit'.1.at fun o q => (sb.2 it (Ne.symm hne)).trans q, hne⟩, fun b hb => ?_⟩
    · have e1 : ((i + 1 : Nat) : Int) = (i : Int) + 1 := by omega
      rw [e1]; exact he'
    · have hb' : b < s.heap.objs.size := by
        have e' : b = e ∨ b = it := by simpa using hb
        rcases e' with z | z
        · rw [z]; exact hel
        · rw [z]; exact hil
      rw [upd_ne (Nat.ne_of_lt hb')]
      exact (hf b hb).1
  done := by
    intro X hP hw hK hc i pins s σ H E I hf st hg
    subst hP hw hK
    obtain ⟨⟨old, he⟩, hit, hne⟩ := st
    obtain ⟨xs, hq, hx⟩ := hg
    obtain ⟨its, rv, p, hz⟩ := I.tuple hq
    obtain ⟨f0, f1, f2, f3, f4, f5⟩ := hf it (by simp)
    have hl : its.toArray.size = i := by simp; rw [← rv.length]; exact hx
    subst hl
    exact wpAny_pyNext_enum_endD (Draws.tuple (prog := X.prog) (w := X.w) (in1_handled (I.ok.hd hc)) it a hai its.toArray) he ⟨hit, p⟩ fun h' eb => ⟨rfl, I.turned (t' := s.toks) (fun b o hb q => eb b o hb q) f0 f1 f3 f4 f5⟩
  self := fun A i s Q E st h => let ⟨⟨_, he⟩, _⟩ := st; wpAny_pyIter_enum he h
end Dd

set_option Elab.async false
set_option linter.all false
set_option maxRecDepth 100000
namespace Dd
open PySem PySem.Spec PyProof.Rows L2

/-- arguments that are ints -/
def asI : R → Option Int
  | .p (.int j) => some j
  | _ => none
theorem asI_some {x : R} {j : Int} (h : asI x = some j) : x = .p (.int j) := by
  cases x with
  | r n => cases h
  | p d =>
    cases d with
    | int i => cases h; rfl
    | _ => cases h
def asI1 : List R → Option Int
  | [x] => asI x
  | _ => none
theorem asI1_some {xs : List R} {j : Int} (h : asI1 xs = some j) : xs = [.p (.int j)] := by
  cases xs with
  | nil => cases h
  | cons x xs =>
    cases xs with
    | nil => rw [asI_some h]
    | cons y ys => cases h
def asI2 : List R → Option (Int × Int)
  | [x, y] => match asI x with
    | some i => match asI y with
      | some j => some (i, j)
      | none => none
    | none => none
  | _ => none
theorem asI2_some {xs : List R} {i j : Int} (h : asI2 xs = some (i, j)) : xs = [.p (.int i), .p (.int j)] := by
  cases xs with
  | nil => cases h
  | cons x xs =>
    cases xs with
    | nil => cases h
    | cons y ys =>
      cases ys with
      | cons z zs => cases h
      | nil =>
        unfold asI2 at h
        simp only at h
        cases hx : asI x with
        | none => rw [hx] at h; cases h
        | some i' =>
          rw [hx] at h
          simp only at h
          cases hy : asI y with
          | none => rw [hy] at h; cases h
          | some j' => rw [hy] at h; cases h; rw [asI_some hx, asI_some hy]
/-- a list's or tuple's items -/
def itL (f : M R) : M (Itm D) := do
  let x ← f
  fun S => match getL x S with
    | some l => .ok ⟨fun S' => getL x S' = some l, l⟩ S
    | none => .bad
/-- the items with their numbers -/
def numbered : Nat → List D → List (List D)
  | _, [] => []
  | k, d :: ds => [.int k, d] :: numbered (k + 1) ds
theorem numbered_get : ∀ {l : List D} {k i : Nat} {ds : List D}, (numbered k l)[i]? = some ds → ∃ d, l[i]? = some d ∧ ds = [.int ((k + i : Nat) : Int), d]
  | [], k, i, ds, h => by simp [numbered] at h
  | d :: l, k, i, ds, h => by
    cases i with
    | zero => simp [numbered] at h; exact ⟨d, rfl, h.symm⟩
    | succ i =>
      have h' : (numbered (k + 1) l)[i]? = some ds := by simpa [numbered] using h
      obtain ⟨d', h1, h2⟩ := numbered_get h'
      exact ⟨d', by simpa using h1, by rw [h2]; congr 3; omega⟩
theorem numbered_length : ∀ {l : List D} {k : Nat}, (numbered k l).length = l.length
  | [], _ => rfl
  | _ :: l, k => by simp [numbered, numbered_length (l := l)]
def itE (f : M R) : M (Itm (List D)) := do
  let x ← f
  fun S => match getL x S with
    | some l => .ok ⟨fun S' => getL x S' = some l, numbered 0 l⟩ S
    | none => .bad
def intsFrom (lo : Int) : Nat → List D
  | 0 => []
  | n + 1 => .int lo :: intsFrom (lo + 1) n
theorem intsFrom_length : ∀ {lo : Int} {n : Nat}, (intsFrom lo n).length = n
  | _, 0 => rfl
  | lo, n + 1 => by simp [intsFrom, intsFrom_length]
theorem intsFrom_get : ∀ {lo : Int} {n i : Nat} {d : D}, (intsFrom lo n)[i]? = some d → d = .int (lo + (i : Nat)) ∧ i < n
  | lo, 0, i, d, h => by simp [intsFrom] at h
  | lo, n + 1, i, d, h => by
    cases i with
    | zero => simp [intsFrom] at h; exact ⟨by rw [← h]; simp, by omega⟩
    | succ i =>
      obtain ⟨h1, h2⟩ := intsFrom_get (lo := lo + 1) (n := n) (i := i) (by simpa [intsFrom] using h)
      exact ⟨by rw [h1]; congr 1; omega, by omega⟩
def downFrom (i c : Int) : Nat → List D
  | 0 => []
  | n + 1 => .int i :: downFrom (i + c) c n
section
variable {X : Cx} {c : Cg} {W : WX} {tg e e2 : Expr} {f f2 : M R} {g : M (List R)} {pos p : Pos} {elts : List Expr} {kk : Nat} {tpos : Pos} {es : List Expr}
theorem si_of {t : TI} {it : M (Itm D)} (h : PI X tg e t) (hi : ∀ σ H R, rdI c W it σ H R → t σ H R) : PI X tg e (rdI c W it) := ⟨fun pins s σ H R I q => h.run pins s σ H R I (hi σ H R q)⟩
theorem siT_of {t : TI} {it : M (Itm (List D))} (h : PI X tg e t) (hi : ∀ σ H R, rdIT c W it σ H R → t σ H R) : PI X tg e (rdIT c W it) := ⟨fun pins s σ H R I q => h.run pins s σ H R I (hi σ H R q)⟩
/-- lists and tuples alike -/
def iSeq (K : PySem.W.Frag) (tl : TE) : TI := fun σ H R => tl σ H fun x H1 => ∃ a, x = .ref a ∧ (((∃ xs, SqL K H1 a xs) ∧ R (Itl K a) H1) ∨ ((∃ xs, SqT K H1 a xs) ∧ R (Itt K a) H1))
theorem pi_seq {tl : TE} (hl : PE X e tl) : PI X tg e (iSeq X.K tl) := by
  refine ⟨fun pins s σ H R I h => ?_⟩
  refine thn (hl.run pins s σ H _ I h) fun v s1 ⟨x, H1, I1, r1, a, e1, q⟩ => ?_
  subst e1
  cases r1
  have fin : ∀ (b : Addr), b ∈ [s1.heap.objs.size] → FpOk X pins H1 b := fun b hb => by
    have e : b = s1.heap.objs.size := by simpa using hb
    subst e
    exact I1.fpOk (Nat.le_refl _) (I1.hok.fresh (Nat.le_refl _))
  rcases q with ⟨⟨xs, hq⟩, q⟩ | ⟨⟨xs, hq⟩, q⟩
  · obtain ⟨its, rv, p, hz⟩ := I1.list hq
    refine wpAny_pyIter_list p.isList ?_
    exact ⟨s1.heap.objs.size, [s1.heap.objs.size], _, _, H1, rfl, I1.kept (t' := s1.toks) fun b o e => Heap.get?_push_of_some _ e, turn_list a _, ⟨_, Heap.get?_push_size _ rfl, rfl, rfl⟩, fin, q⟩
  · obtain ⟨its, rv, p, hz⟩ := I1.tuple hq
    refine wpAny_pyIter_tuple (show s1.heap.IsTuple a its.toArray from p) ?_
    exact ⟨s1.heap.objs.size, [s1.heap.objs.size], _, _, H1, rfl, I1.kept (t' := s1.toks) fun b o e => Heap.get?_push_of_some _ e, turn_tuple a _, ⟨_, Heap.get?_push_size _ rfl, rfl, rfl⟩, fin, q⟩
theorem itL_list {Γ0 : Gh} {x : R} {a : Addr} {l : List D} (hv : RepR c Γ0 x (.ref a)) (hx : ∀ S, getLst x S = getL x S) : ItOk c Γ0 ⟨fun S' => getL x S' = some l, l⟩ (Itl c.K a) := by
  intro Γ S σ H i e F hok
  have hok : getL x S = some l := hok
  obtain ⟨a', vs, e1, h1, h2⟩ := getLst_ok F (hv.sub e) ((hx S).trans hok)
  cases e1
  refine ⟨fun d hd => ?_, fun hl => ⟨vs, h1, by rw [h2.length]; exact Nat.le_of_eq hl⟩⟩
  obtain ⟨v, q1, q2⟩ := h2.get hd
  refine ⟨⟨vs, v, h1, q1⟩, fun y H' hy => ?_⟩
  obtain ⟨rfl, hy⟩ := hy
  have := hy vs h1
  rw [q1] at this; cases this
  exact ⟨Γ, Gh.le.refl, F, q2⟩
theorem itL_tup {Γ0 : Gh} {a : Addr} {l : List D} (hv : RepR c Γ0 (.p (.tup l)) (.ref a)) : ItOk c Γ0 ⟨fun S' => getL (.p (.tup l)) S' = some l, l⟩ (Itt c.K a) := by
  intro Γ S σ H i e F hok
  obtain ⟨a', vs, e1, h1, h2⟩ := Rep.tup_iff.mp (RepR.pure.mp (hv.sub e))
  cases e1
  have h1 := (TupS.mono F.s.g h1).sq
  refine ⟨fun d hd => ?_, fun hl => ⟨vs, h1, by rw [h2.length]; exact Nat.le_of_eq hl⟩⟩
  obtain ⟨v, q1, q2⟩ := h2.get hd
  refine ⟨⟨vs, v, h1, q1⟩, fun y H' hy => ?_⟩
  obtain ⟨rfl, hy⟩ := hy
  have := hy vs h1
  rw [q1] at this; cases this
  exact ⟨Γ, Gh.le.refl, F, q2⟩
theorem getL_kind {x : R} {S : Sg} {l : List D} (h : getL x S = some l) : (∀ S, getLst x S = getL x S) ∨ x = .p (.tup l) := by
  cases x with
  | r n => exact .inl fun _ => rfl
  | p d =>
    cases d with
    | tup l' => cases h; exact .inr rfl
    | lst l' => exact .inl fun _ => rfl
    | scp l' => exact .inl fun _ => rfl
    | _ => cases h
theorem si_seq (hK : X.K = c.K) (h : PE X e (rdE c W f)) : PI X tg e (rdI c W (itL f)) := si_of (pi_seq h) fun σ H R q => by
  obtain ⟨Γ, S, F, P⟩ := q
  refine ⟨Γ, S, F, (Post.bind P).imp fun x S1 Γ1 H1 e1 F1 ⟨_, P1⟩ v hv => ?_⟩
  cases q : getL x S1 with
  | none => rw [q] at P1; exact P1.elim
  | some l =>
    rw [q] at P1
    have P2 := fun J hJ => Post.ok (c := c) (W := W) P1 Gh.le.refl F1 J hJ
    obtain ⟨a, vs, rfl, h1, h2⟩ := getL_ok F1 hv q
    refine ⟨a, rfl, ?_⟩
    rw [hK]
    rcases getL_kind q with hx | rfl
    · obtain ⟨a', vs', e1, h1, h2⟩ := getLst_ok F1 hv ((hx S1).trans q)
      cases e1
      exact .inl ⟨⟨vs', h1⟩, P2 _ (itL_list hv hx)⟩
    · obtain ⟨a', vs', e1, h1, h2⟩ := Rep.tup_iff.mp (RepR.pure.mp hv)
      cases e1
      exact .inr ⟨⟨vs', (TupS.mono F1.s.g h1).sq⟩, P2 _ (itL_tup hv)⟩

/-! ### enumerate -/
def iEnumA (K : PySem.W.Frag) (ta : TA) : TI := fun σ H R => ta σ H fun vs H1 => ∃ a, vs = [.ref a] ∧ (((∃ xs, SqL K H1 a xs) ∧ R (Ite K a) H1) ∨ ((∃ xs, SqT K H1 a xs) ∧ R (IteT K a) H1))
theorem pi_enumA {ta : TA} (hg : Gl X "enumerate") (hm : X.mg "enumerate" = none) (ha : PA X [e] ta) (hs : starEach [e] X.env = (false, eval e X.env) :: starEach [] X.env := by rfl) :
    PI X (.Tuple elts kk tpos) (.Call (.Name "enumerate" p) [e] [] pos) (iEnumA X.K ta) := by
  refine ⟨fun pins s σ H R I h => ?_⟩
  refine Call_ (ld_blt I hg hm boot_enumerate (PyProof.Rows.callWith_type1 (thn (ha.run pos pins s σ H _ I h) fun us s1 ⟨vs, H1, I1, r1, q1⟩ => ?_) hs rfl))
  obtain ⟨a, ex, q⟩ := q1
  subst ex
  cases r1 with
  | cons r rr =>
    cases rr
    cases r
    have fin : ∀ b, b ∈ [s1.heap.objs.size + 1, s1.heap.objs.size] → FpOk X pins H1 b := fun b hb => by
      have e' : b = s1.heap.objs.size + 1 ∨ b = s1.heap.objs.size := by simpa using hb
      have hle : s1.heap.objs.size ≤ b := by
        rcases e' with z | z
        · rw [z]; exact Nat.le_add_right _ _
        · rw [z]; exact Nat.le_refl _
      exact I1.fpOk hle (I1.hok.fresh hle)
    rcases q with ⟨⟨xs, hq⟩, q⟩ | ⟨⟨xs, hq⟩, q⟩
    · obtain ⟨its, rv, p', hz⟩ := I1.list hq
      refine call_enumerate_list p'.isList fun h' he hit hsz hk => wpAny_pyIter_enum he ?_
      have I2 : L2.Inv X pins σ H1 { s1 with heap := h' } := I1.kept (t' := s1.toks) hk
      exact ⟨s1.heap.objs.size + 1, [s1.heap.objs.size + 1, s1.heap.objs.size], _, _, H1, rfl, I2, turn_enum a (s1.heap.objs.size + 1) s1.heap.objs.size, ⟨⟨.none, he⟩, hit, Nat.succ_ne_self _⟩, fin, q⟩
    · obtain ⟨its, rv, p', hz⟩ := I1.tuple hq
      refine call_enumerate_tuple (show s1.heap.IsTuple a its.toArray from p') fun h' he hit hsz hk => wpAny_pyIter_enum he ?_
      have I2 : L2.Inv X pins σ H1 { s1 with heap := h' } := I1.kept (t' := s1.toks) hk
      have hlt : a < s1.heap.objs.size := by obtain ⟨o, e, _⟩ := p'; exact Heap.lt_size e
      exact ⟨s1.heap.objs.size + 1, [s1.heap.objs.size + 1, s1.heap.objs.size], _, _, H1, rfl, I2, turn_enumT a (s1.heap.objs.size + 1) s1.heap.objs.size (Nat.ne_of_lt hlt) (Nat.ne_of_lt (Nat.lt_succ_of_lt hlt)), ⟨⟨.none, he⟩, hit, Nat.succ_ne_self _⟩, fin, q⟩
theorem newW_ok {Γ : Gh} {S : Sg} {σ : L2.St} {H : Hp} {vs : List V} {p : Addr} (F : FrOk c Γ S σ H) (hp : H p = none) :
    ∃ Γ', Γ.le Γ' ∧ FrOk c Γ' S σ (upd H p (.tup vs)) := by
  have hG : Γ.G p = none := Ext.none F.s.g hp
  have ex : Ext Γ.G (upd Γ.G p (.tup vs)) := Ext.upd hG
  have le : Γ.le { Γ with G := upd Γ.G p (.tup vs) } := ⟨ex, rfl, [], by simp⟩
  exact ⟨_, le, F.of le (F.s.newG hp)⟩
theorem itE_list {Γ0 : Gh} {x : R} {a : Addr} {l : List D} (hv : RepR c Γ0 x (.ref a)) (hx : ∀ S, getLst x S = getL x S) : ItOkT c Γ0 ⟨fun S' => getL x S' = some l, numbered 0 l⟩ (Ite c.K a) := by
  intro Γ S σ H i e F hok
  have hok : getL x S = some l := hok
  obtain ⟨a', vs, e1, h1, h2⟩ := getLst_ok F (hv.sub e) ((hx S).trans hok)
  cases e1
  refine ⟨fun ds hd => ?_, fun hl => ⟨vs, h1, by rw [h2.length]; rw [numbered_length] at hl; exact Nat.le_of_eq hl⟩⟩
  obtain ⟨d, hd2, rfl⟩ := numbered_get hd
  obtain ⟨v, q1, q2⟩ := h2.get hd2
  refine ⟨⟨vs, v, h1, q1⟩, fun y H' hy => ?_⟩
  obtain ⟨T, x', rfl, hT, rfl, hy⟩ := hy
  have := hy vs h1
  rw [q1] at this; cases this
  obtain ⟨Γ', le, F'⟩ := newW_ok (vs := [.int (i : Nat), v]) F hT
  exact ⟨Γ', T, _, le, F', rfl, upd_same, RepL.cons (Rep.int_iff.mpr (by simp)) (RepL.one (q2.mono le.g))⟩
theorem itE_tup {Γ0 : Gh} {a : Addr} {l : List D} (hv : RepR c Γ0 (.p (.tup l)) (.ref a)) : ItOkT c Γ0 ⟨fun S' => getL (.p (.tup l)) S' = some l, numbered 0 l⟩ (IteT c.K a) := by
  intro Γ S σ H i e F hok
  obtain ⟨a', vs, e1, h1, h2⟩ := Rep.tup_iff.mp (RepR.pure.mp (hv.sub e))
  cases e1
  have h1 := (TupS.mono F.s.g h1).sq
  refine ⟨fun ds hd => ?_, fun hl => ⟨vs, h1, by rw [h2.length]; rw [numbered_length] at hl; exact hl⟩⟩
  obtain ⟨d, hd2, rfl⟩ := numbered_get hd
  obtain ⟨v, q1, q2⟩ := h2.get hd2
  refine ⟨⟨vs, v, h1, q1⟩, fun y H' hy => ?_⟩
  obtain ⟨T, x', rfl, hT, rfl, hy⟩ := hy
  have := hy vs h1
  rw [q1] at this; cases this
  obtain ⟨Γ', le, F'⟩ := newW_ok (vs := [.int (i : Nat), v]) F hT
  exact ⟨Γ', T, _, le, F', rfl, upd_same, RepL.cons (Rep.int_iff.mpr (by simp)) (RepL.one (q2.mono le.g))⟩
theorem si_enum (hK : X.K = c.K) (hg : Gl X "enumerate") (hm : X.mg "enumerate" = none) (h : PE X e (rdE c W f)) (hs : starEach [e] X.env = (false, eval e X.env) :: starEach [] X.env := by rfl) : PI X (.Tuple elts kk tpos) (.Call (.Name "enumerate" p) [e] [] pos) (rdIT c W (itE f)) :=
  siT_of (pi_enumA hg hm (sa_cons h sa_nil hs) hs) fun σ H R q => by
    obtain ⟨Γ, S, F, P⟩ := q
    refine ⟨Γ, S, F, ?_⟩
    rw [show aC f aN S = (match f S with | .ok x S1 => .ok [x] S1 | .exc x S1 => .exc x S1 | .bad => .bad) from by
      show (f >>= fun x => aN >>= fun xs => pure (x :: xs)) S = _
      rw [bind_ap]; cases f S <;> rfl]
    have P := Post.bind P
    cases qf : f S with
    | bad => rw [qf] at P; exact P
    | exc x S' => rw [qf] at P; exact P
    | ok x S1 =>
      rw [qf] at P
      intro Γ1 H1 e1 F1 vs hvs
      obtain ⟨_, P1⟩ := P Γ1 H1 e1 F1
      obtain ⟨v, r, rfl, hv, hr⟩ := hvs
      have hr : r = [] := hr
      subst hr
      cases q : getL x S1 with
      | none => rw [q] at P1; exact P1.elim
      | some l =>
        rw [q] at P1
        have P2 := fun J hJ => Post.ok (c := c) (W := W) P1 Gh.le.refl F1 J hJ
        obtain ⟨a, vs, rfl, h1, h2⟩ := getL_ok F1 hv q
        refine ⟨a, rfl, ?_⟩
        rw [hK]
        rcases getL_kind q with hx | rfl
        · obtain ⟨a', vs', e1, h1, h2⟩ := getLst_ok F1 hv ((hx S1).trans q)
          cases e1
          exact .inl ⟨⟨vs', h1⟩, P2 _ (itE_list hv hx)⟩
        · obtain ⟨a', vs', e1, h1, h2⟩ := Rep.tup_iff.mp (RepR.pure.mp hv)
          cases e1
          exact .inr ⟨⟨vs', (TupS.mono F1.s.g h1).sq⟩, P2 _ (itE_tup hv)⟩

/-! ### ranges -/
theorem itR_ok {Γ0 : Gh} {lo : Int} {n : Nat} : ItOk c Γ0 ⟨fun _ => True, intsFrom lo n⟩ (Itr lo n) := by
  intro Γ S σ H i e F _
  refine ⟨fun d hd => ?_, fun hl => ?_⟩
  · obtain ⟨rfl, hi⟩ := intsFrom_get hd
    refine ⟨hi, fun y H' hy => ?_⟩
    obtain ⟨rfl, rfl⟩ := hy
    exact ⟨Γ, Gh.le.refl, F, Rep.int_iff.mpr rfl⟩
  · rw [intsFrom_length] at hl
    exact Nat.le_of_eq hl
theorem ints1 {Γ : Gh} {xs : List R} {vs : List V} {j : Int} (h : RepRL c Γ xs vs) (e : asI1 xs = some j) : vs = [.int j] := by
  rw [asI1_some e] at h
  obtain ⟨v, r, rfl, h1, h2⟩ := h
  rw [RepR.int h1, show r = [] from h2]
theorem ints2 {Γ : Gh} {xs : List R} {vs : List V} {i j : Int} (h : RepRL c Γ xs vs) (e : asI2 xs = some (i, j)) : vs = [.int i, .int j] := by
  rw [asI2_some e] at h
  obtain ⟨v, r, rfl, h1, u, r', rfl, h2, h3⟩ := h
  rw [RepR.int h1, RepR.int h2, show r' = [] from h3]
def itR1 (g : M (List R)) : M (Itm D) := do
  let xs ← g
  fun S => match asI1 xs with
    | some j => if -(2 ^ 62) ≤ j ∧ j < 2 ^ 62 then .ok ⟨fun _ => True, intsFrom 0 j.toNat⟩ S else .bad
    | none => .bad
theorem si_range1 {a : Expr} (hg : Gl X "range") (hm : X.mg "range" = none) (ha : PA X [a] (rdA c W g)) (hs : starEach [a] X.env = [(false, eval a X.env)] := by rfl) : PI X tg (.Call (.Name "range" p) [a] [] pos) (rdI c W (itR1 g)) :=
  si_of (pi_range1 hg hm ha hs) fun σ H R q => by
    obtain ⟨Γ, S, F, P⟩ := q
    refine ⟨Γ, S, F, (Post.bind P).imp fun xs S1 Γ1 H1 e1 F1 ⟨_, P1⟩ vs hvs => ?_⟩
    cases q : asI1 xs with
    | none => rw [q] at P1; exact P1.elim
    | some j =>
      rw [q] at P1
      have P1 : Post c W σ Γ1 (if -(2 ^ 62) ≤ j ∧ j < 2 ^ 62 then Res.ok (⟨fun _ => True, intsFrom 0 j.toNat⟩ : Itm D) S1 else .bad) _ := P1
      by_cases h : -(2 ^ 62) ≤ j ∧ j < 2 ^ 62
      · rw [if_pos h] at P1
        exact ⟨j, ints1 hvs q, h.1, h.2, Post.ok (c := c) (W := W) P1 Gh.le.refl F1 _ itR_ok⟩
      · rw [if_neg h] at P1; exact P1.elim
end

end Dd

set_option Elab.async false
set_option linter.all false
set_option maxRecDepth 100000
namespace Dd
open PySem PySem.Spec PyProof.Rows L2

/-! ### comprehensions -/
def setS (S : Sg) : List Nat → List D → Sg
  | k :: ks, d :: ds => setS { S with sl := S.sl.set k (some (.p d)) } ks ds
  | _, _ => S
def setV (σ : L2.St) : List Nat → List V → L2.St
  | k :: ks, v :: vs => setV (σ.set k (some v)) ks vs
  | _, _ => σ
/-- the slots of a block's own names, forgotten -/
def wipeL (sl : List (Option R)) : List Nat → List (Option R)
  | [] => sl
  | v :: vs => (wipeL sl vs).set v none
def wipeS (S : Sg) (vs : List Nat) : Sg := { S with sl := wipeL S.sl vs }
/-- one turn: the target, the test, the element; the own names forgotten -/
def lcB {α : Type} (own ks : List Nat) (unp : α → Option (List D)) (tt : M Bool) (f : M R) : α → M (Option D) := fun x S => match unp x with
  | some ds => if ds.length = ks.length then (do
      let b ← tt
      if b = true then do
        let x ← f
        let y ← pure1 x
        fun S => .ok (some y) (wipeS S own)
      else fun S => .ok none (wipeS S own)) (setS S ks ds) else .bad
  | none => .bad
open Classical in
noncomputable def lcL {α : Type} (ok : Sg → Prop) (body : α → M (Option D)) : List α → List D → M (List D)
  | [], acc => fun S => if ok S then .ok acc S else .bad
  | d :: ds, acc => fun S => if ok S then (match body d S with
    | .ok none S' => lcL ok body ds acc S'
    | .ok (some y) S' => if acc.length < sizeLine then lcL ok body ds (acc ++ [y]) S' else .bad
    | _ => .bad) else .bad
def lcFin (S1 : Sg) : Res (List D) → Res R
  | .ok acc S' => allocL acc { S1 with st := S'.st }
  | _ => .bad
/-- [f for ks in it if tt]; own: the block's own names' slots -/
noncomputable def lcE {α : Type} (own ks : List Nat) (unp : α → Option (List D)) (it : M (Itm α)) (tt : M Bool) (f : M R) : M R := do
  let I ← it
  fun S => lcFin S (lcL I.ok (lcB own ks unp tt f) I.l [] (wipeS S own))
def tYesM : M Bool := pure true
def unp1 : D → Option (List D) := fun d => some [d]
def unpT : D → Option (List D) := fun d => match d with
  | .tup l => some l
  | _ => none
def unpW : List D → Option (List D) := some
section
variable {α : Type} {ok : Sg → Prop} {body : α → M (Option D)} {d : α} {ds : List α} {acc : List D} {S S' : Sg} {y : D}
theorem lcL_nil (h : ok S) : lcL ok body [] acc S = .ok acc S := by unfold lcL; rw [if_pos h]
theorem lcL_ok {l : List α} {r : List D} (h : lcL ok body l acc S = .ok r S') : ok S := by
  apply Classical.byContradiction
  intro hn
  cases l with
  | nil => unfold lcL at h; rw [if_neg hn] at h; cases h
  | cons d ds => unfold lcL at h; rw [if_neg hn] at h; cases h
theorem lcL_inv {r : List D} {SF : Sg} (h : lcL ok body (d :: ds) acc S = .ok r SF) : (∃ S', body d S = .ok none S' ∧ lcL ok body ds acc S' = .ok r SF) ∨ ∃ y S', body d S = .ok (some y) S' ∧ acc.length < sizeLine ∧ lcL ok body ds (acc ++ [y]) S' = .ok r SF := by
  have hok := lcL_ok h
  unfold lcL at h
  rw [if_pos hok] at h
  cases q : body d S with
  | bad => rw [q] at h; cases h
  | exc x S' => rw [q] at h; cases h
  | ok a S' =>
    rw [q] at h
    cases a with
    | none => exact .inl ⟨S', rfl, h⟩
    | some y =>
      simp only at h
      by_cases hl : acc.length < sizeLine
      · rw [if_pos hl] at h; exact .inr ⟨y, S', rfl, hl, h⟩
      · rw [if_neg hl] at h; cases h
end
section
variable {c : Cg} {W : WX} {Γ : Gh} {S : Sg} {σ : L2.St} {H : Hp}
theorem FrOk.wipe (F : FrOk c Γ S σ H) : ∀ (vs : List Nat), FrOk c Γ (wipeS S vs) (L2.wipe σ vs) H
  | [] => F
  | v :: vs => by
    have G := FrOk.wipe F vs
    refine ⟨G.s, by show ((wipeL S.sl vs).set v none).length = ((L2.wipe σ vs).set v none).length; rw [List.length_set, List.length_set]; exact G.len, fun i x h => ?_⟩
    have h : ((wipeL S.sl vs).set v none)[i]? = some (some x) := h
    show ∃ w, ((L2.wipe σ vs).set v none)[i]? = some (some w) ∧ _
    by_cases e : v = i
    · subst e
      have hlt := (List.getElem?_eq_some_iff.mp h).1
      simp at hlt
      rw [List.getElem?_set_self hlt] at h
      cases h
    · rw [List.getElem?_set_ne e] at h ⊢
      exact G.sl i x h
theorem FrOk.putL : ∀ {ks : List Nat} {ds : List D} {vs : List V} {S : Sg} {σ : L2.St}, FrOk c Γ S σ H → RepL c Γ.G ds vs → FrOk c Γ (setS S ks ds) (setV σ ks vs) H
  | [], _, _, _, _, F, _ => by unfold setS setV; exact F
  | k :: ks, [], vs, _, _, F, h => by rw [RepL.nil_iff.mp h]; unfold setS setV; exact F
  | k :: ks, d :: ds, vs, S, σ, F, h => by
    obtain ⟨v, r, rfl, h1, h2⟩ := RepL.cons_iff.mp h
    unfold setS setV
    exact FrOk.putL (F.put k (x := .p d) h1) h2
theorem set_wipe_comm {σ : L2.St} {i : Nat} {x : Option V} : ∀ {ws : List Nat}, i ∈ ws → wipe (σ.set i x) ws = wipe σ ws
  | w :: ws, h => by
    unfold wipe
    by_cases e : w = i
    · subst e
      by_cases hm : w ∈ ws
      · rw [set_wipe_comm hm]
      · have : wipe (σ.set w x) ws = (wipe σ ws).set w x := by
          clear h
          induction ws with
          | nil => rfl
          | cons y ys ih =>
            simp only [List.mem_cons, not_or] at hm
            unfold wipe
            rw [ih hm.2, List.set_comm _ _ hm.1]
        rw [this, List.set_set]
    · rw [set_wipe_comm ((List.mem_cons.mp h).resolve_left fun q => e q.symm)]
theorem setV_wipe : ∀ {ks : List Nat} {vs : List V} {σ : L2.St} {ws : List Nat}, (∀ k ∈ ks, k ∈ ws) → wipe (setV σ ks vs) ws = wipe σ ws
  | [], _, _, _, _ => by unfold setV; rfl
  | k :: ks, [], _, _, _ => by unfold setV; rfl
  | k :: ks, v :: vs, σ, ws, h => by
    unfold setV
    rw [setV_wipe (fun k' hk => h k' (List.mem_cons_of_mem _ hk)), set_wipe_comm (h k List.mem_cons_self)]
theorem wipe_wipe {σ : L2.St} {ws : List Nat} : wipe (wipe σ ws) ws = wipe σ ws := by
  apply List.ext_getElem?
  intro i
  have key : ∀ (ws : List Nat) (τ : L2.St), (wipe τ ws)[i]? = if i ∈ ws then (τ[i]?).map (fun _ => none) else τ[i]? := by
    intro ws
    induction ws with
    | nil => intro τ; simp [wipe]
    | cons w ws ih =>
      intro τ
      unfold wipe
      by_cases e : w = i
      · subst e
        simp only [List.mem_cons_self, if_true]
        by_cases hl : w < (wipe τ ws).length
        · rw [List.getElem?_set_self hl]
          rw [wipe_length] at hl
          rw [List.getElem?_eq_getElem hl]; rfl
        · rw [List.getElem?_eq_none (by simpa using hl)]
          rw [wipe_length] at hl
          rw [List.getElem?_eq_none (by omega)]; rfl
      · rw [List.getElem?_set_ne e, ih]
        have : (i ∈ w :: ws) ↔ i ∈ ws := by simp [Ne.symm e]
        simp only [this]
  rw [key, key]
  split
  · cases σ[i]? <;> rfl
  · rfl
/-- a tracked object that nothing else speaks of becomes a cell -/
theorem StOk.adopt {st : Store} {p : Addr} {o : Con} {u : HO} (F : StOk c Γ st H) (hp : H p = some u) (hG : Γ.G p = none) (hL : Γ.L p = none) (hn : ∀ (n : Nat) (q : Con), st[n]? = some (.mu q) → Γ.ρ[n]? ≠ some p) (hO : Γ.O p = none) (ho : ConOk c Γ p o u) :
    StOk c { Γ with ρ := Γ.ρ ++ [p] } (st ++ [.mu o]) H := by
  have le : Γ.le { Γ with ρ := Γ.ρ ++ [p] } := le_app
  have lo : ∀ (n : Nat) (x : Cell) (a : Addr), (st ++ [Cell.mu o])[n]? = some x → (Γ.ρ ++ [p])[n]? = some a → (n < st.length ∧ st[n]? = some x ∧ Γ.ρ[n]? = some a) ∨ (n = st.length ∧ x = .mu o ∧ a = p) := fun n x a e1 e2 => by
    by_cases hn : n < st.length
    · have hn2 : n < Γ.ρ.length := by rw [← F.len]; exact hn
      rw [List.getElem?_append_left hn] at e1
      rw [List.getElem?_append_left hn2] at e2
      exact .inl ⟨hn, e1, e2⟩
    · have hn' : n = st.length := by
        have := (List.getElem?_eq_some_iff.mp e1).1
        simp at this; omega
      subst hn'
      rw [F.len] at e2
      simp at e1 e2
      exact .inr ⟨rfl, e1.symm, e2.symm⟩
  refine ⟨F.g, F.l, F.gl, by simp [F.len], fun n x a e1 e2 => ?_, fun n m a q q' e1 e2 e3 e4 => ?_, fun b a' f ws e => ?_⟩
  · rcases lo n x a e1 e2 with ⟨_, h1, h2⟩ | ⟨_, rfl, rfl⟩
    · have q := F.cell n x a h1 h2
      cases x with
      | mu w => obtain ⟨w', k1, k2, k3, k4⟩ := q; exact ⟨w', k1, k2.mono le rfl, k3, k4⟩
      | fz l => exact q
      | dead => trivial
    · exact ⟨u, hp, ho.mono le rfl, hG, hL⟩
  · rcases lo n _ a e1 e3 with ⟨_, h1, h2⟩ | ⟨h0, h1, h2⟩
    · rcases lo m _ a e2 e4 with ⟨_, k1, k2⟩ | ⟨k0, k1, k2⟩
      · exact F.inj n m a q q' h1 k1 h2 k2
      · subst k2; exact (hn n q h1 h2).elim
    · rcases lo m _ a e2 e4 with ⟨_, k1, k2⟩ | ⟨k0, k1, k2⟩
      · subst h2; exact (hn m q' k1 k2).elim
      · rw [h0, k0]
  · obtain ⟨k1, k2, k3, k4⟩ := F.own b a' f ws e
    refine ⟨k1, k2, k3, fun n q e1 e2 => ?_⟩
    rcases lo n _ b e1 e2 with ⟨_, h1, h2⟩ | ⟨_, _, h2⟩
    · exact k4 n q h1 h2
    · have e' : Γ.O b = some (a', f, ws) := e
      rw [h2, hO] at e'; cases e'
/-- another L: what it speaks of apart from the cells and G -/
theorem StOk.relL {st : Store} {L : Hp} (F : StOk c Γ st H) (hL : Ext L H) (hg : ∀ a o, L a = some o → Γ.G a = none) (hc : ∀ (n : Nat) (q : Con) (a : Addr), st[n]? = some (.mu q) → Γ.ρ[n]? = some a → L a = none) (hO : ∀ b x, Γ.O b = some x → L b = none) : StOk c { Γ with L := L } st H where
  g := F.g
  l := hL
  gl := hg
  len := F.len
  cell := fun n x a e1 e2 => by
    have q := F.cell n x a e1 e2
    cases x with
    | mu w =>
      obtain ⟨w', k1, k2, k3, k4⟩ := q
      refine ⟨w', k1, ?_, k3, hc n w a e1 e2⟩
      cases w with
      | lst l => exact k2
      | dct k => exact k2
      | dt k => exact k2
      | obj k fs => obtain ⟨dx, vs, k1', k2', k3'⟩ := k2; exact ⟨dx, vs, k1', RepF.mono (Γ := Γ) (Γ' := { Γ with L := L }) Ext.refl (fun _ _ _ q => q) k2', k3'⟩
    | fz l => exact q
    | dead => trivial
  inj := F.inj
  own := fun b a f ws e => let ⟨k1, k2, _, k4⟩ := F.own b a f ws e; ⟨k1, k2, hO b _ e, k4⟩
theorem FrOk.relL {L : Hp} (F : FrOk c Γ S σ H) (hL : Ext L H) (hg : ∀ a o, L a = some o → Γ.G a = none) (hc : ∀ (n : Nat) (q : Con) (a : Addr), S.st[n]? = some (.mu q) → Γ.ρ[n]? = some a → L a = none) (hO : ∀ b x, Γ.O b = some x → L b = none) : FrOk c { Γ with L := L } S σ H :=
  ⟨F.s.relL hL hg hc hO, F.len, fun i x h => let ⟨v, h1, h2⟩ := F.sl i x h; ⟨v, h1, by cases x <;> exact h2⟩⟩
/-- the list at D, kept by L, is written -/
theorem FrOk.setL {D : Addr} {u u' : HO} (F : FrOk c Γ S σ H) (hD : Γ.L D = some u) : FrOk c { Γ with L := upd Γ.L D u' } S σ (upd H D u') := by
  have hG : Γ.G D = none := F.s.gl D _ hD
  have hc : ∀ (n : Nat) (q : Con) (a : Addr), S.st[n]? = some (.mu q) → Γ.ρ[n]? = some a → a ≠ D := fun n q a e1 e2 z => by
    obtain ⟨w, _, _, _, k⟩ := F.s.cell n _ a e1 e2
    rw [z, hD] at k; cases k
  refine ⟨⟨fun a o e => ?_, fun a o e => ?_, fun a o e => ?_, F.s.len, fun n x a e1 e2 => ?_, F.s.inj, fun b a f ws e => by
    obtain ⟨k1, k2, k3, k4⟩ := F.s.own b a f ws e
    have hb : b ≠ D := fun z => by rw [z, hD] at k3; cases k3
    exact ⟨by rw [upd_ne hb]; exact k1, k2, by show upd Γ.L D u' b = none; rw [upd_ne hb]; exact k3, k4⟩⟩, F.len, fun i x h => let ⟨v, h1, h2⟩ := F.sl i x h; ⟨v, h1, by cases x <;> exact h2⟩⟩
  · have : a ≠ D := fun z => by
      have e' : Γ.G a = some o := e
      rw [z, hG] at e'; cases e'
    rw [upd_ne this]; exact F.s.g a o e
  · by_cases h : a = D
    · subst h
      have e' : upd Γ.L a u' a = some o := e
      rw [upd_same] at e' ⊢; exact e'
    · have e' : upd Γ.L D u' a = some o := e
      rw [upd_ne h] at e' ⊢; exact F.s.l a o e'
  · by_cases h : a = D
    · rw [h]; exact hG
    · have e' : upd Γ.L D u' a = some o := e
      rw [upd_ne h] at e'; exact F.s.gl a o e'
  · have q := F.s.cell n x a e1 e2
    cases x with
    | mu w =>
      obtain ⟨w', k1, k2, k3, k4⟩ := q
      have hne := hc n w a e1 e2
      refine ⟨w', by rw [upd_ne hne]; exact k1, ?_, k3, by show upd Γ.L D u' a = none; rw [upd_ne hne]; exact k4⟩
      cases w with
      | lst l => exact k2
      | dct k => exact k2
      | dt k => exact k2
      | obj k fs => obtain ⟨dx, vs, k1', k2', k3'⟩ := k2; exact ⟨dx, vs, k1', RepF.mono (Γ := Γ) (Γ' := { Γ with L := upd Γ.L D u' }) Ext.refl (fun _ _ _ q => q) k2', k3'⟩
    | fz l => exact q
    | dead => trivial
/-- a new object, kept by L -/
theorem FrOk.newL {D : Addr} {u : HO} (F : FrOk c Γ S σ H) (hD : H D = none) : FrOk c { Γ with L := upd Γ.L D u } S σ (upd H D u) := by
  have hG : Γ.G D = none := Ext.none F.s.g hD
  have hL : Γ.L D = none := Ext.none F.s.l hD
  refine ⟨⟨fun a o e => ?_, fun a o e => ?_, fun a o e => ?_, F.s.len, fun n x a e1 e2 => ?_, F.s.inj, fun b a f ws e => by
    obtain ⟨k1, k2, k3, k4⟩ := F.s.own b a f ws e
    have hb : b ≠ D := ne_of_none k1 hD
    exact ⟨by rw [upd_ne hb]; exact k1, k2, by show upd Γ.L D u b = none; rw [upd_ne hb]; exact k3, k4⟩⟩, F.len, fun i x h => let ⟨v, h1, h2⟩ := F.sl i x h; ⟨v, h1, by cases x <;> exact h2⟩⟩
  · have e' : Γ.G a = some o := e
    rw [upd_ne (ne_of_none (F.s.g a o e') hD)]; exact F.s.g a o e'
  · by_cases h : a = D
    · subst h
      have e' : upd Γ.L a u a = some o := e
      rw [upd_same] at e' ⊢; exact e'
    · have e' : upd Γ.L D u a = some o := e
      rw [upd_ne h] at e' ⊢; exact F.s.l a o e'
  · by_cases h : a = D
    · rw [h]; exact hG
    · have e' : upd Γ.L D u a = some o := e
      rw [upd_ne h] at e'; exact F.s.gl a o e'
  · have q := F.s.cell n x a e1 e2
    cases x with
    | mu w =>
      obtain ⟨w', k1, k2, k3, k4⟩ := q
      have hne : a ≠ D := ne_of_none k1 hD
      refine ⟨w', by rw [upd_ne hne]; exact k1, ?_, k3, by show upd Γ.L D u a = none; rw [upd_ne hne]; exact k4⟩
      cases w with
      | lst l => exact k2
      | dct k => exact k2
      | dt k => exact k2
      | obj k fs => obtain ⟨dx, vs, k1', k2', k3'⟩ := k2; exact ⟨dx, vs, k1', RepF.mono (Γ := Γ) (Γ' := { Γ with L := upd Γ.L D u }) Ext.refl (fun _ _ _ q => q) k2', k3'⟩
    | fz l => exact q
    | dead => trivial
end

/-! ### the comprehension itself -/
abbrev W0 : WX := fun _ _ _ _ => False
def ItG {α : Type} (c : Cg) (Γ0 : Gh) (IY : Gh → α → V → Hp → Prop) (I : Itm α) (J : L2.It) : Prop := ∀ (Γ : Gh) (S : Sg) (σ : L2.St) (H : Hp) (i : Nat), Γ0.sub Γ → FrOk c Γ S σ H → I.ok S →
  (∀ d, I.l[i]? = some d → J.go i H ∧ ∀ x H', J.yld i H x H' → ∃ Γ', Γ.le Γ' ∧ FrOk c Γ' S σ H' ∧ IY Γ' d x H') ∧ (I.l.length = i → J.stop i H)
def rdIG {α : Type} (c : Cg) (W : WX) (IY : Gh → α → V → Hp → Prop) (f : M (Itm α)) : TI := fun σ H R => ∃ Γ S, FrOk c Γ S σ H ∧ Post c W σ Γ (f S) fun I S' Γ' H' => ∀ J, ItG c Γ' IY I J → R J H'
section
variable {c : Cg} {W : WX} {α : Type} {IY : Gh → α → V → Hp → Prop} {own ks : List Nat} {unp : α → Option (List D)} {it : M (Itm α)} {tt : M Bool} {f : M R} {wi : TI} {g : TG}
theorem lc_read (hit : ∀ σ H R, rdIG c W IY it σ H R → wi σ H R)
    (hg : ∀ Γ S σ H item x Q ds, FrOk c Γ S σ H → IY Γ item x H → unp item = some ds → ds.length = ks.length → (∀ vs, RepL c Γ.G ds vs → Q (setV σ ks vs) H) → g x σ H Q)
    (hks : ∀ k ∈ ks, k ∈ own) {σ : L2.St} {H : Hp} {Q : VK} (q : rdE c W (lcE own ks unp it tt f) σ H Q) : tLc wi g (rdT c W0 tt) (rdE c W0 f) own σ H Q := by
  obtain ⟨Γ, S, F, P⟩ := q
  refine hit σ H _ ⟨Γ, S, F, (Post.bind P).imp fun I S1 Γ1 H1 e1 F1 ⟨_, P1⟩ J hJ => ?_⟩
  intro D hD
  cases hq : lcL I.ok (lcB own ks unp tt f) I.l [] (wipeS S1 own) with
  | bad => rw [hq] at P1; exact P1.elim
  | exc x S' => rw [hq] at P1; exact P1.elim
  | ok accF SF =>
  rw [hq] at P1
  have P1 : Post c W σ Γ1 (if accF.length ≤ sizeLine then Res.ok (R.r SF.st.length) { S1 with st := SF.st ++ [.mu (.lst accF)] } else .bad) (fun x S' Γ' H' => ∀ v, RepR c Γ' x v → Q v H') := P1
  have hz : accF.length ≤ sizeLine := by
    refine Classical.byContradiction fun hn => ?_
    rw [if_neg hn] at P1; exact P1
  rw [if_pos hz] at P1
  have hLD : Γ1.L D = none := Ext.none F1.s.l hD
  refine ⟨fun i m H => m = I.l.length - i ∧ i ≤ I.l.length ∧ ∃ Γ S accD accV, Γ1.sub Γ ∧ Γ.L = upd Γ1.L D (.lst accV) ∧ FrOk c Γ S (wipe σ own) H ∧ RepL c Γ.G accD accV ∧ lcL I.ok (lcB own ks unp tt f) (I.l.drop i) accD S = .ok accF SF,
    ⟨_, rfl, Nat.zero_le _, { Γ1 with L := upd Γ1.L D (.lst []) }, wipeS S1 own, [], [], ⟨Ext.refl, [], by simp⟩, rfl, (F1.wipe own).newL hD, RepL.nil, by simpa using hq⟩, ?_⟩
  rintro i m H ⟨rfl, hi, Γ2, S2, accD, accV, s2, hL, F2, hA, hlc⟩
  have hok := lcL_ok hlc
  obtain ⟨k1, k2⟩ := hJ Γ2 S2 (wipe σ own) H i s2 F2 hok
  by_cases hl : i < I.l.length
  · refine .inr ?_
    obtain ⟨g1, g2⟩ := k1 _ (List.getElem?_eq_getElem hl)
    rw [List.drop_eq_getElem_cons hl] at hlc
    refine ⟨g1, fun H' => ∃ Γ S accD accV, Γ1.sub Γ ∧ Γ.L = upd Γ1.L D (.lst accV) ∧ FrOk c Γ S (wipe σ own) H' ∧ RepL c Γ.G accD accV ∧ lcL I.ok (lcB own ks unp tt f) (I.l.drop (i + 1)) accD S = .ok accF SF, fun H' h => ⟨_, by omega, rfl, hl, h⟩, fun x H' y => ?_⟩
    obtain ⟨Γ3, e3, F3, iy⟩ := g2 x H' y
    have main : ∃ ds, unp I.l[i] = some ds ∧ ds.length = ks.length := by
      rcases lcL_inv hlc with ⟨S', hb, _⟩ | ⟨y, S', hb, _⟩ <;> (unfold lcB at hb; cases hu : unp I.l[i] with
        | none => rw [hu] at hb; cases hb
        | some ds =>
          rw [hu] at hb
          simp only at hb
          by_cases hds : ds.length = ks.length
          · exact ⟨ds, rfl, hds⟩
          · rw [if_neg hds] at hb; cases hb)
    obtain ⟨ds, hu, hds⟩ := main
    refine hg Γ3 S2 _ H' I.l[i] x _ ds F3 iy hu hds fun vs hvs => ?_
    have hw : wipe (setV (wipe σ own) ks vs) own = wipe σ own := by rw [setV_wipe hks, wipe_wipe]
    refine ⟨hw, Γ3, setS S2 ks ds, F3.putL hvs, ?_⟩
    have hB : ∀ r, lcB own ks unp tt f I.l[i] S2 = r → (tt >>= fun b => if b = true then (do
        let x ← f
        let y ← pure1 x
        fun S => .ok (some y) (wipeS S own)) else fun S => .ok none (wipeS S own)) (setS S2 ks ds) = r := fun r hr => by
      unfold lcB at hr
      rw [hu] at hr
      simp only at hr
      rw [if_pos hds] at hr
      exact hr
    have hne : ∀ r, lcB own ks unp tt f I.l[i] S2 = r → (∃ a S', r = .ok a S') → ∃ b S4, tt (setS S2 ks ds) = .ok b S4 := fun r hr ⟨a, S', e⟩ => by
      have := hB r hr
      rw [bind_ap] at this
      cases ht : tt (setS S2 ks ds) with
      | ok b S4 => exact ⟨b, S4, rfl⟩
      | exc x S4 => rw [ht] at this; rw [e] at this; cases this
      | bad => rw [ht] at this; rw [e] at this; cases this
    have e23 : Γ1.sub Γ3 := s2.trans e3.sub
    rcases lcL_inv hlc with ⟨S', hb, hrest⟩ | ⟨yD, S', hb, hlt, hrest⟩
    · obtain ⟨b, S4, ht⟩ := hne _ hb ⟨_, _, rfl⟩
      have hb2 := hB _ hb
      rw [bind_ok ht] at hb2
      rw [ht]
      intro Γ4 H4 e4 F4
      cases b with
      | true =>
        exfalso
        simp only [if_true] at hb2
        rw [bind_ap] at hb2
        cases hf : f S4 with
        | bad => rw [hf] at hb2; cases hb2
        | exc x S5 => rw [hf] at hb2; cases hb2
        | ok x5 S5 =>
          rw [hf] at hb2
          simp only at hb2
          rw [bind_ap] at hb2
          cases hp : pure1 x5 S5 with
          | bad => rw [hp] at hb2; cases hb2
          | exc x S5 => rw [hp] at hb2; cases hb2
          | ok y6 S6 => rw [hp] at hb2; cases hb2
      | false =>
        simp only [Bool.false_eq_true, if_false] at hb2
        cases hb2
        have F5 := F4.wipe own
        rw [hw] at F5
        exact ⟨Γ4, _, accD, accV, e23.trans e4.sub, by rw [e4.l, e3.l, hL], F5, RepL.mono (e3.trans e4).g hA, hrest⟩
    · obtain ⟨b, S4, ht⟩ := hne _ hb ⟨_, _, rfl⟩
      have hb2 := hB _ hb
      rw [bind_ok ht] at hb2
      rw [ht]
      intro Γ4 H4 e4 F4
      cases b with
      | false =>
        simp only [Bool.false_eq_true, if_false] at hb2
        cases hb2
      | true =>
        simp only [if_true] at hb2
        rw [bind_ap] at hb2
        refine ⟨Γ4, S4, F4, ?_⟩
        cases hf : f S4 with
        | bad => rw [hf] at hb2; cases hb2
        | exc x S5 => rw [hf] at hb2; cases hb2
        | ok x5 S5 =>
          rw [hf] at hb2
          simp only at hb2
          rw [bind_ap] at hb2
          cases hp : pure1 x5 S5 with
          | bad => rw [hp] at hb2; cases hb2
          | exc x S5 => rw [hp] at hb2; cases hb2
          | ok y6 S6 =>
            rw [hp] at hb2
            cases hb2
            intro Γ5 H5 e5 F5 v hv
            obtain ⟨d, Γ6, S6', e6, F6, hd, hd2, hd3⟩ := pure1_ok (W := W0) (K := fun d S' _ _ => d = yD ∧ S' = S6) F5 hv (by rw [hp]; exact fun _ _ _ _ => ⟨rfl, rfl⟩)
            subst hd2 hd3
            have e36 := e4.trans (e5.trans e6)
            have hL6 : Γ6.L = upd Γ1.L D (.lst accV) := by rw [e36.l, e3.l, hL]
            have hD6 : Γ6.L D = some (.lst accV) := by rw [hL6, upd_same]
            have hA6 : RepL c Γ6.G accD accV := RepL.mono (e3.trans e36).g hA
            refine ⟨accV, F6.s.l D _ hD6, by rw [hA6.length]; exact hlt, ?_⟩
            have F7 := (F6.setL (u' := .lst (accV ++ [v])) hD6).wipe own
            rw [hw] at F7
            exact ⟨{ Γ6 with L := upd Γ6.L D (.lst (accV ++ [v])) }, _, accD ++ [d], accV ++ [v], (e23.trans e36.sub).trans ⟨Ext.refl, [], by simp⟩, by show upd Γ6.L D _ = _; rw [hL6, upd_upd], F7, hA6.append (RepL.one hd), hrest⟩
  · have e : I.l.length = i := by omega
    refine .inl ⟨k2 e, ?_⟩
    rw [List.drop_eq_nil_of_le (by omega), lcL_nil hok] at hlc
    cases hlc
    have hLD2 : Γ2.L D = some (.lst accV) := by rw [hL, upd_same]
    have hLne : ∀ a, a ≠ D → Γ2.L a = Γ1.L a := fun a h => by rw [hL, upd_ne h]
    have R1 : StOk c { Γ2 with L := Γ1.L } SF.st H := F2.s.relL (fun a o h => by
        by_cases ha : a = D
        · rw [ha, hLD] at h; cases h
        · exact F2.s.l a o (by rw [hLne a ha]; exact h)) (fun a o h => by
        by_cases ha : a = D
        · rw [ha, hLD] at h; cases h
        · exact F2.s.gl a o (by rw [hLne a ha]; exact h)) (fun n p a h1 h2 => by
        by_cases ha : a = D
        · rw [ha]; exact hLD
        · obtain ⟨w, _, _, _, k⟩ := F2.s.cell n _ a h1 h2
          rw [← hLne a ha]; exact k) (fun b x h => by
        obtain ⟨xa, xf, xw⟩ := x
        obtain ⟨_, _, k3, _⟩ := F2.s.own b xa xf xw h
        by_cases ha : b = D
        · rw [ha, hLD2] at k3; cases k3
        · rw [← hLne b ha]; exact k3)
    have R2 := R1.adopt (p := D) (o := .lst accF) (u := .lst accV) (F2.s.l D _ hLD2) (F2.s.gl D _ hLD2) hLD (fun n p h1 h2 => by
        obtain ⟨w, _, _, _, k⟩ := F2.s.cell n _ D h1 h2
        rw [hLD2] at k; cases k) (by
        show Γ2.O D = none
        cases h : Γ2.O D with
        | none => rfl
        | some x =>
          obtain ⟨xa, xf, xw⟩ := x
          obtain ⟨_, _, k3, _⟩ := F2.s.own D xa xf xw h
          rw [hLD2] at k3; cases k3) ⟨accV, rfl, hA⟩
    have le : Γ1.le { G := Γ2.G, L := Γ1.L, ρ := Γ2.ρ ++ [D], O := Γ2.O } := ⟨s2.g, rfl, by
      obtain ⟨t, ht⟩ := s2.r
      exact ⟨t ++ [D], by show Γ2.ρ ++ [D] = _; rw [ht, List.append_assoc]⟩⟩
    refine Post.ok (c := c) (W := W) P1 le (F1.of le R2) (.ref D) ⟨D, ?_, rfl⟩
    show (Γ2.ρ ++ [D])[SF.st.length]? = some D
    rw [F2.s.len]; simp
end
end Dd

set_option Elab.async false
set_option linter.all false
set_option maxRecDepth 100000
namespace Dd
open PySem PySem.Spec PyProof.Rows L2

def gNs : List Nat → TGs
  | [] => gNil
  | k :: ks => gCons (gName k) (gNs ks)
theorem gNs_read : ∀ {ks : List Nat} {vs : List V} {σ : L2.St} {H : Hp} {Q : L2.St → Hp → Prop}, vs.length = ks.length → Q (setV σ ks vs) H → gNs ks vs σ H Q
  | [], [], σ, H, Q, _, h => ⟨rfl, by unfold setV at h; exact h⟩
  | [], v :: vs, σ, H, Q, e, h => by simp at e
  | k :: ks, [], σ, H, Q, e, h => by simp at e
  | k :: ks, v :: vs, σ, H, Q, e, h => ⟨v, vs, rfl, gNs_read (by simpa using e) (by unfold setV at h; exact h)⟩
section
variable {X : Cx} {c : Cg} {W : WX} {elt iter tg : Expr} {ifs : List Expr} {scope : Scope} {own : List (Str × Nat)} {pos spos : Pos} {it : M (Itm D)} {itw : M (Itm (List D))} {tt : M Bool} {f : M R} {i : Nat} {ks : List Nat} {es : List Expr} {kk : Nat} {tpos : Pos} {n : Nat}
theorem sts_nil : PTs X [] (rdT c W tYesM) := ⟨fun pins s σ H Q I q => pts_nil.run pins s σ H Q I (by
  obtain ⟨Γ, S, F, P⟩ := q
  exact Post.ok (c := c) (W := W) P Gh.le.refl F)⟩
theorem lc1_read (hi : i ∈ own.map (·.2)) {σ : L2.St} {H : Hp} {Q : VK} (q : rdE c W (lcE (own.map (·.2)) [i] unp1 it tt f) σ H Q) : tLc (rdI c W it) (gName i) (rdT c W0 tt) (rdE c W0 f) (own.map (·.2)) σ H Q :=
  lc_read (IY := fun Γ d x _ => Rep c Γ.G d x) (wi := rdI c W it) (fun σ H R q => q) (fun Γ S σ H item x Q ds F iy hu hl k => by
    cases hu
    exact k [x] (RepL.one iy)) (fun k hk => by
      have : k = i := by simpa using hk
      rw [this]; exact hi) q
theorem lcT_read {K : PySem.W.Frag} (hK : K = c.K) (hn : n = ks.length) (hi : ∀ k ∈ ks, k ∈ own.map (·.2)) {σ : L2.St} {H : Hp} {Q : VK} (q : rdE c W (lcE (own.map (·.2)) ks unpT it tt f) σ H Q) : tLc (rdI c W it) (gTup K n (gNs ks)) (rdT c W0 tt) (rdE c W0 f) (own.map (·.2)) σ H Q :=
  lc_read (IY := fun Γ d x _ => Rep c Γ.G d x) (wi := rdI c W it) (fun σ H R q => q) (fun Γ S σ H item x Q ds F iy hu hl k => by
    cases item with
    | tup l =>
      cases hu
      obtain ⟨a, vs, e1, e2, e3⟩ := Rep.tup_iff.mp iy
      exact ⟨a, vs, e1, by rw [hK]; exact (TupS.mono F.s.g e2).sq, by rw [e3.length, hl, hn], gNs_read (by rw [e3.length, hl]) (k vs e3)⟩
    | _ => cases hu) hi q
/-- what a block asks of its parts -/
abbrev InBlk (X : Cx) (scope : Scope) (P : Cx → Prop) : Prop := ∀ (s : Shared) (H : Hp) (C : Addr) (cl : List (Str × Addr)) (fp : List Addr), P (X.blk s H scope (compEnvC scope cl C X.env) fp)
theorem se_lc1 (hc : X.calm = true) (hN : X.N.Nodup) (hi : PI X tg iter (rdI c W it)) (ok : BlkOk X.N X.env.scope scope own) (hm : i ∈ own.map (·.2))
    (hg : InBlk X scope fun Y => PG Y tg (gName i)) (ht : InBlk X scope fun Y => PTs Y ifs (rdT c W0 tt)) (he : InBlk X scope fun Y => PE Y elt (rdE c W0 f)) (hs : ∀ x, foldedSetIterable iter X.env x = pure x := by intro _; rfl) :
    PE X (.ListComp elt [⟨tg, iter, ifs, 0⟩] scope pos) (rdE c W (lcE (own.map (·.2)) [i] unp1 it tt f)) := se_of (pe_lc hc hN hi ok hg ht he hs) fun σ H Q q => lc1_read hm q
theorem se_lcT (hc : X.calm = true) (hN : X.N.Nodup) (hK : X.K = c.K) (hi : PI X tg iter (rdI c W it)) (ok : BlkOk X.N X.env.scope scope own) (hn : n = ks.length) (hm : ∀ k ∈ ks, k ∈ own.map (·.2))
    (hg : InBlk X scope fun Y => PG Y tg (gTup X.K n (gNs ks))) (ht : InBlk X scope fun Y => PTs Y ifs (rdT c W0 tt)) (he : InBlk X scope fun Y => PE Y elt (rdE c W0 f)) (hs : ∀ x, foldedSetIterable iter X.env x = pure x := by intro _; rfl) :
    PE X (.ListComp elt [⟨tg, iter, ifs, 0⟩] scope pos) (rdE c W (lcE (own.map (·.2)) ks unpT it tt f)) := se_of (pe_lc hc hN hi ok hg ht he hs) fun σ H Q q => lcT_read hK hn hm q
variable {y : Str} {py : Pos} {j : Nat}
theorem FrOk.same {Γ : Gh} {S : Sg} {σ : L2.St} {H : Hp} {x : R} {v : V} {i : Nat} (F : FrOk c Γ S σ H) (hs : σ[i]? = some (some v)) (h : RepR c Γ x v) : FrOk c Γ { S with sl := S.sl.set i (some x) } σ H := by
  have h1 := F.put i h
  have : σ.set i (some v) = σ := by
    apply List.ext_getElem?
    intro k
    by_cases e : i = k
    · subst e
      rw [List.getElem?_set_self (List.getElem?_eq_some_iff.mp hs).1, hs]
    · rw [List.getElem?_set_ne e]
  rw [this] at h1
  exact h1
end

/-! ### names in parallel -/
def sPar (i j : Nat) (g : M (List R)) : M Fl := do
  let xs ← g
  fun S => match xs with
    | x :: r => match r with
      | y :: r' => if r'.isEmpty = true then .ok .nx { S with sl := (S.sl.set i (some x)).set j (some y) } else .bad
      | [] => .bad
    | [] => .bad
def sPar3 (i j l : Nat) (g : M (List R)) : M Fl := do
  let xs ← g
  fun S => match xs with
    | x :: r => match r with
      | y :: r' => match r' with
        | z :: r'' => if r''.isEmpty = true then .ok .nx { S with sl := ((S.sl.set i (some x)).set j (some y)).set l (some z) } else .bad
        | [] => .bad
      | [] => .bad
    | [] => .bad
section
variable {X : Cx} {c : Cg} {W : WX} {x y z : Str} {a b d : Expr} {g : M (List R)} {px py pz pt pos : Pos} {kt k2 pt2} {i j l : Nat}
theorem ss_par (hc : X.calm = true) (hN : X.N.Nodup) (hi : X.N[i]? = some x) (hj : X.N[j]? = some y) (hij : i ≠ j)
    (hx : X.env.scope.names.lookup x = some .local) (hy : X.env.scope.names.lookup y = some .local) (ha : PA X [a, b] (rdA c W g))
    (hw : swappedStores [.Tuple [.Name x px, .Name y py] kt pt] (.Tuple [a, b] k2 pt2) X.env = pure (some [x, y]))
    (hs : swapsWithSole [.Tuple [.Name x px, .Name y py] kt pt] (.Tuple [a, b] k2 pt2) pos.line X.env = pure false := by rfl) :
    PS X (.Assign [.Tuple [.Name x px, .Name y py] kt pt] (.Tuple [a, b] k2 pt2) pos) (rdS c W (sPar i j g)) := ss_of (ps_par hc hN hi hj hij hx hy ha hw hs) fun E σ H q => by
  obtain ⟨Γ, S, F, P⟩ := q
  refine ⟨Γ, S, F, (PostS.bindE P).imp fun xs S1 Γ1 H1 e1 F1 ⟨_, P1⟩ vs hvs => ?_⟩
  cases xs with
  | nil => exact P1.elim
  | cons p r =>
    cases r with
    | nil => exact P1.elim
    | cons p' r' =>
      cases r' with
      | cons q r'' => exact (show False from P1).elim
      | nil =>
        obtain ⟨v, r, rfl, h1, w, r2, rfl, h2, h3⟩ := hvs
        have : r2 = [] := h3
        subst this
        exact ⟨v, w, rfl, P1 Γ1 _ H1 Gh.le.refl ((F1.put i h1).put j h2)⟩
theorem ss_par3 (hc : X.calm = true) (hN : X.N.Nodup) (hi : X.N[i]? = some x) (hj : X.N[j]? = some y) (hl : X.N[l]? = some z) (hij : i ≠ j) (hil : i ≠ l) (hjl : j ≠ l)
    (hx : X.env.scope.names.lookup x = some .local) (hy : X.env.scope.names.lookup y = some .local) (hz : X.env.scope.names.lookup z = some .local) (ha : PA X [a, b, d] (rdA c W g))
    (hw : swappedStores [.Tuple [.Name x px, .Name y py, .Name z pz] kt pt] (.Tuple [a, b, d] k2 pt2) X.env = pure (some [x, y, z]))
    (hs : swapsWithSole [.Tuple [.Name x px, .Name y py, .Name z pz] kt pt] (.Tuple [a, b, d] k2 pt2) pos.line X.env = pure false := by rfl) :
    PS X (.Assign [.Tuple [.Name x px, .Name y py, .Name z pz] kt pt] (.Tuple [a, b, d] k2 pt2) pos) (rdS c W (sPar3 i j l g)) := ss_of (ps_par3 hc hN hi hj hl hij hil hjl hx hy hz ha hw hs) fun E σ H q => by
  obtain ⟨Γ, S, F, P⟩ := q
  refine ⟨Γ, S, F, (PostS.bindE P).imp fun xs S1 Γ1 H1 e1 F1 ⟨_, P1⟩ vs hvs => ?_⟩
  cases xs with
  | nil => exact P1.elim
  | cons p r =>
    cases r with
    | nil => exact P1.elim
    | cons p' r' =>
      cases r' with
      | nil => exact P1.elim
      | cons p'' r'' =>
        cases r'' with
        | cons q r3 => exact (show False from P1).elim
        | nil =>
          obtain ⟨v, r, rfl, h1, w, r2, rfl, h2, u, r3, rfl, h3, h4⟩ := hvs
          have : r3 = [] := h4
          subst this
          exact ⟨v, w, u, rfl, P1 Γ1 _ H1 Gh.le.refl (((F1.put i h1).put j h2).put l h3)⟩
end
end Dd

set_option Elab.async false
set_option linter.all false
set_option maxRecDepth 100000
namespace Dd
open PySem PySem.Spec PyProof.Rows L2

theorem RepR.mkI {c : Cg} {Γ : Gh} {i : Int} : RepR c Γ (.p (.int i)) (.int i) := (Rep.int_iff (c := c) (G := Γ.G)).mpr rfl
theorem RepR.mkB {c : Cg} {Γ : Gh} {i : Bool} : RepR c Γ (.p (.bl i)) (.bl i) := (Rep.bl_iff (c := c) (G := Γ.G)).mpr rfl
theorem RepR.mkS {c : Cg} {Γ : Gh} {i : Str} : RepR c Γ (.p (.str i)) (.str i) := (Rep.str_iff (c := c) (G := Γ.G)).mpr rfl
theorem RepR.mkN {c : Cg} {Γ : Gh} : RepR c Γ (.p .non) .non := (Rep.non_iff (c := c) (G := Γ.G)).mpr rfl
theorem RepL.atI {c : Cg} {G : Hp} {ds : List D} {vs : List V} {i : Int} {d : D} (h : RepL c G ds vs) (e : L2.atI ds i = some d) : ∃ v, L2.atI vs i = some v ∧ Rep c G d v := by
  unfold L2.atI at e ⊢
  rw [h.length]
  cases q : ixN ds.length i with
  | none => rw [q] at e; cases e
  | some j =>
    rw [q] at e
    exact h.get (i := j) e
/-! ### o[i] -/
def opIx : R → R → M R := fun x y S => match asI y with
  | some i => match getL x S with
    | some l => match L2.atI l i with
      | some d => .ok (.p d) S
      | none => .bad
    | none => match x with
      | .p (.str z) => if z.length ≤ sizeLine then (match L2.atI z.cps.toList i with
        | some ch => .ok (.p (.str ⟨#[ch]⟩)) S
        | none => .bad) else .bad
      | _ => .bad
  | none => .bad
section
variable {X : Cx} {c : Cg} {W : WX} {a b e : Expr} {f fa fb : M R} {g : M (List R)} {pos : Pos}
theorem asI_rep {Γ : Gh} {x : R} {v : V} {i : Int} (h : RepR c Γ x v) (e : asI x = some i) : v = .int i := by
  rw [asI_some e] at h
  exact RepR.int h
theorem od_ix (hK : X.K = c.K) : OpD c W opIx (rIx X.K) := by
  intro Γ S σ H x y v w Q F hx hy P
  unfold opIx at P
  cases hi : asI y with
  | none => rw [hi] at P; exact P.elim
  | some i =>
    rw [hi] at P
    have hw := asI_rep hy hi
    subst hw
    cases hl : getL x S with
    | some l =>
      rw [hl] at P
      cases hd : L2.atI l i with
      | none => simp only [hd] at P; exact P.elim
      | some d =>
        simp only [hd] at P
        rcases getL_kind hl with hk | rfl
        · obtain ⟨p, vs, rfl, h1, h2⟩ := getLst_ok F hx ((hk S).trans hl)
          obtain ⟨u, q1, q2⟩ := h2.atI hd
          exact .inl ⟨p, vs, i, u, rfl, rfl, by rw [hK]; exact h1, q1, Post.ok (c := c) (W := W) P Gh.le.refl F u q2⟩
        · obtain ⟨p, vs, rfl, h1, h2⟩ := Rep.tup_iff.mp (RepR.pure.mp hx)
          cases hl
          obtain ⟨u, q1, q2⟩ := h2.atI hd
          exact .inr (.inl ⟨p, vs, i, u, rfl, rfl, by rw [hK]; exact (TupS.mono F.s.g h1).sq, q1, Post.ok (c := c) (W := W) P Gh.le.refl F u q2⟩)
    | none =>
      rw [hl] at P
      cases x with
      | r n => exact P.elim
      | p d =>
        cases d with
        | str z =>
          have hv := RepR.str hx
          subst hv
          have P : Post c W σ Γ (if z.length ≤ sizeLine then (match L2.atI z.cps.toList i with | some ch => Res.ok (R.p (.str ⟨#[ch]⟩)) S | none => .bad) else .bad) (fun z S' Γ' H' => ∀ u, RepR c Γ' z u → Q u H') := P
          by_cases hz : z.length ≤ sizeLine
          · rw [if_pos hz] at P
            cases hc : L2.atI z.cps.toList i with
            | none => rw [hc] at P; exact P.elim
            | some ch =>
              rw [hc] at P
              exact .inr (.inr ⟨z, i, ch, rfl, rfl, hz, hc, Post.ok (c := c) (W := W) P Gh.le.refl F _ RepR.mkS⟩)
          · rw [if_neg hz] at P; exact P.elim
        | _ => exact P.elim
theorem se_ix (hK : X.K = c.K) (ha : PE X a (rdE c W fa)) (hb : PE X b (rdE c W fb)) (hs : PlainIx b := by exact fun _ _ => rfl) : PE X (.Subscript a b pos) (rdE c W (bin opIx fa fb)) :=
  se_of (pe_ix ix_seq ha hb hs) fun σ H Q q => bin_read (od_ix hK) q

/-! ### o[lo:hi] -/
def opt0 : M (Option Int) := pure none
def opt1 (f : M R) : M (Option Int) := do
  let x ← f
  fun S => match asI x with
    | some i => .ok (some i) S
    | none => .bad
def rdO (c : Cg) (W : WX) (f : M (Option Int)) : TO := fun σ H Q => ∃ Γ S, FrOk c Γ S σ H ∧ Post c W σ Γ (f S) fun o S' Γ' H' => Q o H'
theorem so_none : PO X none (rdO c W opt0) := ⟨fun pins s σ H Q I q => po_none.run pins s σ H Q I (by
  obtain ⟨Γ, S, F, P⟩ := q
  exact Post.ok (c := c) (W := W) P Gh.le.refl F)⟩
theorem so_some (h : PE X e (rdE c W f)) : PO X (some e) (rdO c W (opt1 f)) := ⟨fun pins s σ H Q I q => (po_some h).run pins s σ H Q I (by
  obtain ⟨Γ, S, F, P⟩ := q
  refine ⟨Γ, S, F, (Post.bind P).imp fun x S1 Γ1 H1 e1 F1 ⟨_, P1⟩ v hv => ?_⟩
  cases hi : asI x with
  | none => rw [hi] at P1; exact P1.elim
  | some i =>
    rw [hi] at P1
    exact ⟨i, asI_rep hv hi, Post.ok (c := c) (W := W) P1 Gh.le.refl F1⟩)⟩
def cutD {α : Type} (xs : List α) (lo hi : Option Int) : List α := (xs.drop (HT.sIx xs.length 0 lo)).take (HT.sIx xs.length xs.length hi - HT.sIx xs.length 0 lo)
theorem RepL.cut {G : Hp} {ds : List D} {vs : List V} (h : RepL c G ds vs) (lo hi : Option Int) : RepL c G (cutD ds lo hi) (cutV vs lo hi) := by
  unfold cutD cutV
  rw [h.length]
  exact (h.drop _).take _
/-- a list's slice: a new list; a tuple's that is not the whole: a new tuple -/
def opSl (x : R) (lo hi : Option Int) : M R := fun S => match x with
  | .p (.tup l) => if HT.sIx l.length 0 lo = 0 ∧ HT.sIx l.length l.length hi = l.length then .ok (.p (.tup l)) S else .ok (.p (.tup (cutD l lo hi))) S
  | x => match getLst x S with
    | some l => if l.length ≤ sizeLine then .ok (.r S.st.length) { S with st := S.st ++ [.mu (.lst (cutD l lo hi))] } else .bad
    | none => .bad
def slE (f : M R) (l h : M (Option Int)) : M R := do
  let x ← f
  let lo ← l
  let hi ← h
  opSl x lo hi

def rSlF (K : PySem.W.Frag) : V → Option Int → Option Int → Hp → VK → Prop := fun x lo hi H Q => ∃ a xs, x = .ref a ∧ SqT K H a xs ∧
  (HT.sIx xs.length 0 lo = 0 ∧ HT.sIx xs.length xs.length hi = xs.length → Q (.ref a) H) ∧
  (¬ (HT.sIx xs.length 0 lo = 0 ∧ HT.sIx xs.length xs.length hi = xs.length) → ∀ p o, H p = none → o.dict = none → Q (.ref p) (upd H p (.frz o (.tup (cutV xs lo hi)))))
theorem sl_tupF : SlR X (rSlF X.K) := by
  intro pins s σ H x v vl vu lo hi sl Q I rx hs pl pu h
  obtain ⟨a, xs, rfl, hx, q1, q2⟩ := h
  cases rx
  obtain ⟨its, r, ht, hz⟩ := I.tuple hx
  have hlen : its.toArray.size = xs.length := by rw [List.size_toArray]; exact r.length.symm
  refine ⟨"tuple", _, PyProof.Rows.slot_tuple_getitem.lookup, ht.typeIs, ?_⟩
  by_cases hw : HT.sIx xs.length 0 lo = 0 ∧ HT.sIx xs.length xs.length hi = xs.length
  · exact getItem_tuple_whole ht hs pl pu (by rw [hlen]; exact hw) ⟨.ref a, H, I, rfl, q1 hw⟩
  · refine HT.getItem_tuple_cut ht hs pl pu (by rw [hlen]; exact hw) ?_ (by rw [hlen]; exact hz)
    rw [hlen]
    refine ⟨.ref s.heap.objs.size, _, I.laid (t' := s.toks) (o := .frz { cls := .type "tuple", data := .seq ((its.drop (HT.sIx xs.length 0 lo)).take (HT.sIx xs.length xs.length hi - HT.sIx xs.length 0 lo)).toArray } (.tup (cutV xs lo hi))) (fun b ob q => Heap.get?_push_of_some _ q) (Nat.le_refl _) ?_, rfl, q2 hw _ _ (I.hok.fresh (Nat.le_refl _)) rfl⟩
    exact ⟨Heap.get?_push_size _ rfl, Nat.le_trans (cutV_length xs lo hi) hz, _, (r.drop (HT.sIx xs.length 0 lo)).take (HT.sIx xs.length xs.length hi - HT.sIx xs.length 0 lo), IsTup.new _ _⟩
variable {l h : M (Option Int)} {lo hi : Option Expr} {p2 : Pos}
theorem sl_done (hK : X.K = c.K) {Γ : Gh} {S : Sg} {σ : L2.St} {H : Hp} {x : R} {v : V} {o o' : Option Int} {Q : VK} (F : FrOk c Γ S σ H) (hv : RepR c Γ x v) (P : Post c W σ Γ (opSl x o o' S) fun z S' Γ' H' => ∀ u, RepR c Γ' z u → Q u H') : rSlL X.K v o o' H Q ∨ rSlF X.K v o o' H Q := by
  have lst : ∀ y : R, (∀ S, getLst y S = getL y S) → RepR c Γ y v → Post c W σ Γ (match getLst y S with
    | some l => if l.length ≤ sizeLine then Res.ok (R.r S.st.length) { S with st := S.st ++ [.mu (.lst (cutD l o o'))] } else .bad
    | none => .bad) (fun z S' Γ' H' => ∀ u, RepR c Γ' z u → Q u H') → rSlL X.K v o o' H Q := fun y hy hv P => by
    cases q : getLst y S with
    | none => rw [q] at P; exact P.elim
    | some l =>
      rw [q] at P
      have P : Post c W σ Γ (if l.length ≤ sizeLine then Res.ok (R.r S.st.length) { S with st := S.st ++ [.mu (.lst (cutD l o o'))] } else .bad) (fun z S' Γ' H' => ∀ u, RepR c Γ' z u → Q u H') := P
      by_cases hz : l.length ≤ sizeLine
      · rw [if_pos hz] at P
        obtain ⟨a, vs, rfl, h1, h2⟩ := getLst_ok F hv q
        refine ⟨a, vs, rfl, hK ▸ h1, fun p hp => ?_⟩
        obtain ⟨Γ3, e3, F3, r3⟩ := newL_ok F (h2.cut o o') hp
        exact Post.ok (c := c) (W := W) P e3 F3 _ r3
      · rw [if_neg hz] at P; exact P.elim
  cases x with
  | r n => exact .inl (lst (.r n) (fun _ => rfl) hv P)
  | p d =>
    cases d with
    | tup l =>
      refine .inr ?_
      obtain ⟨a, vs, rfl, h1, h2⟩ := Rep.tup_iff.mp (RepR.pure.mp hv)
      refine ⟨a, vs, rfl, hK ▸ (TupS.mono F.s.g h1).sq, ?_⟩
      rw [h2.length]
      have P : Post c W σ Γ (if HT.sIx l.length 0 o = 0 ∧ HT.sIx l.length l.length o' = l.length then Res.ok (R.p (.tup l)) S else .ok (.p (.tup (cutD l o o'))) S) (fun z S' Γ' H' => ∀ u, RepR c Γ' z u → Q u H') := P
      refine ⟨fun hw => ?_, fun hw p ob hp ho => ?_⟩
      · rw [if_pos hw] at P
        exact Post.ok (c := c) (W := W) P Gh.le.refl F _ hv
      · rw [if_neg hw] at P
        obtain ⟨Γ3, e3, F3, r3⟩ := newT_ok F (h2.cut o o') hp ho
        exact Post.ok (c := c) (W := W) P e3 F3 _ r3
    | lst l => exact .inl (lst (.p (.lst l)) (fun _ => rfl) hv P)
    | scp l => exact .inl (lst (.p (.scp l)) (fun _ => rfl) hv P)
    | _ => exact P.elim
theorem se_sl (hK : X.K = c.K) (he : PE X e (rdE c W f)) (hl : PO X lo (rdO c W l)) (hh : PO X hi (rdO c W h)) : PE X (.Subscript e (.Slice lo hi none p2) pos) (rdE c W (slE f l h)) :=
  se_of (pe_slice (SlR.or sl_list sl_tupF) he hl hh) fun σ H Q q => by
    obtain ⟨Γ, S, F, P⟩ := q
    refine ⟨Γ, S, F, (Post.bind P).imp fun x S1 Γ1 H1 e1 F1 ⟨_, P1⟩ v hv => ?_⟩
    refine ⟨Γ1, S1, F1, (Post.bind P1).imp fun o S2 Γ2 H2 e2 F2 ⟨_, P2⟩ => ?_⟩
    refine ⟨Γ2, S2, F2, (Post.bind P2).imp fun o' S3 Γ3 H3 e3 F3 ⟨_, P3⟩ => ?_⟩
    exact sl_done hK F3 (hv.mono (e2.trans e3)) P3

/-! ### o[i] = e -/
/-- a list's cell is written at a place -/
def setAt (x y : R) (d : D) : M Unit := fun S => match x with
  | .r n => match asI y with
    | some i => match S.st[n]? with
      | some (.mu (.lst l)) => match ixN l.length i with
        | some j => .ok () { S with st := S.st.set n (.mu (.lst (l.set j d))) }
        | none => .bad
      | _ => .bad
    | none => .bad
  | _ => .bad
def sSub (f fo fi : M R) : M Fl := do
  let x ← f
  let d ← pure1 x
  let o ← fo
  let i ← fi
  setAt o i d
  pure .nx
theorem lstC {Γ : Gh} {S : Sg} {σ : L2.St} {H : Hp} {n : Nat} {v : V} {l : List D} (F : FrOk c Γ S σ H) (hv : RepR c Γ (.r n) v) (e : S.st[n]? = some (.mu (.lst l))) : ∃ a vs, v = .ref a ∧ Γ.ρ[n]? = some a ∧ H a = some (.lst vs) ∧ RepL c Γ.G l vs ∧
    ∀ l' vs', RepL c Γ.G l' vs' → FrOk c Γ { S with st := S.st.set n (.mu (.lst l')) } σ (upd H a (.lst vs')) := by
  obtain ⟨a, vs, h1, h2, h3, h4, h5⟩ := F.s.lst e
  obtain ⟨a', k1, rfl⟩ := hv
  rw [h1] at k1; cases k1
  exact ⟨a, vs, rfl, h1, h2, h3, fun l' vs' hr => F.of Gh.le.refl (F.s.setC e h1 ⟨vs', rfl, hr⟩)⟩
theorem ss_sub {o i : Expr} {fo fi : M R} (he : PE X e (rdE c W f)) (ho : PE X o (rdE c W fo)) (hi : PE X i (rdE c W fi)) {spos : Pos} (hs : swapsWithSole [.Subscript o i pos] e spos.line X.env = pure false := by rfl) (hw : swappedStores [.Subscript o i pos] e X.env = pure none := by rfl)
    (h1 : (assignEach [.Subscript o i pos] X.env).map (·.2) = [assign (.Subscript o i pos) X.env] := by rfl)
    (ha : ∀ v, assign (.Subscript o i pos) X.env v = (do
      let ov ← holding [v] (eval o X.env)
      let iv ← holding [v, ov] (eval i X.env)
      standAt pos
      holding [v, ov, iv] (setItem ov iv v)
      release [v, ov, iv] []) := by intro _; rfl) : PS X (.Assign [.Subscript o i pos] e spos) (rdS c W (sSub f fo fi)) := ss_of (ps_asg he (pg_sub ho hi set_list ha) hs hw h1) fun E σ H q => by
  obtain ⟨Γ, S, F, P⟩ := q
  refine ⟨Γ, S, F, (PostS.bindE P).imp fun x S1 Γ1 H1 e1 F1 ⟨_, P1⟩ v hv => ?_⟩
  obtain ⟨d, Γ2, S2, e2, F2, hd, _, P2⟩ := pure1_ok F1 hv (PostS.bindE P1)
  refine ⟨Γ2, S2, F2, (PostS.bindE P2).imp fun ox S3 Γ3 H3 e3 F3 ⟨_, P3⟩ ov hov => ?_⟩
  refine ⟨Γ3, S3, F3, (PostS.bindE P3).imp fun ix S4 Γ4 H4 e4 F4 ⟨_, P4⟩ iv hiv => ?_⟩
  have P5 := PostS.bindE (σ := σ) P4
  cases ox with
  | p d => exact P5.elim
  | r n =>
    unfold setAt at P5
    simp only at P5
    cases hi : asI ix with
    | none => rw [hi] at P5; exact P5.elim
    | some k =>
      rw [hi] at P5
      simp only at P5
      cases hn : S4.st[n]? with
      | none => rw [hn] at P5; exact P5.elim
      | some y =>
        rw [hn] at P5
        cases y with
        | dead => exact P5.elim
        | fz l => exact P5.elim
        | mu u =>
          cases u with
          | dct k => exact P5.elim
          | dt k => exact P5.elim
          | obj k fs => exact P5.elim
          | lst l =>
            simp only at P5
            cases hj : ixN l.length k with
            | none => rw [hj] at P5; exact P5.elim
            | some j =>
              rw [hj] at P5
              obtain ⟨a, vs, rfl, r1, r2, r3, upd'⟩ := lstC F4 (hov.mono e4) hn
              refine ⟨a, vs, k, j, rfl, asI_rep hiv hi, r2, by rw [r3.length]; exact hj, ?_⟩
              have F5 := upd' (l.set j d) (vs.set j v) (r3.set j (Rep.mono (e3.trans e4).g hd))
              obtain ⟨_, P6⟩ := Post.ok (c := c) (W := W) P5 Gh.le.refl F5
              exact P6 Γ4 σ _ Gh.le.refl F5
end
end Dd

set_option Elab.async false
set_option linter.all false
set_option maxRecDepth 100000
namespace Dd
open PySem PySem.Spec PyProof.Rows L2

/-! ### lists that are tracked; +, * -/
/-- a list that is no one's but ours or frozen -/
def getM (x : R) (S : Sg) : Option (List D) := match x with
  | .p (.lst l) => some l
  | .p _ => none
  | .r n => match S.st[n]? with
    | some (.mu (.lst l)) => some l
    | some (.fz l) => some l
    | _ => none
section
variable {X : Cx} {c : Cg} {W : WX} {a b e : Expr} {f fa fb : M R} {g : M (List R)} {pos : Pos} {Γ : Gh} {S : Sg} {σ : L2.St} {H : Hp}
theorem getM_ok {x : R} {v : V} {l : List D} (F : FrOk c Γ S σ H) (hx : RepR c Γ x v) (h : getM x S = some l) : ∃ a vs, v = .ref a ∧ H a = some (.lst vs) ∧ RepL c Γ.G l vs := by
  cases x with
  | p d =>
    cases d with
    | lst l' =>
      cases h
      obtain ⟨a, vs, h1, h2, h3⟩ := Rep.lst_iff.mp (RepR.pure.mp hx)
      exact ⟨a, vs, h1, F.s.g _ _ h2, h3⟩
    | _ => cases h
  | r n =>
    obtain ⟨a, h1, h2⟩ := hx
    unfold getM at h
    simp only at h
    split at h
    · rename_i l' e
      cases h
      obtain ⟨a', vs, h3, h4, h5, _⟩ := F.s.lst e
      rw [h1] at h3; cases h3
      exact ⟨a, vs, h2, h4, h5⟩
    · rename_i l' e
      cases h
      obtain ⟨a', vs, h3, h4, h5⟩ := F.s.fro e
      rw [h1] at h3; cases h3
      exact ⟨a, vs, h2, F.s.g _ _ h4, h5⟩
    · cases h
/-- + : ints, texts, lists -/
def opAdd : R → R → M R := fun x y S => match asI x with
  | some i => match asI y with
    | some j => .ok (.p (.int (i + j))) S
    | none => .bad
  | none => match getM x S with
    | some l => match getM y S with
      | some l' => if l.length + l'.length ≤ sizeLine then .ok (.r S.st.length) { S with st := S.st ++ [.mu (.lst (l ++ l'))] } else .bad
      | none => .bad
    | none => match x with
      | .p (.str z) => match y with
        | .p (.str z') => if z.length + z'.length ≤ sizeLine then .ok (.p (.str (z ++ z'))) S else .bad
        | _ => .bad
      | _ => .bad
def rAddA : R2 := fun x y H Q => (rI0 (fun i j => .int (i + j)) x y H Q ∨ rCat x y H Q) ∨ ∃ i j, x = .str i ∧ y = .str j ∧ i.length + j.length ≤ sizeLine ∧ Q (.str (i ++ j)) H
theorem op_addA : OpR X (binaryOp .Add) rAddA := OpR.or (OpR.or op_add op_cat) op_add_str
theorem od_add : OpD c W opAdd rAddA := by
  intro Γ S σ H x y v w Q F hx hy P
  unfold opAdd at P
  cases hi : asI x with
  | some i =>
    rw [hi] at P
    simp only at P
    cases hj : asI y with
    | none => rw [hj] at P; exact P.elim
    | some j =>
      rw [hj] at P
      exact .inl (.inl ⟨i, j, asI_rep hx hi, asI_rep hy hj, Post.ok (c := c) (W := W) P Gh.le.refl F _ RepR.mkI⟩)
  | none =>
    rw [hi] at P
    simp only at P
    cases hl : getM x S with
    | some l =>
      rw [hl] at P
      simp only at P
      cases hl' : getM y S with
      | none => rw [hl'] at P; exact P.elim
      | some l' =>
        rw [hl'] at P
        simp only at P
        by_cases hz : l.length + l'.length ≤ sizeLine
        · rw [if_pos hz] at P
          obtain ⟨a, vs, rfl, h1, h2⟩ := getM_ok F hx hl
          obtain ⟨b, ws, rfl, k1, k2⟩ := getM_ok F hy hl'
          refine .inl (.inr ⟨a, b, vs, ws, rfl, rfl, h1, k1, by rw [h2.length, k2.length]; exact hz, fun p hp => ?_⟩)
          obtain ⟨Γ3, e3, F3, r3⟩ := newL_ok F (h2.append k2) hp
          exact Post.ok (c := c) (W := W) P e3 F3 _ r3
        · rw [if_neg hz] at P; exact P.elim
    | none =>
      rw [hl] at P
      cases x with
      | r n => exact P.elim
      | p d =>
        cases d with
        | str z =>
          cases y with
          | r n => exact P.elim
          | p d' =>
            cases d' with
            | str z' =>
              have P : Post c W σ Γ (if z.length + z'.length ≤ sizeLine then Res.ok (R.p (.str (z ++ z'))) S else .bad) (fun z S' Γ' H' => ∀ u, RepR c Γ' z u → Q u H') := P
              by_cases hz : z.length + z'.length ≤ sizeLine
              · rw [if_pos hz] at P
                exact .inr ⟨z, z', RepR.str hx, RepR.str hy, hz, Post.ok (c := c) (W := W) P Gh.le.refl F _ RepR.mkS⟩
              · rw [if_neg hz] at P; exact P.elim
            | _ => exact P.elim
        | _ => exact P.elim
/-- * : ints, a list times an int -/
def opMul : R → R → M R := fun x y S => match asI y with
  | some j => match asI x with
    | some i => if CMulW i j then .ok (.p (.int (i * j))) S else .bad
    | none => match getM x S with
      | some l => if -(2 ^ 63) ≤ j ∧ j < 2 ^ 63 ∧ l.length * j.toNat ≤ sizeLine then .ok (.r S.st.length) { S with st := S.st ++ [.mu (.lst (List.replicate j.toNat l).flatten)] } else .bad
      | none => .bad
  | none => .bad
theorem RepL.rep {G : Hp} {ds : List D} {vs : List V} (h : RepL c G ds vs) : ∀ n : Nat, RepL c G (List.replicate n ds).flatten (List.replicate n vs).flatten
  | 0 => RepL.nil
  | n + 1 => by
    rw [List.replicate_succ, List.replicate_succ, List.flatten_cons, List.flatten_cons]
    exact h.append (RepL.rep h n)
theorem op_mulA : OpR X (binaryOp .Mult) (fun x y H Q => rI CMulW (fun i j => .int (i * j)) x y H Q ∨ rRep x y H Q) := OpR.or op_mulW op_rep
theorem od_mul : OpD c W opMul (fun x y H Q => rI CMulW (fun i j => .int (i * j)) x y H Q ∨ rRep x y H Q) := by
  intro Γ S σ H x y v w Q F hx hy P
  unfold opMul at P
  cases hj : asI y with
  | none => rw [hj] at P; exact P.elim
  | some j =>
    rw [hj] at P
    simp only at P
    have hw := asI_rep hy hj
    cases hi : asI x with
    | some i =>
      rw [hi] at P
      simp only at P
      by_cases hz : CMulW i j
      · rw [if_pos hz] at P
        exact .inl ⟨i, j, asI_rep hx hi, hw, hz, Post.ok (c := c) (W := W) P Gh.le.refl F _ RepR.mkI⟩
      · rw [if_neg hz] at P; exact P.elim
    | none =>
      rw [hi] at P
      simp only at P
      cases hl : getM x S with
      | none => rw [hl] at P; exact P.elim
      | some l =>
        rw [hl] at P
        simp only at P
        by_cases hz : -(2 ^ 63) ≤ j ∧ j < 2 ^ 63 ∧ l.length * j.toNat ≤ sizeLine
        · rw [if_pos hz] at P
          obtain ⟨a, vs, rfl, h1, h2⟩ := getM_ok F hx hl
          refine .inr ⟨a, j, vs, rfl, hw, h1, hz.1, hz.2.1, by rw [h2.length]; exact hz.2.2, fun p hp => ?_⟩
          obtain ⟨Γ3, e3, F3, r3⟩ := newL_ok F (h2.rep j.toNat) hp
          exact Post.ok (c := c) (W := W) P e3 F3 _ r3
        · rw [if_neg hz] at P; exact P.elim

/-! ### methods of lists and tuples -/
def isLst (x : R) (S : Sg) : Bool := (getLst x S).isSome
theorem ty_lst (hK : X.K = c.K) : TyD c isLst (tyV X.K "list") := by
  intro Γ S σ H x v F hx h
  unfold isLst at h
  obtain ⟨l, hl⟩ := Option.isSome_iff_exists.mp h
  obtain ⟨a, vs, rfl, h1, h2⟩ := getLst_ok F hx hl
  exact .inl ⟨rfl, vs, hK ▸ h1⟩
def isTup (x : R) (S : Sg) : Bool := match x with
  | .p (.tup _) => true
  | _ => false
theorem ty_tup (hK : X.K = c.K) : TyD c isTup (fun v H => ∃ a vs, v = .ref a ∧ TupS X.K H a vs) := by
  intro Γ S σ H x v F hx h
  cases x with
  | r n => cases h
  | p d =>
    cases d with
    | tup l =>
      obtain ⟨a, vs, e, h1, _⟩ := Rep.tup_iff.mp (RepR.pure.mp hx)
      exact ⟨a, vs, e, hK ▸ TupS.mono F.s.g h1⟩
    | _ => cases h
/-- x.append(y) -/
def opApp : R → List R → M R := fun x xs => match xs with
  | [y] => do
    let d ← pure1 y
    fun S => match x with
      | .r n => match S.st[n]? with
        | some (.mu (.lst l)) => if l.length < sizeLine then .ok (.p .non) { S with st := S.st.set n (.mu (.lst (l ++ [d]))) } else .bad
        | _ => .bad
      | _ => .bad
  | _ => bad
theorem one_arg {Γ : Gh} {y : R} {vs : List V} (h : RepRL c Γ [y] vs) : ∃ v, vs = [v] ∧ RepR c Γ y v := by
  obtain ⟨v, r, rfl, h1, h2⟩ := h
  exact ⟨v, by rw [show r = [] from h2], h1⟩
theorem md_app : MtD c W opApp rAppend := by
  intro Γ S σ H x v xs vs Q F hx hxs P
  cases xs with
  | nil => exact P.elim
  | cons y ys =>
    cases ys with
    | cons z zs => exact P.elim
    | nil =>
      obtain ⟨u, rfl, hu⟩ := one_arg hxs
      obtain ⟨d, Γ2, S2, e2, F2, hd, _, P2⟩ := pure1_ok F hu (Post.bind P)
      cases x with
      | p d => exact P2.elim
      | r n =>
        simp only at P2
        cases hn : S2.st[n]? with
        | none => rw [hn] at P2; exact P2.elim
        | some q =>
          rw [hn] at P2
          cases q with
          | dead => exact P2.elim
          | fz l => exact P2.elim
          | mu o =>
            cases o with
            | dct k => exact P2.elim
            | dt k => exact P2.elim
            | obj k fs => exact P2.elim
            | lst l =>
              simp only at P2
              by_cases hz : l.length < sizeLine
              · rw [if_pos hz] at P2
                obtain ⟨a, ws, rfl, r1, r2, r3, up⟩ := lstC F2 (hx.mono e2) hn
                exact ⟨a, ws, u, rfl, rfl, r2, by rw [r3.length]; exact hz, Post.ok (c := c) (W := W) P2 Gh.le.refl (up _ _ (r3.append (RepL.one hd))) _ RepR.mkN⟩
              · rw [if_neg hz] at P2; exact P2.elim
/-- x.pop(i) -/
def opPopAt : R → List R → M R := fun x xs S => match asI1 xs with
  | some i => match x with
    | .r n => match S.st[n]? with
      | some (.mu (.lst l)) => if -(2 ^ 63) ≤ i ∧ i < 2 ^ 63 then (match seqIndex? i l.length with
        | some k => match l[k]? with
          | some d => .ok (.p d) { S with st := S.st.set n (.mu (.lst (l.eraseIdx k))) }
          | none => .bad
        | none => .bad) else .bad
      | _ => .bad
    | _ => .bad
  | none => .bad
theorem md_popAt : MtD c W opPopAt rPopAt := by
  intro Γ S σ H x v xs vs Q F hx hxs P
  unfold opPopAt at P
  cases hi : asI1 xs with
  | none => rw [hi] at P; exact P.elim
  | some i =>
    rw [hi] at P
    have hv := ints1 hxs hi
    subst hv
    cases x with
    | p d => exact P.elim
    | r n =>
      simp only at P
      cases hn : S.st[n]? with
      | none => rw [hn] at P; exact P.elim
      | some q =>
        rw [hn] at P
        cases q with
        | dead => exact P.elim
        | fz l => exact P.elim
        | mu o =>
          cases o with
          | dct k => exact P.elim
          | dt k => exact P.elim
          | obj k fs => exact P.elim
          | lst l =>
            simp only at P
            by_cases hz : -(2 ^ 63) ≤ i ∧ i < 2 ^ 63
            · rw [if_pos hz] at P
              cases hk : seqIndex? i l.length with
              | none => rw [hk] at P; exact P.elim
              | some k =>
                rw [hk] at P
                simp only at P
                cases hd : l[k]? with
                | none => rw [hd] at P; exact P.elim
                | some d =>
                  rw [hd] at P
                  obtain ⟨a, ws, rfl, r1, r2, r3, up⟩ := lstC F hx hn
                  obtain ⟨u, q1, q2⟩ := r3.get hd
                  exact ⟨a, ws, i, k, u, rfl, rfl, r2, hz.1, hz.2, by rw [r3.length]; exact hk, q1, Post.ok (c := c) (W := W) P Gh.le.refl (up _ _ (r3.eraseIdx k)) u q2⟩
            · rw [if_neg hz] at P; exact P.elim
theorem RepL.dropLast {G : Hp} {ds : List D} {vs : List V} (h : RepL c G ds vs) : RepL c G ds.dropLast vs.dropLast := by
  rw [List.dropLast_eq_take, List.dropLast_eq_take, h.length]
  exact h.take _
/-- the place of an int in ints -/
def intsOf : List D → Option (List Int)
  | [] => some []
  | .int i :: r => match intsOf r with
    | some l => some (i :: l)
    | none => none
  | _ => none
theorem intsOf_some : ∀ {l : List D} {ns : List Int}, intsOf l = some ns → l = ns.map D.int
  | [], ns, h => by cases h; rfl
  | d :: r, ns, h => by
    cases d with
    | int i =>
      unfold intsOf at h
      cases q : intsOf r with
      | none => rw [q] at h; cases h
      | some l => rw [q] at h; cases h; rw [intsOf_some q]; rfl
    | _ => cases h
theorem intsOf_map : ∀ ns : List Int, intsOf (ns.map D.int) = some ns
  | [] => rfl
  | i :: ns => by show intsOf (.int i :: ns.map D.int) = _; unfold intsOf; rw [intsOf_map ns]
/-- the first place of an int -/
def idxOf (ns : List Int) (i : Int) : Option Nat := ns.findIdx? (· == i)
theorem idxOf_spec {ns : List Int} {i : Int} {j : Nat} (h : idxOf ns i = some j) : ns[j]? = some i ∧ ∀ m, m < j → ns[m]? ≠ some i := by
  unfold idxOf at h
  rw [List.findIdx?_eq_some_iff_getElem] at h
  obtain ⟨hj, h1, h2⟩ := h
  refine ⟨by rw [List.getElem?_eq_getElem hj]; exact congrArg some (beq_iff_eq.mp h1), fun m hm e => ?_⟩
  have hml : m < ns.length := by omega
  rw [List.getElem?_eq_getElem hml] at e
  have := h2 m hm
  rw [Option.some.inj e] at this
  exact this (beq_self_eq_true i)
/-- t.index(i) over ints -/
def opIdx : R → List R → M R := fun x xs S => match asI1 xs with
  | some i => match getL x S with
    | some l => match intsOf l with
      | some ns => match idxOf ns i with
        | some j => .ok (.p (.int (j : Nat))) S
        | none => .bad
      | none => .bad
    | none => .bad
  | none => .bad
def rIdxT (K : PySem.W.Frag) : V → List V → Hp → VK → Prop := fun x xs H Q => ∃ p, ∃ ys : List Int, ∃ z j, x = .ref p ∧ xs = [.int z] ∧ SqT K H p (ys.map V.int) ∧ ys[j]? = some z ∧ (∀ m, m < j → ys[m]? ≠ some z) ∧ Q (.int (j : Nat)) H
theorem mt_tup_idx : MtR X "tuple.index" (rIdxT X.K) := by
  intro pins s σ H x xs v us Q I rx rxs h
  obtain ⟨p, ys, z, j, rfl, rfl, hs, hj, hno, q⟩ := h
  cases rx
  cases rxs with
  | cons ru rt =>
    rename_i uy ut
    cases rt
    obtain ⟨t, rfl⟩ := ru
    obtain ⟨its, rv, ⟨⟨cls, dd, data, sl⟩, ho, hc, n, hd⟩, hlen⟩ := I.tuple hs
    simp only at hc hd
    subst hc hd
    have fys : (ys.map V.int).all flatV = true := by rw [List.all_map]; exact List.all_eq_true.mpr fun _ _ => rfl
    obtain ⟨u, hu, ru⟩ := rv.get (i := j) (x := .int z) (by rw [List.getElem?_map, hj]; rfl)
    obtain ⟨hjl, hje⟩ := List.getElem?_eq_some_iff.mp hu
    have hj' : j < its.toArray.size := by simpa using hjl
    refine call_meets PySem.F.slot_tuple_index ⟨_, ho, rfl⟩ PySem.F.entry_tuple_index (PySem.F.args_tuple_index_2 _ _) (TI.tuple_indexAt p its.toArray n dd sl (.int z t) (eqU (.int z)) j hj' ?_ ?_)
      ⟨ho, fun u' hu' => mem_eqAt (x := .int z) ⟨t, rfl⟩ rfl rv fys u' (by simpa using hu'), ?_⟩
    · have e1 : its.toArray[j] = u := by simpa using hje
      rw [e1, eqU_of ru rfl]
      simp [eqV]
    · intro m hm hmj
      have hml : m < its.length := by simpa using hm
      have hvl := rv.length
      have hmy : m < ys.length := by simp at hvl; omega
      obtain ⟨u2, hu2, ru2⟩ := rv.get (i := m) (x := .int ys[m]) (by rw [List.getElem?_map, List.getElem?_eq_getElem hmy]; rfl)
      obtain ⟨_, hme⟩ := List.getElem?_eq_some_iff.mp hu2
      have e1 : its.toArray[m] = u2 := by simpa using hme
      rw [e1, eqU_of ru2 rfl]
      have := hno m hmj
      rw [List.getElem?_eq_getElem hmy] at this
      simp only [eqV]
      exact beq_eq_false_iff_ne.mpr fun e => this (congrArg some e)
    · exact ⟨.int (j : Nat), H, I.tok _, ⟨_, rfl⟩, q⟩
theorem md_idxT (hK : X.K = c.K) : MtD c W (fun x xs S => if isTup x S = true then opIdx x xs S else .bad) (rIdxT X.K) := by
  intro Γ S σ H x v xs vs Q F hx hxs P
  simp only at P
  by_cases ht : isTup x S = true
  · rw [if_pos ht] at P
    cases x with
    | r n => cases ht
    | p d =>
      cases d with
      | tup l =>
        unfold opIdx at P
        cases hi : asI1 xs with
        | none => rw [hi] at P; exact P.elim
        | some i =>
          rw [hi] at P
          have hv := ints1 hxs hi
          subst hv
          have P : Post c W σ Γ (match intsOf l with
            | some ns => match idxOf ns i with
              | some j => Res.ok (R.p (.int (j : Nat))) S
              | none => .bad
            | none => .bad) (fun z S' Γ' H' => ∀ u, RepR c Γ' z u → Q u H') := P
          cases hn : intsOf l with
          | none => rw [hn] at P; exact P.elim
          | some ns =>
            rw [hn] at P
            simp only at P
            cases hj : idxOf ns i with
            | none => rw [hj] at P; exact P.elim
            | some j =>
              rw [hj] at P
              obtain ⟨a, ws, rfl, h1, h2⟩ := Rep.tup_iff.mp (RepR.pure.mp hx)
              rw [intsOf_some hn] at h2
              rw [h2.ints] at h1
              obtain ⟨k1, k2⟩ := idxOf_spec hj
              exact ⟨a, ns, i, j, rfl, rfl, hK ▸ (TupS.mono F.s.g h1).sq, k1, k2, Post.ok (c := c) (W := W) P Gh.le.refl F _ RepR.mkI⟩
      | _ => cases ht
  · rw [if_neg ht] at P; exact P.elim
end
end Dd

set_option Elab.async false
set_option linter.all false
set_option maxRecDepth 100000
namespace Dd
open PySem PySem.Spec PyProof.Rows L2

/-! ### methods with what is raised at the caller's slots -/
section
variable {X : Cx} {k : Nat} {f C : Addr} {fd : FuncData} {ps : List Str} {sp : Sp} {E : L2.St → XK} {x m : Str} {p pos apos : Pos} {e o : Expr} {es : List Expr} {ta : TE} {t : TA}
def tMethS (C : Addr) (m : Str) (sp : Sp) (E : L2.St → XK) (ta : TE) (t : TA) : TE := fun σ H Q => ta σ H fun x H1 => ∃ a dx fs, x = .ref a ∧ H1 a = some (.ins C dx fs) ∧ fs.lookup m = none ∧ t σ H1 fun vs H2 => sp (x :: vs) H2 Q (E σ)
theorem pe_methS {pl : Sem Bool} (he : PE X o ta) (c : Cls X.K C) (hm : Meth X.K C m f) (F : FnG X.prog X.w X.K X.mg X.base k f fd ps sp) (hG : X.A.guards = some []) (hr : Room k X.A) (hb : Binds X.K fd ps []) (hx : ∀ σ, PassesAt (L2.CX X.prog X.w) X σ (E σ)) (ha : PA X (e :: es) t)
    (hst : starEach (e :: es) X.env = (false, eval e X.env) :: starEach es X.env := by rfl) (hpl : (backTo pos (starEach es X.env)).any (·.1) = false := by rfl)
    (ht : eval (.Call (.Attribute o m apos) (e :: es) [] pos) X.env = (do
      let ov ← eval o X.env
      standAt apos.atName
      let (f, first) ← holding [ov] (getMethod ov m pl)
      callWith pos f first (backTo pos (starEach (e :: es) X.env)) (backToKw pos (keywordEach [] X.env))) := by rfl) :
    PE X (.Call (.Attribute o m apos) (e :: es) [] pos) (tMethS C m sp E ta t) := by
  refine ⟨fun pins s σ H Q I h => ?_⟩
  refine PySem.W.methodCall_KW (pl := pl) (thn (he.run pins s σ H _ I h) fun u s1 ⟨x, H1, I1, rx, a, dx, fs, ex, ea, l, q⟩ => ?_) ht
  subst ex
  obtain rfl : u = Value.ref a := rx
  refine getmeth_ok I1 ea c hm l ?_
  refine PySem.W.callWith_K (first := [.ref a]) (h₀ := X.base) I.ok.mod.kin hm.kp (thn (ha.run pos pins s1 σ H1 _ I1 q) fun us s2 ⟨vs, H2, I2, r, q2⟩ => ⟨I2.kIn, ?_⟩) hst hpl
  exact run_fnG (us := .ref a :: us) (vs := .ref a :: vs) F hG hr hb (hx σ) I2 (.cons rfl r) q2
theorem pe_methS0 {pl : Sem Bool} (he : PE X o ta) (c : Cls X.K C) (hm : Meth X.K C m f) (F : FnG X.prog X.w X.K X.mg X.base k f fd ps sp) (hG : X.A.guards = some []) (hr : Room k X.A) (hb : Binds X.K fd ps []) (hx : ∀ σ, PassesAt (L2.CX X.prog X.w) X σ (E σ))
    (ht : eval (.Call (.Attribute o m apos) [] [] pos) X.env = (do
      let ov ← eval o X.env
      standAt apos.atName
      let (f, first) ← holding [ov] (getMethod ov m pl)
      callWith pos f first (backTo pos (starEach [] X.env)) (backToKw pos (keywordEach [] X.env))) := by rfl) :
    PE X (.Call (.Attribute o m apos) [] [] pos) (tMethS C m sp E ta tNil) := by
  refine ⟨fun pins s σ H Q I h => ?_⟩
  refine PySem.W.methodCall_KW (pl := pl) (thn (he.run pins s σ H _ I h) fun u s1 ⟨x, H1, I1, rx, a, dx, fs, ex, ea, l, q⟩ => ?_) ht
  subst ex
  obtain rfl : u = Value.ref a := rx
  refine getmeth_ok I1 ea c hm l ?_
  exact PySem.W.callWith_K0 (first := [.ref a]) I1.kIn hm.kp (run_fnG (us := [.ref a]) (vs := [.ref a]) F hG hr hb (hx σ) I1 (.cons rfl .nil) q)
def tMakeS (C : Addr) (sp : Sp) (E : L2.St → XK) (t : TA) : TE := fun σ H Q => t σ H fun vs H1 => ∀ x dx, H1 x = none → H1 dx = none → dx ≠ x →
  sp (.ref x :: vs) (upd (upd H1 dx (.own x)) x (.ins C dx [])) (fun v H2 => v = .non ∧ Q (.ref x) H2) (E σ)
theorem run_makeS {pins : List (Addr × Obj)} {σ : L2.St} {H : Hp} {s : Shared} {Q : VK} {us : List Value} {vs : List V} {E : XK} (M : Mk X.K C f) (F : FnG X.prog X.w X.K X.mg X.base k f fd ps sp) (hG : X.A.guards = some []) (hr : Room (k + 1) X.A) (hb : Binds X.K fd ps [])
    (hx : PassesAt (L2.CX X.prog X.w) X σ E) (I : L2.Inv X pins σ H s) (r : Vals vs us)
    (h : ∀ x dx, H x = none → H dx = none → dx ≠ x → sp (.ref x :: vs) (upd (upd H dx (.own x)) x (.ins C dx [])) (fun v H2 => v = .non ∧ Q (.ref x) H2) E) :
    wpAny (model X.prog X.w) X.A (call (.ref C) us) (EP X pins σ Q) X.xe s := by
  have hq := h (s.heap.objs.size + 1) s.heap.objs.size (I.hok.fresh (Nat.le_succ _)) (I.hok.fresh (Nat.le_refl _)) (Nat.ne_of_lt (Nat.lt_succ_self _))
  have I2 := L2.Inv.made (C := C) I
  have r2 : Vals (V.ref (s.heap.objs.size + 1) :: vs) (Value.ref (s.heap.objs.size + 1) :: us) := .cons rfl r
  have hl : (Value.ref (s.heap.objs.size + 1) :: us).length = ps.length := by
    have e := r2.length
    rw [F.len _ _ _ _ hq] at e
    exact e.symm
  have hbb := hb _ (Value.ref (s.heap.objs.size + 1) :: us) I2.kIn (by rw [List.append_nil]; exact hl)
  rw [List.append_nil] at hbb
  refine wpAny_call (make_map (f := f) I.kIn M.makes M.init (beq_iff_eq.mp M.fn) (codeAny_mono (F.run _ X.stack _ _ ⟨Value.ref (s.heap.objs.size + 1) :: us, []⟩ (Value.ref (s.heap.objs.size + 1) :: us) _ _ E hG (hr.make C us [])
    (I2.env0.make C us []) hbb r2 hq) fun r s' hq' => ?_))
  cases r with
  | error e => exact hx pins _ _ e s' I2 hq'
  | ok fl =>
    cases fl with
    | ret u =>
      obtain ⟨v, H', I3, rv, ev, q3⟩ := I2.after hq'
      subst ev
      exact ⟨rv, ⟨V.ref (s.heap.objs.size + 1), H', I3, rfl, q3⟩⟩
    | next => exact False.elim hq'
    | brk => exact False.elim hq'
    | cont => exact False.elim hq'
theorem pe_makeS (M : Mk X.K C f) (F : FnG X.prog X.w X.K X.mg X.base k f fd ps sp) (hG : X.A.guards = some []) (hr : Room (k + 1) X.A) (hg : Gl X x) (hm : X.mg x = some (.ref C)) (hb : Binds X.K fd ps []) (hx : ∀ σ, PassesAt (L2.CX X.prog X.w) X σ (E σ))
    (ha : PA X (e :: es) t) (hdb : (x == ("__debug__" : Str)) = false := by decide) (he : starEach (e :: es) X.env = (false, eval e X.env) :: starEach es X.env := by rfl) (hpl : (backTo pos (starEach es X.env)).any (·.1) = false := by rfl) :
    PE X (.Call (.Name x p) (e :: es) [] pos) (tMakeS C sp E t) := by
  refine ⟨fun pins s σ H Q I h => ?_⟩
  refine wpAny_Call_Name_kw (ld_glob I hg hm ?_ hdb)
  refine PySem.W.callWith_K (h₀ := X.base) I.ok.mod.kin M.kp (thn (ha.run pos pins s σ H _ I h) fun us s1 ⟨vs, H1, I1, r, q⟩ => ⟨I1.kIn, ?_⟩) he hpl
  exact run_makeS M F hG hr hb (hx σ) I1 r q
theorem getprop_okG {C pA gA a dx : Addr} {fs : List (Str × V)} {f' : Str} {fd : FuncData} {ps : List Str} {sp : Sp} {E : XK} {pins : List (Addr × Obj)} {σ : L2.St} {H : Hp} {s : Shared} {Q : VK} {b : Bool} {E' : Value → Shared → Prop} (I : L2.Inv X pins σ H s) (ea : H a = some (.ins C dx fs)) (cl : Cls X.K C) (hp : PropOf X.K C f' pA gA)
    (F : FnG X.prog X.w X.K X.mg X.base k gA fd ps sp) (hG : X.A.guards = some []) (hr : Room (k + 1) X.A) (hb : Binds X.K fd ps []) (hx : Passes (L2.CX X.prog X.w) X.nox E) (h : sp [.ref a] H Q E) :
    wpAny (model X.prog X.w) X.A (getAttr (.ref a) f' b) (EP X pins σ Q) E' s := by
  obtain ⟨mA, O, _, _, _, _⟩ := ins_get I.hok ea
  obtain ⟨od, J, _⟩ := O.look
  obtain ⟨rest, hrec⟩ := hp.rec_
  have I1 := I.tok (s.toks + 1)
  have hl : ([Value.ref a] ++ []).length = ps.length := by
    rw [← F.len _ _ _ _ h]
    rfl
  have hc : (PySem.W.clsIn X.K C).isSome = true := by
    obtain ⟨cd, hc, _⟩ := PySem.W.any_some cl.hd
    rw [hc]
    rfl
  refine PySem.W.get_bind I.kIn J (PySem.W.plainGet_of (cl.get f')).1 (PySem.W.findObj_data hc hp.at_ hp.get hp.tak) (PySem.W.plainGet_of (cl.get f')).2 (wpAny_call (PySem.W.prop_get (s := { s with toks := s.toks + 1 }) I.kIn hrec ?_))
  refine codeAny_mono (F.run X.A.in1 X.stack { s with toks := s.toks + 1 } H ⟨[.ref a], []⟩ (.ref a :: []) (.ref a :: []) Q E hG hr.in1 I1.env0.in1 (hb _ [.ref a] I1.kIn hl) (.cons rfl .nil) h) fun r s' hq => ?_
  cases r with
  | error er => exact False.elim (hx pins σ H { s with toks := s.toks + 1 } er s' (I1.wish _) hq)
  | ok fl =>
    cases fl with
    | ret u =>
      obtain ⟨v, H', I3, rv, q3⟩ := I1.after hq
      show wpAny _ _ (handedOut u) _ _ _
      rw [PySem.W.handedOut_of (handed_of rv)]
      exact wpAny_pure ⟨v, H', I3, rv, q3⟩
    | next => exact False.elim hq
    | brk => exact False.elim hq
    | cont => exact False.elim hq
theorem pe_propG {C pA gA : Addr} {f' : Str} {E : XK} (he : PE X e ta) (cl : Cls X.K C) (hp : PropOf X.K C f' pA gA) (F : FnG X.prog X.w X.K X.mg X.base k gA fd ps sp) (hG : X.A.guards = some []) (hr : Room (k + 1) X.A) (hb : Binds X.K fd ps []) (hx : Passes (L2.CX X.prog X.w) X.nox E)
    (hab : attributeBase e f' X.env (eval e X.env) = eval e X.env) : PE X (.Attribute e f' pos) (tProp C sp [] E ta) := by
  refine ⟨fun pins s σ H Q I h => ?_⟩
  refine attr_of hab (thn (he.run pins s σ H _ I h) fun u s1 ⟨x, H1, I1, rx, a, dx, fs, ex, ea, q⟩ => ?_)
  subst ex
  obtain rfl : u = Value.ref a := rx
  exact getprop_okG I1 ea cl hp F hG hr hb hx q
end

/-! ### instances -/
/-- the class and the attributes of an instance -/
def insOf (x : R) (S : Sg) : Option (Nat × List (Str × D)) := match x with
  | .p (.scr l) => some (0, [("own_levels", .tup l)])
  | .p _ => none
  | .r n => match S.st[n]? with
    | some (.mu (.obj k fs)) => some (k, fs)
    | _ => none
section
variable {X : Cx} {c : Cg} {W : WX} {e o : Expr} {es : List Expr} {f fv : M R} {g : M (List R)} {pos p apos : Pos} {F : Fn} {n k K' : Nat} {fA : Addr} {fd : FuncData} {ps : List Str} {x m : Str}
theorem RepF.lookup {Γ : Gh} {a : Addr} : ∀ {fs : List (Str × D)} {vs : List (Str × V)} (m : Str), RepF c Γ a fs vs → (fs.lookup m = none → vs.lookup m = none) ∧ ∀ d, fs.lookup m = some d → ∃ v, vs.lookup m = some v ∧ RepX c Γ a m d v
  | [], vs, m, h => by
    have : vs = [] := h
    subst this
    exact ⟨fun _ => rfl, fun d h => by cases h⟩
  | (y, d') :: fs, vs, m, h => by
    obtain ⟨v, r, rfl, h1, h2⟩ := h
    by_cases e : m = y
    · subst e
      rw [List.lookup_cons_self, List.lookup_cons_self]
      exact ⟨fun h => by simp at h, fun d h => ⟨v, rfl, by cases h; exact h1⟩⟩
    · have eb : (m == y) = false := beq_eq_false_iff_ne.mpr e
      rw [List.lookup_cons, List.lookup_cons, eb]
      exact RepF.lookup m h2
theorem insOf_ok {Γ : Gh} {S : Sg} {σ : L2.St} {H : Hp} {v : V} {k : Nat} {fs : List (Str × D)} (Fo : FrOk c Γ S σ H) (hv : RepR c Γ x' v) (h : insOf x' S = some (k, fs)) :
    ∃ a dx vs, v = .ref a ∧ H a = some (.ins (c.cls k) dx vs) ∧ RepF c Γ a fs vs := by
  cases x' with
  | p d =>
    cases d with
    | scr l =>
      cases h
      obtain ⟨a, dx, b, vs, h1, h2, h3, h4⟩ := Rep.scr_iff.mp (RepR.pure.mp hv)
      exact ⟨a, dx, _, h1, Fo.s.g _ _ h2, .ref b, [], rfl, Rep.tup_iff.mpr ⟨b, vs, rfl, h3, h4⟩, rfl⟩
    | _ => cases h
  | r n =>
    unfold insOf at h
    simp only at h
    split at h
    · rename_i k' fs' e
      cases h
      obtain ⟨a, h1, h2⟩ := hv
      obtain ⟨u, q1, ⟨dx, vs, rfl, q2, _⟩, _⟩ := Fo.s.cell n _ a e h1
      exact ⟨a, dx, vs, h2, q1, q2⟩
    · cases h
/-- o.m(..), o of the class k -/
def methU (k : Nat) (m : Str) (F : Fn) (n : Nat) (f : M R) (g : M (List R)) : M R := do
  let x ← f
  fun S => match insOf x S with
    | some (k', fs) => if k' = k ∧ fs.lookup m = none then callM F n (do
        let xs ← g
        pure (x :: xs)) S else .bad
    | none => .bad
theorem methU_read {σ : L2.St} {H : Hp} {Q : VK} (q : rdE c W (methU k m F n f g) σ H Q) : tMethS (c.cls k) m (spF c n F) (WE W) (rdE c W f) (rdA c W g) σ H Q := by
  obtain ⟨Γ, S, Fo, P⟩ := q
  refine ⟨Γ, S, Fo, (Post.bind P).imp fun x S1 Γ1 H1 e1 F1 ⟨_, P1⟩ v hv => ?_⟩
  cases hi : insOf x S1 with
  | none => rw [hi] at P1; exact P1.elim
  | some kf =>
    obtain ⟨k', fs⟩ := kf
    rw [hi] at P1
    simp only at P1
    by_cases hk : k' = k ∧ fs.lookup m = none
    · rw [if_pos hk] at P1
      obtain ⟨rfl, hl⟩ := hk
      obtain ⟨a, dx, vs, rfl, h1, h2⟩ := insOf_ok F1 hv hi
      refine ⟨a, dx, vs, rfl, h1, (h2.lookup m).1 hl, Γ1, S1, F1, ?_⟩
      refine (Post.bind (Post.bind P1)).imp fun xs S2 Γ2 H2 e2 F2 ⟨_, P2⟩ ws hws => ?_
      obtain ⟨_, P3⟩ := Post.ok (c := c) (W := W) P2 Gh.le.refl F2
      by_cases hn : (x :: xs).length = n
      · rw [if_pos hn] at P3
        have hall : RepRL c Γ2 (x :: xs) (.ref a :: ws) := ⟨.ref a, ws, rfl, hv.mono e2, hws⟩
        exact ⟨x :: xs, Γ2, S2.st, by rw [hall.length, hn], hall, F2.s, applyF_ok F2 P3⟩
      · rw [if_neg hn] at P3; exact P3.elim
    · rw [if_neg hk] at P1; exact P1.elim
theorem se_meth {pl : Sem Bool} (ho : PE X o (rdE c W f)) (cl : Cls X.K (c.cls k)) (hm : Meth X.K (c.cls k) m fA) (Fk : FnG X.prog X.w X.K X.mg X.base K' fA fd ps (spF c n F)) (hG : X.A.guards = some []) (hr : Room K' X.A) (hb : Binds X.K fd ps []) (tk : Takes X W) (ha : PA X (e :: es) (rdA c W g))
    (hst : starEach (e :: es) X.env = (false, eval e X.env) :: starEach es X.env := by rfl) (hpl : (backTo pos (starEach es X.env)).any (·.1) = false := by rfl)
    (ht : eval (.Call (.Attribute o m apos) (e :: es) [] pos) X.env = (do
      let ov ← eval o X.env
      standAt apos.atName
      let (f, first) ← holding [ov] (getMethod ov m pl)
      callWith pos f first (backTo pos (starEach (e :: es) X.env)) (backToKw pos (keywordEach [] X.env))) := by rfl) :
    PE X (.Call (.Attribute o m apos) (e :: es) [] pos) (rdE c W (methU k m F n f g)) :=
  se_of (pe_methS ho cl hm Fk hG hr hb (fun σ => passAt tk σ) ha hst hpl ht) fun σ H Q q => methU_read q
theorem se_meth0 {pl : Sem Bool} (ho : PE X o (rdE c W f)) (cl : Cls X.K (c.cls k)) (hm : Meth X.K (c.cls k) m fA) (Fk : FnG X.prog X.w X.K X.mg X.base K' fA fd ps (spF c n F)) (hG : X.A.guards = some []) (hr : Room K' X.A) (hb : Binds X.K fd ps []) (tk : Takes X W)
    (ht : eval (.Call (.Attribute o m apos) [] [] pos) X.env = (do
      let ov ← eval o X.env
      standAt apos.atName
      let (f, first) ← holding [ov] (getMethod ov m pl)
      callWith pos f first (backTo pos (starEach [] X.env)) (backToKw pos (keywordEach [] X.env))) := by rfl) :
    PE X (.Call (.Attribute o m apos) [] [] pos) (rdE c W (methU k m F n f aN)) :=
  se_of (pe_methS0 ho cl hm Fk hG hr hb (fun σ => passAt tk σ) ht) fun σ H Q q => by
    obtain ⟨Γ, S, Fo, P⟩ := methU_read q
    refine ⟨Γ, S, Fo, P.imp fun x S1 Γ1 H1 e1 F1 h v hv => ?_⟩
    obtain ⟨a, dx, fs, h1, h2, h3, Γ2, S2, F2, P2⟩ := h v hv
    exact ⟨a, dx, fs, h1, h2, h3, Post.ok (c := c) (W := W) P2 Gh.le.refl F2 [] rfl⟩
/-- o.f, a property of the class k: nothing is raised -/
def propU (k : Nat) (F : Fn) (f : M R) : M R := do
  let x ← f
  fun S => match insOf x S with
    | some (k', _) => if k' = k then (match F [x] S.st with
      | .exc _ _ => .bad
      | r => applyF S r) else .bad
    | none => .bad
theorem se_prop {f' : Str} {pA gA : Addr} (ho : PE X o (rdE c W f)) (cl : Cls X.K (c.cls k)) (hp : PropOf X.K (c.cls k) f' pA gA) (Fk : FnG X.prog X.w X.K X.mg X.base K' gA fd ps (spF c 1 F)) (hG : X.A.guards = some []) (hr : Room (K' + 1) X.A) (hb : Binds X.K fd ps [])
    (hab : attributeBase o f' X.env (eval o X.env) = eval o X.env := by rfl) : PE X (.Attribute o f' pos) (rdE c W (propU k F f)) :=
  se_of (pe_propG ho cl hp Fk hG hr hb (passL (X := X.nox)) hab) fun σ H Q q => by
    obtain ⟨Γ, S, Fo, P⟩ := q
    refine ⟨Γ, S, Fo, (Post.bind P).imp fun x S1 Γ1 H1 e1 F1 ⟨_, P1⟩ v hv => ?_⟩
    cases hi : insOf x S1 with
    | none => rw [hi] at P1; exact P1.elim
    | some kf =>
      obtain ⟨k', fs⟩ := kf
      rw [hi] at P1
      simp only at P1
      by_cases hk : k' = k
      · rw [if_pos hk] at P1
        subst hk
        obtain ⟨a, dx, vs, rfl, h1, h2⟩ := insOf_ok F1 hv hi
        refine ⟨a, dx, vs, rfl, h1, [x], Γ1, S1.st, rfl, ⟨.ref a, [], rfl, hv, rfl⟩, F1.s, ?_⟩
        cases hF : F [x] S1.st with
        | bad => rw [hF] at P1; exact P1.elim
        | exc y st => rw [hF] at P1; exact P1.elim
        | ok r st =>
          rw [hF] at P1
          have := applyF_ok (r := .ok r st) F1 P1
          cases r with
          | val d => exact this
          | new o => exact this
      · rw [if_neg hk] at P1; exact P1.elim
/-- .. pure data -/
def atD : D → Option D
  | .ol _ => none
  | d => some d
theorem atD_some {d e : D} (h : atD d = some e) : e = d ∧ ∀ {Γ : Gh} {a : Addr} {n : Str} {v : V}, RepX c Γ a n d v → Rep c Γ.G d v := by
  cases d <;> first | (cases h; done) | (cases h; exact ⟨rfl, fun h => h⟩)
/-- o.f, an attribute that is kept in the instance -/
def attrU (k : Nat) (f' : Str) (f : M R) : M R := do
  let x ← f
  fun S => match insOf x S with
    | some (k', fs) => if k' = k then (match (fs.lookup f').bind atD with
      | some d => .ok (.p d) S
      | none => .bad) else .bad
    | none => .bad
theorem se_attr {f' : Str} (hK : X.K = c.K) (ho : PE X o (rdE c W f)) (cl : Cls X.K (c.cls k)) (na : NoAttr X.K (c.cls k) f') (hab : attributeBase o f' X.env (eval o X.env) = eval o X.env := by rfl) : PE X (.Attribute o f' pos) (rdE c W (attrU k f' f)) :=
  se_of (pe_fld ho hab) fun σ H Q q => by
    obtain ⟨Γ, S, Fo, P⟩ := q
    refine ⟨Γ, S, Fo, (Post.bind P).imp fun x S1 Γ1 H1 e1 F1 ⟨_, P1⟩ v hv => ?_⟩
    cases hi : insOf x S1 with
    | none => rw [hi] at P1; exact P1.elim
    | some kf =>
      obtain ⟨k', fs⟩ := kf
      rw [hi] at P1
      simp only at P1
      by_cases hk : k' = k
      · rw [if_pos hk] at P1
        subst hk
        cases hd : fs.lookup f' with
        | none => rw [hd] at P1; exact P1.elim
        | some d =>
          rw [hd] at P1
          obtain ⟨a, dx, vs, rfl, h1, h2⟩ := insOf_ok F1 hv hi
          obtain ⟨u, q1, q2⟩ := (h2.lookup f').2 d hd
          cases hx : atD d with
          | none => simp only [Option.bind_some, hx] at P1; exact P1.elim
          | some e =>
            simp only [Option.bind_some, hx] at P1
            obtain ⟨rfl, hr⟩ := atD_some (c := c) hx
            exact ⟨a, _, dx, vs, u, rfl, h1, cl, na, q1, Post.ok (c := c) (W := W) P1 Gh.le.refl F1 u (hr q2)⟩
      · rw [if_neg hk] at P1; exact P1.elim
/-- o.f = e -/
def putD (f : Str) (d : D) : List (Str × D) → List (Str × D)
  | [] => [(f, d)]
  | (g, x) :: r => if g = f then (g, d) :: r else (g, x) :: putD f d r
theorem putD_names (f : Str) (d : D) : ∀ fs : List (Str × D), ((putD f d fs).map (·.1) = fs.map (·.1)) ∨ (f ∉ fs.map (·.1) ∧ (putD f d fs).map (·.1) = fs.map (·.1) ++ [f])
  | [] => .inr ⟨by simp, rfl⟩
  | (g, x) :: r => by
    unfold putD
    by_cases e : g = f
    · rw [if_pos e]; exact .inl rfl
    · rw [if_neg e]
      rcases putD_names f d r with h | ⟨h1, h2⟩
      · exact .inl (by rw [List.map_cons, h, List.map_cons])
      · exact .inr ⟨by simp only [List.map_cons, List.mem_cons, not_or]; exact ⟨fun z => e z.symm, h1⟩, by rw [List.map_cons, h2, List.map_cons, List.cons_append]⟩
theorem putD_nodup {f : Str} {d : D} {fs : List (Str × D)} (h : (fs.map (·.1)).Nodup) : ((putD f d fs).map (·.1)).Nodup := by
  rcases putD_names f d fs with e | ⟨e1, e2⟩
  · rw [e]; exact h
  · rw [e2, List.nodup_append]
    exact ⟨h, by simp, fun a ha b hb => by simp at hb; subst hb; exact fun z => e1 (z ▸ ha)⟩
theorem RepF.put {Γ : Gh} {a : Addr} {f : Str} {d : D} {v : V} (h : RepX c Γ a f d v) : ∀ {fs : List (Str × D)} {vs : List (Str × V)}, RepF c Γ a fs vs → RepF c Γ a (putD f d fs) (putF f v vs)
  | [], vs, q => by
    have : vs = [] := q
    subst this
    exact ⟨v, [], rfl, h, rfl⟩
  | (g, x) :: r, vs, q => by
    obtain ⟨u, r', rfl, h1, h2⟩ := q
    unfold putD putF
    by_cases e : g = f
    · rw [if_pos e, if_pos e]; subst e; exact ⟨v, r', rfl, h, h2⟩
    · rw [if_neg e, if_neg e]; exact ⟨u, _, rfl, h1, RepF.put h h2⟩
theorem RepF.length {Γ : Gh} {a : Addr} : ∀ {fs : List (Str × D)} {vs : List (Str × V)}, RepF c Γ a fs vs → vs.length = fs.length
  | [], vs, q => by rw [show vs = [] from q]; rfl
  | (g, x) :: r, vs, q => by
    obtain ⟨u, r', rfl, h1, h2⟩ := q
    simp [RepF.length h2]
def sFld (k : Nat) (f' : Str) (fo f : M R) : M Fl := do
  let x ← f
  let d ← pure1 x
  let o ← fo
  fun S => match o with
    | .r n => match S.st[n]? with
      | some (.mu (.obj k' fs)) => if k' = k ∧ fs.length < 900 then .ok .nx { S with st := S.st.set n (.mu (.obj k' (putD f' d fs))) } else .bad
      | _ => .bad
    | _ => .bad
end
end Dd

set_option Elab.async false
set_option linter.all false
set_option maxRecDepth 100000
namespace Dd
open PySem PySem.Spec PyProof.Rows L2

section
variable {X : Cx} {c : Cg} {W : WX} {e o a b : Expr} {es : List Expr} {f fo fv fa fb : M R} {g : M (List R)} {pos pos' p apos : Pos} {F : Fn} {n k K' : Nat} {fA : Addr} {fd : FuncData} {ps : List Str} {x m : Str}
theorem ss_fld {f' : Str} (hv : PE X e (rdE c W f)) (ho : PE X o (rdE c W fo)) (cl : Cls X.K (c.cls k)) (na : NoAttr X.K (c.cls k) f') (hs : swapsWith e (some (.Attribute o f' pos')) pos.line X.env = pure false := by rfl) : PS X (.Assign [.Attribute o f' pos'] e pos) (rdS c W (sFld k f' fo f)) :=
  ss_of (ps_fld ho hv hs) fun E σ H q => by
    obtain ⟨Γ, S, Fo, P⟩ := q
    refine ⟨Γ, S, Fo, (PostS.bindE P).imp fun x S1 Γ1 H1 e1 F1 ⟨_, P1⟩ v hv => ?_⟩
    obtain ⟨d, Γ2, S2, e2, F2, hd, _, P2⟩ := pure1_ok F1 hv (PostS.bindE P1)
    refine ⟨Γ2, S2, F2, (PostS.bindE P2).imp fun ox S3 Γ3 H3 e3 F3 ⟨_, P3⟩ ov hov => ?_⟩
    cases ox with
    | p d => exact P3.elim
    | r n =>
      simp only at P3
      cases hn : S3.st[n]? with
      | none => rw [hn] at P3; exact P3.elim
      | some y =>
        rw [hn] at P3
        cases y with
        | dead => exact P3.elim
        | fz l => exact P3.elim
        | mu u =>
          cases u with
          | dct k => exact P3.elim
          | dt k => exact P3.elim
          | lst k => exact P3.elim
          | obj k' fs =>
            simp only at P3
            by_cases hk : k' = k ∧ fs.length < 900
            · rw [if_pos hk] at P3
              obtain ⟨rfl, hl⟩ := hk
              obtain ⟨a, ha, rfl⟩ := hov
              obtain ⟨u, q1, ⟨dx, vs, rfl, q2, q3⟩, _⟩ := F3.s.cell n _ a hn ha
              refine ⟨a, _, dx, vs, rfl, q1, cl, na, by rw [q2.length]; omega, ?_⟩
              exact P3 Γ3 σ _ Gh.le.refl (F3.of Gh.le.refl (F3.s.setC hn ha ⟨dx, _, rfl, q2.put (RepX.of (Rep.mono e3.g hd)), putD_nodup q3⟩))
            · rw [if_neg hk] at P3; exact P3.elim
/-- C(..): a new object's cell, then __init__ -/
def makeU (k : Nat) (F : Fn) (n : Nat) (g : M (List R)) : M R := do
  let xs ← g
  fun S => if xs.length + 1 = n then (match F (.r S.st.length :: xs) (S.st ++ [.mu (.obj k [])]) with
    | .ok (.val .non) st => .ok (.r S.st.length) { S with st := st }
    | .exc x st => .exc x { S with st := st }
    | _ => .bad) else .bad
theorem StOk.ext {Γ : Gh} {st : Store} {H H' : Hp} (F : StOk c Γ st H) (e : Ext H H') : StOk c Γ st H' :=
  ⟨F.g.trans e, F.l.trans e, F.gl, F.len, fun n x a e1 e2 => by
    have q := F.cell n x a e1 e2
    cases x with
    | mu o => obtain ⟨u, q1, q2⟩ := q; exact ⟨u, e _ _ q1, q2⟩
    | fz l => exact q
    | dead => trivial, F.inj, fun b a f ws q => let ⟨k1, k2⟩ := F.own b a f ws q; ⟨e _ _ k1, k2⟩⟩
theorem makeU_read {σ : L2.St} {H : Hp} {Q : VK} (q : rdE c W (makeU k F n g) σ H Q) : tMakeS (c.cls k) (spF c n F) (WE W) (rdA c W g) σ H Q := by
  obtain ⟨Γ, S, Fo, P⟩ := q
  refine ⟨Γ, S, Fo, (Post.bind P).imp fun xs S1 Γ1 H1 e1 F1 ⟨_, P1⟩ vs hvs => ?_⟩
  by_cases hn : xs.length + 1 = n
  · rw [if_pos hn] at P1
    intro y dx hy hdx hne
    have hy' : upd H1 dx (.own y) y = none := by rw [upd_ne (Ne.symm hne)]; exact hy
    have F2 := (F1.s.ext (Ext.upd (o := .own y) hdx)).newC (p := y) (o := .obj k []) (u := .ins (c.cls k) dx []) hy' ⟨dx, [], rfl, rfl, by simp⟩
    have hself : RepR c { Γ1 with ρ := Γ1.ρ ++ [y] } (.r S1.st.length) (.ref y) := ⟨y, by show (Γ1.ρ ++ [y])[S1.st.length]? = some y; rw [F1.s.len]; simp, rfl⟩
    refine ⟨.r S1.st.length :: xs, { Γ1 with ρ := Γ1.ρ ++ [y] }, S1.st ++ [.mu (.obj k [])], by simp [hvs.length, hn], ⟨.ref y, vs, rfl, hself, hvs.mono le_app⟩, F2, ?_⟩
    cases hF : F (.r S1.st.length :: xs) (S1.st ++ [.mu (.obj k [])]) with
    | bad => rw [hF] at P1; exact P1.elim
    | exc y' st =>
      rw [hF] at P1
      exact fun Γ' H' cls dd le s q => P1 Γ' H' cls dd (le_app.trans le) (F1.of (le_app.trans le) s) q
    | ok r st =>
      rw [hF] at P1
      cases r with
      | new o => exact P1.elim
      | val d =>
        cases d with
        | non =>
          intro Γ' H' v le s q
          have e3 : Γ1.le Γ' := le_app.trans le
          exact ⟨Rep.non_iff.mp q, Post.ok (c := c) (W := W) P1 e3 (F1.of e3 s) (.ref y) (hself.mono le)⟩
        | _ => exact P1.elim
  · rw [if_neg hn] at P1; exact P1.elim
theorem se_make (M : Mk X.K (c.cls k) fA) (Fk : FnG X.prog X.w X.K X.mg X.base K' fA fd ps (spF c n F)) (hG : X.A.guards = some []) (hr : Room (K' + 1) X.A) (hg : Gl X x) (hm : X.mg x = some (.ref (c.cls k))) (hb : Binds X.K fd ps []) (tk : Takes X W)
    (ha : PA X (e :: es) (rdA c W g)) (hdb : (x == ("__debug__" : Str)) = false := by decide) (he : starEach (e :: es) X.env = (false, eval e X.env) :: starEach es X.env := by rfl) (hpl : (backTo pos (starEach es X.env)).any (·.1) = false := by rfl) :
    PE X (.Call (.Name x p) (e :: es) [] pos) (rdE c W (makeU k F n g)) :=
  se_of (pe_makeS M Fk hG hr hg hm hb (fun σ => passAt tk σ) ha hdb he hpl) fun σ H Q q => makeU_read q
end

/-! ### kinds, isinstance -/
/-- the built-in type of a value; a screen's class is none -/
def kindD : D → Option String
  | .non => some "NoneType"
  | .bl _ => some "bool"
  | .int _ => some "int"
  | .str _ => some "str"
  | .tup _ => some "tuple"
  | .lst _ => some "list"
  | .edct => some "dict"
  | .scp _ => none
  | .scr _ => none
  | .exn _ _ => none
  | .fn _ => none
  | .opq _ => none
  | .ol _ => none
def kindR (x : R) (S : Sg) : Option String := match x with
  | .p d => kindD d
  | .r n => match S.st[n]? with
    | some (.mu (.lst _)) => some "list"
    | some (.fz _) => some "list"
    | some (.mu (.dct _)) => some "dict"
    | _ => none
/-- what is known of an own class among the built-in ones -/
structure ClsF (K : PySem.W.Frag) (C : Addr) : Prop where
  cl : Cls K C
  ha : PySem.W.findIn K (.ref C) "__class__" = some (some (.builtin "object.__class__"))
  hn : PySem.W.specialIn K (.builtin "object.__class__") "__get__" = some (some (.builtin "getset_descriptor.__get__"))
  tk : PySem.W.takesIn K (.builtin "object.__class__") = some true
  mro : PySem.W.mroIn K C (.type "object") = some true
  self : PySem.W.kitOne K (.ref C) (.ref C) = some true
  isNo : ∀ t ∈ ["NoneType", "bool", "int", "str", "tuple", "list", "dict"], PySem.W.kitOne K (.type t) (.ref C) = some false
  noIs : ∀ t ∈ ["bool", "int", "str", "tuple", "list", "dict"], PySem.W.kitOne K (.ref C) (.type t) = some false
  noSub : ∀ t ∈ ["NoneType", "bool", "int", "str", "tuple", "list", "dict"], PySem.W.subIn K (.type t) (.ref C) = some false
section
variable {X : Cx} {c : Cg} {W : WX} {Γ : Gh} {S : Sg} {σ : L2.St} {H : Hp}
theorem kindD_ok {d : D} {v : V} {t : String} (F : FrOk c Γ S σ H) (hv : Rep c Γ.G d v) (h : kindD d = some t) : TyX c.K H v (.type t) := by
  cases d with
  | non => cases h; rw [Rep.non_iff.mp hv]; exact .base .non
  | bl b => cases h; rw [Rep.bl_iff.mp hv]; exact .base (.bl b)
  | int i => cases h; rw [Rep.int_iff.mp hv]; exact .base (.int i)
  | str s => cases h; rw [Rep.str_iff.mp hv]; exact .base (.str s)
  | tup l =>
    cases h
    obtain ⟨a, vs, rfl, h1, h2⟩ := Rep.tup_iff.mp hv
    rcases h1 with ⟨o, h1, _⟩ | ⟨o, its, n, h1, h2, _⟩
    · exact .fTuple (F.s.g _ _ h1)
    · exact .kTuple h1 h2
  | lst l =>
    cases h
    obtain ⟨a, vs, rfl, h1, h2⟩ := Rep.lst_iff.mp hv
    exact .base (.lst (F.s.g _ _ h1))
  | edct =>
    cases h
    obtain ⟨a, rfl, h1⟩ := Rep.edct_iff.mp hv
    exact .base (.dK (F.s.g _ _ h1))
  | _ => cases h
theorem kindR_ok {x : R} {v : V} {t : String} (F : FrOk c Γ S σ H) (hv : RepR c Γ x v) (h : kindR x S = some t) : TyX c.K H v (.type t) := by
  cases x with
  | p d => exact kindD_ok F hv h
  | r n =>
    obtain ⟨a, ha, rfl⟩ := hv
    unfold kindR at h
    simp only at h
    cases hn : S.st[n]? with
    | none => rw [hn] at h; cases h
    | some y =>
      rw [hn] at h
      cases y with
      | dead => cases h
      | fz l =>
        cases h
        obtain ⟨a', vs, h1, h2, _⟩ := F.s.fro hn
        rw [ha] at h1; cases h1
        exact .base (.lst (F.s.g _ _ h2))
      | mu o =>
        obtain ⟨u, q1, q2, _⟩ := F.s.cell n _ a hn ha
        cases o with
        | lst l =>
          cases h
          obtain ⟨vs, rfl, _⟩ := q2
          exact .base (.lst q1)
        | dct kvs =>
          cases h
          obtain ⟨_, rfl⟩ := q2
          exact .base (.dK q1)
        | dt kvs => cases h
        | obj k fs => cases h
theorem kindR_mem {x : R} {t : String} (h : kindR x S = some t) : t ∈ ["NoneType", "bool", "int", "str", "tuple", "list", "dict"] := by
  cases x with
  | p d => cases d <;> first | (cases h; done) | (cases h; simp)
  | r n =>
    unfold kindR at h
    simp only at h
    split at h <;> first | (cases h; done) | (cases h; simp)
theorem ins_ty {C : Addr} (cf : ClsF c.K C) {a dx : Addr} {fs : List (Str × V)} (h : H a = some (.ins C dx fs)) : TyX c.K H (.ref a) (.ref C) := .base (.ins h cf.cl cf.ha cf.hn cf.tk cf.mro)
/-- is a value of a built-in type one of another -/
def subTy (t n : String) : Bool := t == n || (t == "bool" && n == "int")
theorem kitB_sub : ∀ t ∈ ["NoneType", "bool", "int", "str", "tuple", "list", "dict"], ∀ n ∈ ["bool", "int", "str", "tuple", "list", "dict"], kitB t n = some (subTy t n) := by decide +kernel
end
section
variable {X : Cx} {c : Cg} {W : WX} {e a b cE : Expr} {f : M R} {pos p p1 : Pos} {x : Str}
/-- isinstance(e, n) -/
def isB (n : String) (f : M R) : M R := do
  let x ← f
  fun S => match kindR x S with
    | some t => .ok (.p (.bl (subTy t n))) S
    | none => match insOf x S with
      | some q => if q.1 = 0 then .ok (.p (.bl false)) S else .bad
      | none => .bad
/-- isinstance(e, C), C the class k -/
def isC (k : Nat) (f : M R) : M R := do
  let x ← f
  fun S => match kindR x S with
    | some _ => .ok (.p (.bl false)) S
    | none => match insOf x S with
      | some q => if q.1 = k then .ok (.p (.bl true)) S else .bad
      | none => .bad
theorem isB_read (hK : X.K = c.K) {n : String} (hn : n ∈ ["bool", "int", "str", "tuple", "list", "dict"]) (cf : ClsF c.K (c.cls 0)) {σ : L2.St} {H : Hp} {Q : VK} (q : rdE c W (isB n f) σ H Q) : tCB (rIsi X.K) (tCons (rdE c W f) (tCons (tC (.ty n)) tNil)) σ H Q := by
  obtain ⟨Γ, S, Fo, P⟩ := q
  refine ⟨Γ, S, Fo, (Post.bind P).imp fun x S1 Γ1 H1 e1 F1 ⟨_, P1⟩ v hv => ?_⟩
  show rIsi X.K [v, .ty n] H1 Q
  rw [hK]
  cases hk : kindR x S1 with
  | some t =>
    rw [hk] at P1
    exact ⟨v, .ty n, _, _, _, rfl, .ty n, kindR_ok F1 hv hk, kit_ty (kitB_sub t (kindR_mem hk) n hn), Post.ok (c := c) (W := W) P1 Gh.le.refl F1 _ RepR.mkB⟩
  | none =>
    rw [hk] at P1
    simp only at P1
    cases hi : insOf x S1 with
    | none => rw [hi] at P1; exact P1.elim
    | some q =>
      obtain ⟨k', fs⟩ := q
      rw [hi] at P1
      simp only at P1
      by_cases h0 : k' = 0
      · rw [if_pos h0] at P1
        subst h0
        obtain ⟨a, dx, vs, rfl, h1, h2⟩ := insOf_ok F1 hv hi
        exact ⟨_, .ty n, _, _, _, rfl, .ty n, ins_ty cf h1, cf.noIs n hn, Post.ok (c := c) (W := W) P1 Gh.le.refl F1 _ RepR.mkB⟩
      · rw [if_neg h0] at P1; exact P1.elim
theorem isC_read (hK : X.K = c.K) {k : Nat} (cf : ClsF c.K (c.cls k)) {σ : L2.St} {H : Hp} {Q : VK} (q : rdE c W (isC k f) σ H Q) : tCB (rIsi X.K) (tCons (rdE c W f) (tCons (tC (.ref (c.cls k))) tNil)) σ H Q := by
  obtain ⟨Γ, S, Fo, P⟩ := q
  refine ⟨Γ, S, Fo, (Post.bind P).imp fun x S1 Γ1 H1 e1 F1 ⟨_, P1⟩ v hv => ?_⟩
  show rIsi X.K [v, .ref (c.cls k)] H1 Q
  rw [hK]
  cases hk : kindR x S1 with
  | some t =>
    rw [hk] at P1
    exact ⟨v, _, _, _, _, rfl, .own _, kindR_ok F1 hv hk, cf.isNo t (kindR_mem hk), Post.ok (c := c) (W := W) P1 Gh.le.refl F1 _ RepR.mkB⟩
  | none =>
    rw [hk] at P1
    simp only at P1
    cases hi : insOf x S1 with
    | none => rw [hi] at P1; exact P1.elim
    | some q =>
      obtain ⟨k', fs⟩ := q
      rw [hi] at P1
      simp only at P1
      by_cases h0 : k' = k
      · rw [if_pos h0] at P1
        subst h0
        obtain ⟨a, dx, vs, rfl, h1, h2⟩ := insOf_ok F1 hv hi
        exact ⟨_, _, _, _, _, rfl, .own _, ins_ty cf h1, cf.self, Post.ok (c := c) (W := W) P1 Gh.le.refl F1 _ RepR.mkB⟩
      · rw [if_neg h0] at P1; exact P1.elim
theorem se_isB (hK : X.K = c.K) {n : String} (hn : n ∈ ["bool", "int", "str", "tuple", "list", "dict"]) (cf : ClsF c.K (c.cls 0)) (ha : PE X a (rdE c W f)) (hc : PE X b (tC (.ty n))) (hg : Gl X "isinstance") (hm : X.mg "isinstance" = none)
    (hs : starEach [a, b] X.env = (false, eval a X.env) :: starEach [b] X.env := by rfl) (hs2 : starEach [b] X.env = (false, eval b X.env) :: starEach [] X.env := by rfl) (hpl : (backTo pos (starEach [b] X.env)).any (·.1) = false := by rfl) :
    PE X (.Call (.Name "isinstance" p) [a, b] [] pos) (rdE c W (isB n f)) :=
  se_of (pe_callB call_isi hg hm (by decide +kernel) (pa_cons ha (pa_cons hc pa_nil hs2) hs) (by decide) (by decide) hs hpl) fun σ H Q q => isB_read hK hn cf q
theorem se_isC (hK : X.K = c.K) {k : Nat} (cf : ClsF c.K (c.cls k)) (ha : PE X a (rdE c W f)) (hc : PE X b (tC (.ref (c.cls k)))) (hg : Gl X "isinstance") (hm : X.mg "isinstance" = none)
    (hs : starEach [a, b] X.env = (false, eval a X.env) :: starEach [b] X.env := by rfl) (hs2 : starEach [b] X.env = (false, eval b X.env) :: starEach [] X.env := by rfl) (hpl : (backTo pos (starEach [b] X.env)).any (·.1) = false := by rfl) :
    PE X (.Call (.Name "isinstance" p) [a, b] [] pos) (rdE c W (isC k f)) :=
  se_of (pe_callB call_isi hg hm (by decide +kernel) (pa_cons ha (pa_cons hc pa_nil hs2) hs) (by decide) (by decide) hs hpl) fun σ H Q q => isC_read hK cf q
end
end Dd

set_option Elab.async false
set_option linter.all false
set_option maxRecDepth 100000
namespace Dd
open PySem PySem.Spec PyProof.Rows L2

/-! ### == of data -/
mutual
def toPy : D → Option PyData
  | .non => some .none
  | .bl b => some (.bool b)
  | .int i => some (.int i)
  | .str s => some (.str s)
  | .tup l => match toPyL l with
    | some xs => some (.tuple xs)
    | none => none
  | .lst l => match toPyL l with
    | some xs => some (.list xs)
    | none => none
  | .scp l => match toPyL l with
    | some xs => some (.list xs)
    | none => none
  | .scr _ => none
  | .edct => none
  | .exn _ _ => none
  | .fn _ => none
  | .opq _ => none
  | .ol _ => none
def toPyL : List D → Option (List PyData)
  | [] => some []
  | d :: ds => match toPy d with
    | some x => match toPyL ds with
      | some xs => some (x :: xs)
      | none => none
    | none => none
end
mutual
theorem toPy_dp {c : Cg} {G : Hp} : ∀ {d : D} {e : PyData} {v : V}, toPy d = some e → Rep c G d v → Dp c.K G v e
  | .non, e, v, h, r => by unfold toPy at h; cases h; rw [Rep.non_iff.mp r]; exact .non
  | .bl b, e, v, h, r => by unfold toPy at h; cases h; rw [Rep.bl_iff.mp r]; exact .bl b
  | .int i, e, v, h, r => by unfold toPy at h; cases h; rw [Rep.int_iff.mp r]; exact .int i
  | .str s, e, v, h, r => by unfold toPy at h; cases h; rw [Rep.str_iff.mp r]; exact .str s
  | .tup l, e, v, h, r => by
    unfold toPy at h
    cases q : toPyL l with
    | none => rw [q] at h; cases h
    | some xs =>
      rw [q] at h; cases h
      obtain ⟨a, vs, rfl, h1, h2⟩ := Rep.tup_iff.mp r
      exact .tup h1.sq (toPyL_dp q h2)
  | .lst l, e, v, h, r => by
    unfold toPy at h
    cases q : toPyL l with
    | none => rw [q] at h; cases h
    | some xs =>
      rw [q] at h; cases h
      obtain ⟨a, vs, rfl, h1, h2⟩ := Rep.lst_iff.mp r
      exact .lst (.inl (.inl h1)) (toPyL_dp q h2)
  | .scp l, e, v, h, r => by
    unfold toPy at h
    cases q : toPyL l with
    | none => rw [q] at h; cases h
    | some xs =>
      rw [q] at h; cases h
      obtain ⟨a, vs, rfl, h1, h2⟩ := Rep.scp_iff.mp r
      exact .lst h1 (toPyL_dp q h2)
  | .scr _, e, v, h, r => by unfold toPy at h; cases h
  | .edct, e, v, h, r => by unfold toPy at h; cases h
  | .fn _, e, v, h, r => by unfold toPy at h; cases h
  | .opq _, e, v, h, r => by unfold toPy at h; cases h
  | .ol _, e, v, h, r => by unfold toPy at h; cases h
  | .exn _ _, e, v, h, r => by unfold toPy at h; cases h
theorem toPyL_dp {c : Cg} {G : Hp} : ∀ {ds : List D} {es : List PyData} {vs : List V}, toPyL ds = some es → RepL c G ds vs → DpAll c.K G vs es
  | [], es, vs, h, r => by unfold toPyL at h; cases h; rw [RepL.nil_iff.mp r]; exact .nil
  | d :: ds, es, vs, h, r => by
    unfold toPyL at h
    cases q : toPy d with
    | none => rw [q] at h; cases h
    | some x =>
      rw [q] at h
      simp only at h
      cases q2 : toPyL ds with
      | none => rw [q2] at h; cases h
      | some xs =>
        rw [q2] at h; cases h
        obtain ⟨v, r', rfl, h1, h2⟩ := RepL.cons_iff.mp r
        exact .cons (toPy_dp q h1) (toPyL_dp q2 h2)
end
mutual
theorem Dp.mono {K : PySem.W.Frag} {H H' : Hp} (e : Ext H H') : ∀ {d : PyData} {v : V}, Dp K H v d → Dp K H' v d
  | .none, _, h => by cases h; exact .non
  | .bool b, _, h => by cases h; exact .bl b
  | .int b, _, h => by cases h; exact .int b
  | .str b, _, h => by cases h; exact .str b
  | .list ds, _, h => by
    cases h with
    | lst h1 h2 => exact .lst (SqL.mono e h1) (DpAll.mono e h2)
  | .tuple ds, _, h => by
    cases h with
    | tup h1 h2 => exact .tup (SqT.mono e h1) (DpAll.mono e h2)
  | .dict _, _, h => by cases h
theorem DpAll.mono {K : PySem.W.Frag} {H H' : Hp} (e : Ext H H') : ∀ {ds : List PyData} {vs : List V}, DpAll K H vs ds → DpAll K H' vs ds
  | [], _, h => by cases h; exact .nil
  | d :: ds, _, h => by
    cases h with
    | cons h1 h2 => exact .cons (Dp.mono e h1) (DpAll.mono e h2)
end
/-- a value as data, looked at -/
def dataR (x : R) (S : Sg) : Option PyData := match x with
  | .p d => toPy d
  | .r n => match getLst (.r n) S with
    | some l => match toPyL l with
      | some xs => some (.list xs)
      | none => none
    | none => none
/-- == on data, and of a screen with anything by its own method -/
def opEqD : R → R → M R := fun x y S => match dataR x S with
  | some d => match dataR y S with
    | some e => if SeqAt.shaped d = true ∧ SeqAt.shaped e = true then .ok (.p (.bl (PyData.eqv d e))) S else .bad
    | none => .bad
  | none => .bad
def opNeD : R → R → M R := fun x y S => match dataR x S with
  | some d => match dataR y S with
    | some e => if SeqAt.shaped d = true ∧ SeqAt.shaped e = true then .ok (.p (.bl (!PyData.eqv d e))) S else .bad
    | none => .bad
  | none => .bad
section
variable {X : Cx} {c : Cg} {W : WX} {a b e : Expr} {f fa fb : M R} {g : M (List R)} {pos : Pos} {Γ : Gh} {S : Sg} {σ : L2.St} {H : Hp}
theorem dataR_ok {x : R} {v : V} {d : PyData} (F : FrOk c Γ S σ H) (hv : RepR c Γ x v) (h : dataR x S = some d) : Dp c.K H v d := by
  cases x with
  | p y => exact Dp.mono F.s.g (toPy_dp h hv)
  | r n =>
    unfold dataR at h
    simp only at h
    cases q : getLst (.r n) S with
    | none => rw [q] at h; cases h
    | some l =>
      rw [q] at h
      simp only at h
      cases q2 : toPyL l with
      | none => rw [q2] at h; cases h
      | some xs =>
        rw [q2] at h; cases h
        obtain ⟨a, vs, rfl, h1, h2⟩ := getLst_ok F hv q
        exact .lst h1 (DpAll.mono F.s.g (toPyL_dp q2 h2))
theorem od_eqD (hK : X.K = c.K) : OpD c W opEqD (rEqD X.K) := by
  intro Γ S σ H x y v w Q F hx hy P
  unfold opEqD at P
  cases h1 : dataR x S with
  | none => rw [h1] at P; exact P.elim
  | some d =>
    rw [h1] at P
    simp only at P
    cases h2 : dataR y S with
    | none => rw [h2] at P; exact P.elim
    | some e =>
      rw [h2] at P
      simp only at P
      by_cases h : SeqAt.shaped d = true ∧ SeqAt.shaped e = true
      · rw [if_pos h] at P
        exact ⟨d, e, hK ▸ dataR_ok F hx h1, hK ▸ dataR_ok F hy h2, h.1, h.2, Post.ok (c := c) (W := W) P Gh.le.refl F _ RepR.mkB⟩
      · rw [if_neg h] at P; exact P.elim
theorem od_neD (hK : X.K = c.K) : OpD c W opNeD (rNeD X.K) := by
  intro Γ S σ H x y v w Q F hx hy P
  unfold opNeD at P
  cases h1 : dataR x S with
  | none => rw [h1] at P; exact P.elim
  | some d =>
    rw [h1] at P
    simp only at P
    cases h2 : dataR y S with
    | none => rw [h2] at P; exact P.elim
    | some e =>
      rw [h2] at P
      simp only at P
      by_cases h : SeqAt.shaped d = true ∧ SeqAt.shaped e = true
      · rw [if_pos h] at P
        exact ⟨d, e, hK ▸ dataR_ok F hx h1, hK ▸ dataR_ok F hy h2, h.1, h.2, Post.ok (c := c) (W := W) P Gh.le.refl F _ RepR.mkB⟩
      · rw [if_neg h] at P; exact P.elim
def notN (f : M R) : M R := do
  let x ← f
  fun S => match x with
    | .p .non => .ok (.p (.bl false)) S
    | _ => .ok (.p (.bl true)) S
theorem non_iff {Γ : Gh} {x : R} {v : V} (h : RepR c Γ x v) : v = .non ↔ x = .p .non := by
  constructor
  · intro e
    subst e
    cases x with
    | r n => obtain ⟨a, _, h2⟩ := h; cases h2
    | p d =>
      cases d with
      | non => rfl
      | bl b => cases RepR.bl h
      | int b => cases RepR.int h
      | str b => cases RepR.str h
      | tup l => obtain ⟨_, _, h, _⟩ := Rep.tup_iff.mp (RepR.pure.mp h); cases h
      | lst l => obtain ⟨_, _, h, _⟩ := Rep.lst_iff.mp (RepR.pure.mp h); cases h
      | scp l => obtain ⟨_, _, h, _⟩ := Rep.scp_iff.mp (RepR.pure.mp h); cases h
      | scr l => obtain ⟨_, _, _, _, h, _⟩ := Rep.scr_iff.mp (RepR.pure.mp h); cases h
      | edct => obtain ⟨_, h, _⟩ := Rep.edct_iff.mp (RepR.pure.mp h); cases h
      | fn _ => have h := Rep.fn_iff.mp (RepR.pure.mp h); cases h
      | opq _ => obtain ⟨_, _, _, h, _⟩ := Rep.opq_iff.mp (RepR.pure.mp h); cases h
      | ol _ => exact (Rep.ol_iff.mp (RepR.pure.mp h)).elim
      | exn _ _ => obtain ⟨_, _, h, _⟩ := Rep.exn_iff.mp (RepR.pure.mp h); cases h
  · intro e; subst e; exact RepR.non h
theorem notN_read {σ : L2.St} {H : Hp} {Q : VK} (q : rdE c W (notN f) σ H Q) : tNotN (rdE c W f) σ H Q := by
  obtain ⟨Γ, S, F, P⟩ := q
  refine ⟨Γ, S, F, (Post.bind P).imp fun x S1 Γ1 H1 e1 F1 ⟨_, P1⟩ v hv => ?_⟩
  by_cases h : x = .p .non
  · have hv2 := (non_iff hv).mpr h
    subst hv2
    subst h
    exact Post.ok (c := c) (W := W) P1 Gh.le.refl F1 _ RepR.mkB
  · have hv2 : ¬ v = .non := fun e => h ((non_iff hv).mp e)
    dsimp only
    rw [decide_eq_false hv2]
    cases x with
    | r n => exact Post.ok (c := c) (W := W) P1 Gh.le.refl F1 _ RepR.mkB
    | p d =>
      cases d with
      | non => exact (h rfl).elim
      | _ => exact Post.ok (c := c) (W := W) P1 Gh.le.refl F1 _ RepR.mkB
theorem st_notN {j pos'} (h : PE X a (rdE c W f)) : PT X (.Compare a [.IsNot] [.Constant .none j pos'] pos) (rdT c W (tst (notN f))) := st_of (pt_cmp (pc_notN h)) fun σ H Q q => notN_read (tst_read q)
end
end Dd

set_option Elab.async false
set_option linter.all false
set_option maxRecDepth 100000
namespace Dd
open PySem PySem.Spec PyProof.Rows L2

/-! ### built-in functions -/
section
variable {X : Cx} {c : Cg} {W : WX} {a b e : Expr} {f fa fb : M R} {g : M (List R)} {pos : Pos}
/-- one argument -/
def op1 (op : R → M R) : List R → M R := fun xs => match xs with
  | [x] => op x
  | _ => bad
def OneD (c : Cg) (W : WX) (op : R → M R) (r : V → Hp → VK → Prop) : Prop :=
  ∀ (Γ : Gh) (S : Sg) (σ : L2.St) (H : Hp) (x : R) (v : V) (Q : VK), FrOk c Γ S σ H → RepR c Γ x v →
    Post c W σ Γ (op x S) (fun z S' Γ' H' => ∀ u, RepR c Γ' z u → Q u H') → r v H Q
theorem cd_one {op : R → M R} {r : V → Hp → VK → Prop} {rl : List V → Hp → VK → Prop} (h : OneD c W op r) (hl : ∀ v H Q, r v H Q → rl [v] H Q) : CallD c W (op1 op) rl := by
  intro Γ S σ H xs vs Q F hxs P
  cases xs with
  | nil => exact P.elim
  | cons x r =>
    cases r with
    | cons y ys => exact P.elim
    | nil =>
      obtain ⟨v, rfl, hv⟩ := one_arg hxs
      exact hl v H Q (h Γ S σ H x v Q F hv P)
def opLen : R → M R := fun x S => match getL x S with
  | some l => .ok (.p (.int (l.length : Nat))) S
  | none => match x with
    | .p (.str z) => if z.length ≤ sizeLine then .ok (.p (.int (z.length : Nat))) S else .bad
    | _ => .bad
theorem call_lenA : CallR X (.builtin "len") (fun xs H Q => (∃ p ys, xs = [.ref p] ∧ (SqL X.K H p ys ∨ SqT X.K H p ys) ∧ Q (.int ys.length) H) ∨ ∃ z, xs = [.str z] ∧ z.length ≤ sizeLine ∧ Q (.int z.length) H) := CallR.or call_len_seq call_len_str
theorem cd_len (hK : X.K = c.K) : CallD c W (op1 opLen) (fun xs H Q => (∃ p ys, xs = [.ref p] ∧ (SqL X.K H p ys ∨ SqT X.K H p ys) ∧ Q (.int ys.length) H) ∨ ∃ z, xs = [.str z] ∧ z.length ≤ sizeLine ∧ Q (.int z.length) H) :=
  cd_one (r := fun v H Q => (∃ p ys, v = .ref p ∧ (SqL X.K H p ys ∨ SqT X.K H p ys) ∧ Q (.int ys.length) H) ∨ ∃ z, v = .str z ∧ z.length ≤ sizeLine ∧ Q (.int z.length) H) (by
    intro Γ S σ H x v Q F hv P
    unfold opLen at P
    cases hl : getL x S with
    | some l =>
      rw [hl] at P
      obtain ⟨a, vs, rfl, h1, h2⟩ := getL_ok F hv hl
      exact .inl ⟨a, vs, rfl, hK ▸ h1, by rw [h2.length]; exact Post.ok (c := c) (W := W) P Gh.le.refl F _ RepR.mkI⟩
    | none =>
      rw [hl] at P
      cases x with
      | r n => exact P.elim
      | p d =>
        cases d with
        | str z =>
          have P : Post c W σ Γ (if z.length ≤ sizeLine then Res.ok (R.p (.int (z.length : Nat))) S else .bad) (fun z S' Γ' H' => ∀ u, RepR c Γ' z u → Q u H') := P
          by_cases hz : z.length ≤ sizeLine
          · rw [if_pos hz] at P
            exact .inr ⟨z, RepR.str hv, hz, Post.ok (c := c) (W := W) P Gh.le.refl F _ RepR.mkI⟩
          · rw [if_neg hz] at P; exact P.elim
        | _ => exact P.elim) (fun v H Q h => by
    rcases h with ⟨p, ys, rfl, h⟩ | ⟨z, rfl, h⟩
    · exact .inl ⟨p, ys, rfl, h⟩
    · exact .inr ⟨z, rfl, h⟩)
/-- int(x) of an int, of a truth -/
def opInt : R → M R := fun x S => match x with
  | .p (.int i) => .ok (.p (.int i)) S
  | .p (.bl b) => .ok (.p (.int (if b = true then 1 else 0))) S
  | _ => .bad
theorem cd_int : CallD c W (op1 opInt) (fun xs H Q => (∃ i, xs = [.int i] ∧ Q (.int i) H) ∨ ∃ k, xs = [.bl k] ∧ Q (.int (if k then 1 else 0)) H) :=
  cd_one (r := fun v H Q => (∃ i, v = .int i ∧ Q (.int i) H) ∨ ∃ k, v = .bl k ∧ Q (.int (if k = true then 1 else 0)) H) (by
    intro Γ S σ H x v Q F hv P
    cases x with
    | r n => exact P.elim
    | p d =>
      cases d with
      | int i => exact .inl ⟨i, RepR.int hv, Post.ok (c := c) (W := W) P Gh.le.refl F _ RepR.mkI⟩
      | bl k => exact .inr ⟨k, RepR.bl hv, Post.ok (c := c) (W := W) P Gh.le.refl F _ RepR.mkI⟩
      | _ => exact P.elim) (fun v H Q h => by
    rcases h with ⟨i, rfl, h⟩ | ⟨k, rfl, h⟩
    · exact .inl ⟨i, rfl, h⟩
    · exact .inr ⟨k, rfl, h⟩)
def opMax2 : List R → M R := fun xs S => match asI2 xs with
  | some q => .ok (.p (.int (max q.1 q.2))) S
  | none => .bad
def opMin2 : List R → M R := fun xs S => match asI2 xs with
  | some q => .ok (.p (.int (min q.1 q.2))) S
  | none => .bad
theorem cd_max2 : CallD c W opMax2 (fun xs H Q => ∃ i j, xs = [.int i, .int j] ∧ Q (.int (if j > i then j else i)) H) := by
  intro Γ S σ H xs vs Q F hxs P
  unfold opMax2 at P
  cases q : asI2 xs with
  | none => rw [q] at P; exact P.elim
  | some ij =>
    obtain ⟨i, j⟩ := ij
    rw [q] at P
    refine ⟨i, j, ints2 hxs q, ?_⟩
    have e : (if j > i then j else i) = max i j := by rw [Int.max_def]; split <;> split <;> omega
    rw [e]
    exact Post.ok (c := c) (W := W) P Gh.le.refl F _ RepR.mkI
theorem cd_min2 : CallD c W opMin2 (fun xs H Q => ∃ i j, xs = [.int i, .int j] ∧ Q (.int (if j < i then j else i)) H) := by
  intro Γ S σ H xs vs Q F hxs P
  unfold opMin2 at P
  cases q : asI2 xs with
  | none => rw [q] at P; exact P.elim
  | some ij =>
    obtain ⟨i, j⟩ := ij
    rw [q] at P
    refine ⟨i, j, ints2 hxs q, ?_⟩
    have e : (if j < i then j else i) = min i j := by rw [Int.min_def]; split <;> split <;> omega
    rw [e]
    exact Post.ok (c := c) (W := W) P Gh.le.refl F _ RepR.mkI
def opAbs : R → M R := fun x S => match x with
  | .p (.int i) => .ok (.p (.int (if i < 0 then -i else i))) S
  | _ => .bad
/-- truths -/
def blsOf : List D → Option (List Bool)
  | [] => some []
  | .bl i :: r => match blsOf r with
    | some l => some (i :: l)
    | none => none
  | _ => none
theorem blsOf_some : ∀ {l : List D} {ns : List Bool}, blsOf l = some ns → l = ns.map D.bl
  | [], ns, h => by cases h; rfl
  | d :: r, ns, h => by
    cases d with
    | bl i =>
      unfold blsOf at h
      cases q : blsOf r with
      | none => rw [q] at h; cases h
      | some l => rw [q] at h; cases h; rw [blsOf_some q]; rfl
    | _ => cases h
def opAll : R → M R := fun x S => match getLst x S with
  | some l => match blsOf l with
    | some bs => .ok (.p (.bl (bs.all id))) S
    | none => .bad
  | none => .bad
def opSum : R → M R := fun x S => match getLst x S with
  | some l => match intsOf l with
    | some ns => .ok (.p (.int ns.sum)) S
    | none => .bad
  | none => .bad
theorem cd_all (hK : X.K = c.K) : CallD c W (op1 opAll) (rAll X.K) :=
  cd_one (r := fun v H Q => rAll X.K [v] H Q) (by
    intro Γ S σ H x v Q F hv P
    unfold opAll at P
    cases hl : getLst x S with
    | none => rw [hl] at P; exact P.elim
    | some l =>
      rw [hl] at P
      simp only at P
      cases hb : blsOf l with
      | none => rw [hb] at P; exact P.elim
      | some bs =>
        rw [hb] at P
        obtain ⟨a, vs, rfl, h1, h2⟩ := getLst_ok F hv hl
        rw [blsOf_some hb] at h2
        rw [h2.bls] at h1
        exact ⟨a, bs, rfl, hK ▸ h1, Post.ok (c := c) (W := W) P Gh.le.refl F _ RepR.mkB⟩) (fun v H Q h => h)
theorem cd_sum (hK : X.K = c.K) : CallD c W (op1 opSum) (rSum X.K) :=
  cd_one (r := fun v H Q => rSum X.K [v] H Q) (by
    intro Γ S σ H x v Q F hv P
    unfold opSum at P
    cases hl : getLst x S with
    | none => rw [hl] at P; exact P.elim
    | some l =>
      rw [hl] at P
      simp only at P
      cases hb : intsOf l with
      | none => rw [hb] at P; exact P.elim
      | some bs =>
        rw [hb] at P
        obtain ⟨a, vs, rfl, h1, h2⟩ := getLst_ok F hv hl
        rw [intsOf_some hb] at h2
        rw [h2.ints] at h1
        exact ⟨a, bs, rfl, hK ▸ h1, Post.ok (c := c) (W := W) P Gh.le.refl F _ RepR.mkI⟩) (fun v H Q h => h)
/-- list(x): a new list -/
def opList : R → M R := fun x S => match getL x S with
  | some l => .ok (.r S.st.length) { S with st := S.st ++ [.mu (.lst l)] }
  | none => .bad
theorem cd_list (hK : X.K = c.K) : CallD c W (op1 opList) (fun xs H Q => ∃ p ys, xs = [.ref p] ∧ (SqL X.K H p ys ∨ SqT X.K H p ys) ∧ ∀ l, H l = none → Q (.ref l) (upd H l (.lst ys))) :=
  cd_one (r := fun v H Q => ∃ p ys, v = .ref p ∧ (SqL X.K H p ys ∨ SqT X.K H p ys) ∧ ∀ l, H l = none → Q (.ref l) (upd H l (.lst ys))) (by
    intro Γ S σ H x v Q F hv P
    unfold opList at P
    cases hl : getL x S with
    | none => rw [hl] at P; exact P.elim
    | some l =>
      rw [hl] at P
      obtain ⟨a, vs, rfl, h1, h2⟩ := getL_ok F hv hl
      refine ⟨a, vs, rfl, hK ▸ h1, fun p hp => ?_⟩
      obtain ⟨Γ3, e3, F3, r3⟩ := newL_ok F h2 hp
      exact Post.ok (c := c) (W := W) P e3 F3 _ r3) (fun v H Q h => by obtain ⟨p, ys, rfl, h⟩ := h; exact ⟨p, ys, rfl, h⟩)
/-- tuple(x) -/
def opTuple : R → M R := fun x S => match x with
  | .p (.tup l) => .ok (.p (.tup l)) S
  | x => match getLst x S with
    | some l => .ok (.p (.tup l)) S
    | none => .bad
def rTupF (K : PySem.W.Frag) : List V → Hp → VK → Prop := fun xs H Q => ∃ p ys, xs = [.ref p] ∧ ((SqL K H p ys ∧ ∀ l o, H l = none → o.dict = none → Q (.ref l) (upd H l (.frz o (.tup ys)))) ∨ (SqT K H p ys ∧ Q (.ref p) H))
theorem call_tupF : CallR X (.type "tuple") (rTupF X.K) := by
  intro pins s σ H xs us Q I r h
  obtain ⟨p, ys, rfl, h⟩ := h
  obtain ⟨u, rfl, rx⟩ := vals1 r
  cases rx
  rcases h with ⟨hq, q⟩ | ⟨hq, q⟩
  · obtain ⟨its, r', pl, hz⟩ := I.list hq
    have hlen := r'.length
    have hsl := sizeLine_eq
    refine call_tuple_list pl.isList (fun h' kp => ?_) (by simp only [List.size_toArray] <;> omega)
    have I1 : L2.Inv X pins σ H { s with heap := h' } := I.kept (t' := s.toks) kp
    have I2 : L2.Inv X pins σ (upd H h'.objs.size (.frz { cls := .type "tuple", data := .seq its.toArray } (.tup ys))) { s with heap := h'.push { cls := .type "tuple", data := .seq its.toArray } } :=
      I1.laid (t' := s.toks) (fun b o e => Heap.get?_push_of_some _ e) (Nat.le_refl _) ⟨Heap.get?_push_size _ rfl, hz, its, r', IsTup.new _ _⟩
    exact ⟨.ref h'.objs.size, _, I2, rfl, q _ _ (I1.hok.fresh (Nat.le_refl _)) rfl⟩
  · obtain ⟨its, r', pl, hz⟩ := I.tuple hq
    exact call_tuple_same pl ⟨.ref p, H, I, rfl, q⟩
theorem cd_tuple (hK : X.K = c.K) : CallD c W (op1 opTuple) (rTupF X.K) :=
  cd_one (r := fun v H Q => rTupF X.K [v] H Q) (by
    intro Γ S σ H x v Q F hv P
    have lst : ∀ y : R, RepR c Γ y v → Post c W σ Γ (match getLst y S with | some l => Res.ok (R.p (.tup l)) S | none => .bad) (fun z S' Γ' H' => ∀ u, RepR c Γ' z u → Q u H') → rTupF X.K [v] H Q := fun y hv P => by
      cases hl : getLst y S with
      | none => rw [hl] at P; exact P.elim
      | some l =>
        rw [hl] at P
        obtain ⟨a, vs, rfl, h1, h2⟩ := getLst_ok F hv hl
        refine ⟨a, vs, rfl, .inl ⟨hK ▸ h1, fun p o hp ho => ?_⟩⟩
        obtain ⟨Γ3, e3, F3, r3⟩ := newT_ok F h2 hp ho
        exact Post.ok (c := c) (W := W) P e3 F3 _ r3
    cases x with
    | r n => exact lst _ hv P
    | p d =>
      cases d with
      | tup l =>
        obtain ⟨a, vs, rfl, h1, h2⟩ := Rep.tup_iff.mp (RepR.pure.mp hv)
        exact ⟨a, vs, rfl, .inr ⟨hK ▸ (TupS.mono F.s.g h1).sq, Post.ok (c := c) (W := W) P Gh.le.refl F _ hv⟩⟩
      | lst l => exact lst _ hv P
      | scp l => exact lst _ hv P
      | _ => exact P.elim) (fun v H Q h => h)
end
end Dd

set_option Elab.async false
set_option linter.all false
set_option maxRecDepth 100000
namespace Dd
open PySem PySem.Spec PyProof.Rows L2

/-! ### sorted of a list or a tuple of ints -/
theorem sorted_seqI {prog : Program} {w : World} {A : Around} {E : Value → Shared → Prop} {s : Shared} {l : Addr} {T : String} {o : Obj} {vs : List Value} {ns : List Int} {n : Nat} {Q : Value → Shared → Prop} (hT : T = "list" ∨ T = "tuple")
    (ho : s.heap.get? l = some o) (hc : o.cls = .type T) (hd : o.data = .seq vs.toArray n) (hI : IntsAre vs ns) (hz : vs.length ≤ sizeLine)
    (h : ∀ (h1 h' : Heap) (out : List Value) (ns' : List Int) (e : Nat), IntsAre out ns' → ns'.Perm ns → ns'.Pairwise (· ≤ ·) → (∀ b q, s.heap.get? b = some q → h1.get? b = some q) → (∀ b q, h1.get? b = some q → h'.get? b = some q) → h'.get? h1.objs.size = some (seqObj "list" out.toArray e) → Q (.ref h1.objs.size) { s with heap := h' }) :
    wpAny (model prog w) A (call (.builtin "sorted") [.ref l]) Q E s := by
  refine Calls.call_function_entry kind_sorted plain_sorted entry_sorted (args_sorted1 _) ?_
  unfold Builtin.«sorted»
  refine wpAny_bind (m := checkCount "sorted" 1 1 _) (wpAny_pure ?_)
  refine wpAny_bind (wpAny_collect_seq l hT ho hc hd (fun h1 k1 => ?_) (by rw [List.size_toArray]; exact hz))
  show wpAny _ _ _ _ _ _
  refine wpAny_bind (wpAny_newList (items := vs) ?_ hz)
  have hoL : (h1.push (seqObj "list" vs.toArray 0)).get? h1.objs.size = some (seqObj "list" vs.toArray 0) := Heap.get?_push_size _ rfl
  have keep : ∀ b q, h1.get? b = some q → b ≠ h1.objs.size ∧ (h1.push (seqObj "list" vs.toArray 0)).get? b = some q := fun b q e =>
    ⟨Nat.ne_of_lt (Heap.lt_size e), Heap.get?_push_of_some _ e⟩
  refine wpAny_bind (wpAny_holding (wpAny_call_entry slot_list_sort ⟨_, hoL, rfl⟩ entry_list_sort (SrtO.list_sort_ord SrtO.swo_int hoL hz (fun h2 => SrtO.ints_sortable hI h2) fun out hs hb => ⟨_, rfl, ?_⟩) (args_list_sort _)))
  obtain ⟨q1, q2, q3⟩ := SrtO.ints_out hI hs hb
  obtain ⟨e, he⟩ := sortedHeap_at (out := out.toArray) hoL
  refine wpAny_pure ⟨_, rfl, h h1 _ out _ e q1 q2 q3 k1 (fun b q eb => ?_) he⟩
  obtain ⟨n1, n2⟩ := keep b q eb
  rw [sortedHeap_old n1 (Heap.lt_size n2)]
  exact n2
def sortI (ns : List Int) : List Int := ns.mergeSort (fun a b => decide (a ≤ b))
theorem sortI_eq {ns ns' : List Int} (h1 : ns'.Perm ns) (h2 : ns'.Pairwise (· ≤ ·)) : ns' = sortI ns := by
  have p : (sortI ns).Perm ns := List.mergeSort_perm ns _
  have q : (sortI ns).Pairwise (· ≤ ·) := (List.pairwise_mergeSort (le := fun a b : Int => decide (a ≤ b)) (fun a b c h1 h2 => by simp at *; omega) (fun a b => by simp; omega) ns).imp fun h => by simpa using h
  exact (h1.trans p.symm).eq_of_pairwise (fun a b _ _ h1 h2 => by omega) h2 q
def opSort : R → M R := fun x S => match getL x S with
  | some l => match intsOf l with
    | some ns => .ok (.r S.st.length) { S with st := S.st ++ [.mu (.lst ((sortI ns).map .int))] }
    | none => .bad
  | none => .bad
section
variable {X : Cx} {c : Cg} {W : WX}
def rSortA (K : PySem.W.Frag) : List V → Hp → VK → Prop := fun xs H Q => ∃ a ns, xs = [.ref a] ∧ (SqL K H a (ns.map V.int) ∨ SqT K H a (ns.map V.int)) ∧ ∀ p, H p = none → Q (.ref p) (upd H p (.lst ((sortI ns).map V.int)))
theorem call_sortA : CallR X (.builtin "sorted") (rSortA X.K) := by
  intro pins s σ H xs us Q I r h
  obtain ⟨a, ns, rfl, hs, q⟩ := h
  obtain ⟨u, rfl, rx⟩ := vals1 r
  cases rx
  have all : ∀ (T : String) (its : List Value) (o : Obj) (n : Nat), T = "list" ∨ T = "tuple" → s.heap.get? a = some o → o.cls = .type T → o.data = .seq its.toArray n → Vals (ns.map V.int) its → (ns.map V.int).length ≤ sizeLine →
      wpAny (model X.prog X.w) X.A (call (.builtin "sorted") [.ref a]) (EP X pins σ Q) X.xe s := fun T its o n hT ho hc hd rv hz => by
    refine sorted_seqI hT ho hc hd rv.ints (by rw [← rv.length]; exact hz) fun h1 h' out ns' e q1 q2 q3 k1 k2 ho => ?_
    rw [List.length_map] at hz
    have I1 : L2.Inv X pins σ H { s with heap := h1 } := I.kept (t' := s.toks) k1
    have e' := sortI_eq q2 q3
    subst e'
    exact ⟨.ref h1.objs.size, upd H h1.objs.size (.lst ((sortI ns).map V.int)), I1.laid (t' := s.toks) k2 (Nat.le_refl _) ⟨by rw [List.length_map, q2.length_eq]; exact hz, out, e, vals_of_ints q1, ho⟩, rfl, q _ (I1.hok.fresh (Nat.le_refl _))⟩
  rcases hs with hs | hs
  · obtain ⟨its, rv, pl, hz⟩ := I.list hs
    obtain ⟨o, ho, hc, n, hd⟩ := pl.isList
    exact all _ its o n (.inl rfl) ho hc hd rv hz
  · obtain ⟨its, rv, pl, hz⟩ := I.tuple hs
    obtain ⟨o, ho, hc, n, hd⟩ := pl
    exact all _ its o n (.inr rfl) ho hc hd rv hz
theorem cd_sort (hK : X.K = c.K) : CallD c W (op1 opSort) (rSortA X.K) :=
  cd_one (r := fun v H Q => rSortA X.K [v] H Q) (by
    intro Γ S σ H x v Q F hv P
    unfold opSort at P
    cases hl : getL x S with
    | none => rw [hl] at P; exact P.elim
    | some l =>
      rw [hl] at P
      simp only at P
      cases hb : intsOf l with
      | none => rw [hb] at P; exact P.elim
      | some ns =>
        rw [hb] at P
        obtain ⟨a, vs, rfl, h1, h2⟩ := getL_ok F hv hl
        rw [intsOf_some hb] at h2
        rw [h2.ints] at h1
        refine ⟨a, ns, rfl, hK ▸ h1, fun p hp => ?_⟩
        have h3 : RepL c Γ.G ((sortI ns).map D.int) ((sortI ns).map V.int) := RepL.of_ints _
        obtain ⟨Γ3, e3, F3, r3⟩ := newL_ok F h3 hp
        exact Post.ok (c := c) (W := W) P e3 F3 _ r3) (fun v H Q h => h)
end
end Dd

set_option Elab.async false
set_option linter.all false
set_option maxRecDepth 100000
namespace Dd
open PySem PySem.Spec PyProof.Rows L2

/-! ### the rules in short -/
theorem FnG.mono {P : Program} {w : World} {K : PySem.W.Frag} {mg : Str → Option Value} {base : Heap} {j k : Nat} {f : Addr} {fd : FuncData} {ps : List Str} {sp : Sp} (F : FnG P w K mg base j f fd ps sp) (h : j ≤ k) : FnG P w K mg base k f fd ps sp :=
  ⟨F.len, fun A outer s H args us vs Q E hG hr => F.run A outer s H args us vs Q E hG (hr.mono h)⟩
def opSub : R → R → M R := opI0 fun i j => .int (i - j)
def opDiv : R → R → M R := opI CDivW fun i j => .int (i / j)
def opMod : R → R → M R := opI (fun _ j => 0 < j) fun i j => .int (i % j)
/-- a power of at most 2 ^ 27 bits -/
def CPowW (i j : Int) : Prop := 0 ≤ j ∧ (Builtin.Int.intBits i : Int) * j ≤ 2 ^ 27
instance (i j : Int) : Decidable (CPowW i j) := inferInstanceAs (Decidable (_ ∧ _))
theorem op_powW {X : Cx} : OpR X (binaryOp .Pow) (rI CPowW fun i j => .int (i ^ j.toNat)) := L2.opI fun _ _ _ _ _ _ _ hc q => pow_int hc.1 hc.2 q
def opPow : R → R → M R := opI CPowW fun i j => .int (i ^ j.toNat)
def opShl : R → R → M R := opI CShl fun i j => .int (i * 2 ^ j.toNat)
def opShr : R → R → M R := opI (fun _ j => 0 ≤ j) fun i j => .int (i / 2 ^ j.toNat)
def opBand : R → R → M R := opI0 fun i j => .int (Builtin.bitAnd i j)
def opLt : R → R → M R := opI0 fun i j => .bl (decide (i < j))
def opLe : R → R → M R := opI0 fun i j => .bl (decide (i ≤ j))
def opGt : R → R → M R := opI0 fun i j => .bl (decide (j < i))
def opGe : R → R → M R := opI0 fun i j => .bl (decide (j ≤ i))
def un1 (g : Int → D) (f : M R) : M R := do
  let x ← f
  fun S => match x with
    | .p (.int i) => .ok (.p (g i)) S
    | _ => .bad
def uNeg : M R → M R := un1 fun i => .int (-i)
section
variable {X : Cx} {c : Cg} {W : WX} {a b e o : Expr} {es : List Expr} {f fa fb fc : M R} {g : M (List R)} {p pos apos : Pos}
theorem repI {G : Hp} {i : Int} : Rep c G (.int i) (.int i) := Rep.int_iff.mpr rfl
theorem repB {G : Hp} {i : Bool} : Rep c G (.bl i) (.bl i) := Rep.bl_iff.mpr rfl
theorem hu64 {k : Nat} {A : Around} (hr : Room k A) : A.units + 64 < cLine := by have := hr.un; omega
theorem e_neg (h : PE X a (rdE c W f)) : PE X (.UnaryOp .USub a pos) (rdE c W (uNeg f)) := se_of (pe_un un_neg h) fun σ H Q q => by
  obtain ⟨Γ, S, F, P⟩ := q
  refine ⟨Γ, S, F, (Post.bind P).imp fun x S1 Γ1 H1 e1 F1 ⟨_, P1⟩ v hv => ?_⟩
  cases x with
  | r n => exact P1.elim
  | p d =>
    cases d with
    | int i =>
      have := RepR.int hv
      subst this
      exact ⟨i, rfl, Post.ok (c := c) (W := W) P1 Gh.le.refl F1 _ RepR.mkI⟩
    | _ => exact P1.elim
theorem v_ (i : Nat) {x : Str} (hN : X.N[i]? = some x := by rfl) (hv : Vis X.env.scope x := by first | exact Or.inl rfl | exact Or.inr (Or.inl rfl) | exact Or.inr (Or.inr rfl)) (hd : (x == ("__debug__" : Str)) = false := by decide)
    (hcd : (x == ("__classdict__" : Str)) = false := by decide) : PE X (.Name x pos) (rdE c W (vr i)) := se_var (pv i hN hv hd hcd)
theorem e_add (ha : PE X a (rdE c W fa)) (hb : PE X b (rdE c W fb)) : PE X (.BinOp a .Add b pos) (rdE c W (bin opAdd fa fb)) := se_bin op_addA od_add ha hb
theorem e_sub (ha : PE X a (rdE c W fa)) (hb : PE X b (rdE c W fb)) : PE X (.BinOp a .Sub b pos) (rdE c W (bin opSub fa fb)) := se_bin op_sub (od_I0 fun _ _ _ => repI) ha hb
theorem e_mul (ha : PE X a (rdE c W fa)) (hb : PE X b (rdE c W fb)) : PE X (.BinOp a .Mult b pos) (rdE c W (bin opMul fa fb)) := se_bin op_mulA od_mul ha hb
theorem e_div (ha : PE X a (rdE c W fa)) (hb : PE X b (rdE c W fb)) : PE X (.BinOp a .FloorDiv b pos) (rdE c W (bin opDiv fa fb)) := se_bin op_fdivW (od_I fun _ _ _ => repI) ha hb
theorem e_mod (ha : PE X a (rdE c W fa)) (hb : PE X b (rdE c W fb)) : PE X (.BinOp a .Mod b pos) (rdE c W (bin opMod fa fb)) := se_bin op_mod (od_I fun _ _ _ => repI) ha hb
theorem e_pow (ha : PE X a (rdE c W fa)) (hb : PE X b (rdE c W fb)) : PE X (.BinOp a .Pow b pos) (rdE c W (bin opPow fa fb)) := se_bin op_powW (od_I fun _ _ _ => repI) ha hb
theorem e_shl (ha : PE X a (rdE c W fa)) (hb : PE X b (rdE c W fb)) : PE X (.BinOp a .LShift b pos) (rdE c W (bin opShl fa fb)) := se_bin op_shlW (od_I fun _ _ _ => repI) ha hb
theorem e_shr (ha : PE X a (rdE c W fa)) (hb : PE X b (rdE c W fb)) : PE X (.BinOp a .RShift b pos) (rdE c W (bin opShr fa fb)) := se_bin op_shr (od_I fun _ _ _ => repI) ha hb
theorem e_band (ha : PE X a (rdE c W fa)) (hb : PE X b (rdE c W fb)) : PE X (.BinOp a .BitAnd b pos) (rdE c W (bin opBand fa fb)) := se_bin op_and (od_I0 fun _ _ _ => repI) ha hb
theorem t_lt (ha : PE X a (rdE c W fa)) (hb : PE X b (rdE c W fb)) (hm : behindInMarks .Lt b = false := by rfl) : PT X (.Compare a [.Lt] [b] pos) (rdT c W (tst (bin opLt fa fb))) := st_cmp op_lt (od_I0 fun _ _ _ => repB) ha hb hm
theorem t_gt (ha : PE X a (rdE c W fa)) (hb : PE X b (rdE c W fb)) (hm : behindInMarks .Gt b = false := by rfl) : PT X (.Compare a [.Gt] [b] pos) (rdT c W (tst (bin opGt fa fb))) := st_cmp op_gt (od_I0 fun _ _ _ => repB) ha hb hm
theorem t_ge (ha : PE X a (rdE c W fa)) (hb : PE X b (rdE c W fb)) (hm : behindInMarks .GtE b = false := by rfl) : PT X (.Compare a [.GtE] [b] pos) (rdT c W (tst (bin opGe fa fb))) := st_cmp op_ge (od_I0 fun _ _ _ => repB) ha hb hm
theorem e_eq {k : Nat} (hr : Room k X.A) (hK : X.K = c.K) (ha : PE X a (rdE c W fa)) (hb : PE X b (rdE c W fb)) (hm : behindInMarks .Eq b = false := by rfl) : PE X (.Compare a [.Eq] [b] pos) (rdE c W (bin opEqD fa fb)) := se_cmp (op_eqD (hu64 hr)) (od_eqD hK) ha hb hm
theorem t_eq {k : Nat} (hr : Room k X.A) (hK : X.K = c.K) (ha : PE X a (rdE c W fa)) (hb : PE X b (rdE c W fb)) (hm : behindInMarks .Eq b = false := by rfl) : PT X (.Compare a [.Eq] [b] pos) (rdT c W (tst (bin opEqD fa fb))) := st_cmp (op_eqD (hu64 hr)) (od_eqD hK) ha hb hm
theorem t_ne {k : Nat} (hr : Room k X.A) (hK : X.K = c.K) (ha : PE X a (rdE c W fa)) (hb : PE X b (rdE c W fb)) (hm : behindInMarks .NotEq b = false := by rfl) : PT X (.Compare a [.NotEq] [b] pos) (rdT c W (tst (bin opNeD fa fb))) := st_cmp (op_neD (hu64 hr)) (od_neD hK) ha hb hm
theorem type_app : typeOf (.builtin "list.append") = pure (.type "method_descriptor") := by show builtinType _ = _; rw [builtinType_eq_fast]; kernel_rfl
theorem type_pop : typeOf (.builtin "list.pop") = pure (.type "method_descriptor") := by show builtinType _ = _; rw [builtinType_eq_fast]; kernel_rfl
theorem type_tidx : typeOf (.builtin "tuple.index") = pure (.type "method_descriptor") := by show builtinType _ = _; rw [builtinType_eq_fast]; kernel_rfl
end
end Dd

set_option Elab.async false
set_option linter.all false
set_option maxRecDepth 100000
namespace Dd
open PySem PySem.Spec PyProof.Rows L2
section
variable {X : Cx} {c : Cg} {W : WX} {a b e o : Expr} {es : List Expr} {f fa fb fc : M R} {g : M (List R)} {p pos apos : Pos} {k : Nat}
theorem e_len (hK : X.K = c.K) (hm : X.mg "len" = none) (ha : PE X a (rdE c W f)) (hg : Gl X "len" := by rfl) (he : starEach [a] X.env = (false, eval a X.env) :: starEach [] X.env := by rfl) (hpl : (backTo pos (starEach [] X.env)).any (·.1) = false := by rfl) :
    PE X (.Call (.Name "len" p) [a] [] pos) (rdE c W (opA (op1 opLen) (aC f aN))) := se_callB call_lenA (cd_len hK) hg hm (by decide +kernel) (sa_cons ha sa_nil he) (by decide) (by decide) he hpl
theorem e_int (hm : X.mg "int" = none) (ha : PE X a (rdE c W f)) (hg : Gl X "int" := by rfl) (he : starEach [a] X.env = (false, eval a X.env) :: starEach [] X.env := by rfl) (hpl : (backTo pos (starEach [] X.env)).any (·.1) = false := by rfl) :
    PE X (.Call (.Name "int" p) [a] [] pos) (rdE c W (opA (op1 opInt) (aC f aN))) := se_callTy call_int1 cd_int hg hm (by decide +kernel) (sa_cons ha sa_nil he) (by decide) (by decide) he hpl
theorem e_all (hK : X.K = c.K) (hc : X.calm = true) (hm : X.mg "all" = none) (ha : PE X a (rdE c W f)) (hg : Gl X "all" := by rfl) (he : starEach [a] X.env = (false, eval a X.env) :: starEach [] X.env := by rfl) (hpl : (backTo pos (starEach [] X.env)).any (·.1) = false := by rfl) :
    PE X (.Call (.Name "all" p) [a] [] pos) (rdE c W (opA (op1 opAll) (aC f aN))) := se_callB (cr_all hc) (cd_all hK) hg hm (by decide +kernel) (sa_cons ha sa_nil he) (by decide) (by decide) he hpl
theorem e_sum (hK : X.K = c.K) (hc : X.calm = true) (hm : X.mg "sum" = none) (ha : PE X a (rdE c W f)) (hg : Gl X "sum" := by rfl) (he : starEach [a] X.env = (false, eval a X.env) :: starEach [] X.env := by rfl) (hpl : (backTo pos (starEach [] X.env)).any (·.1) = false := by rfl) :
    PE X (.Call (.Name "sum" p) [a] [] pos) (rdE c W (opA (op1 opSum) (aC f aN))) := se_callB (cr_sum hc) (cd_sum hK) hg hm (by decide +kernel) (sa_cons ha sa_nil he) (by decide) (by decide) he hpl
theorem e_list (hK : X.K = c.K) (hc : X.calm = true) (hm : X.mg "list" = none) (ha : PE X a (rdE c W f)) (hg : Gl X "list" := by rfl) (he : starEach [a] X.env = (false, eval a X.env) :: starEach [] X.env := by rfl) (hpl : (backTo pos (starEach [] X.env)).any (·.1) = false := by rfl) :
    PE X (.Call (.Name "list" p) [a] [] pos) (rdE c W (opA (op1 opList) (aC f aN))) := se_callTy call_list_of (cd_list hK) hg hm (by decide +kernel) (sa_cons ha sa_nil he) (by decide) (by decide) he hpl
theorem e_tuple (hK : X.K = c.K) (hm : X.mg "tuple" = none) (ha : PE X a (rdE c W f)) (hg : Gl X "tuple" := by rfl) (he : starEach [a] X.env = (false, eval a X.env) :: starEach [] X.env := by rfl) (hpl : (backTo pos (starEach [] X.env)).any (·.1) = false := by rfl) :
    PE X (.Call (.Name "tuple" p) [a] [] pos) (rdE c W (opA (op1 opTuple) (aC f aN))) := se_callTy call_tupF (cd_tuple hK) hg hm (by decide +kernel) (sa_cons ha sa_nil he) (by decide) (by decide) he hpl
theorem e_sorted (hK : X.K = c.K) (hm : X.mg "sorted" = none) (ha : PE X a (rdE c W f)) (hg : Gl X "sorted" := by rfl) (he : starEach [a] X.env = (false, eval a X.env) :: starEach [] X.env := by rfl) (hpl : (backTo pos (starEach [] X.env)).any (·.1) = false := by rfl) :
    PE X (.Call (.Name "sorted" p) [a] [] pos) (rdE c W (opA (op1 opSort) (aC f aN))) := se_callB call_sortA (cd_sort hK) hg hm (by decide +kernel) (sa_cons ha sa_nil he) (by decide) (by decide) he hpl
theorem e_max2 (hc : X.calm = true) (hm : X.mg "max" = none) (ha : PE X a (rdE c W fa)) (hb : PE X b (rdE c W fb)) (hg : Gl X "max" := by rfl) (he : starEach [a, b] X.env = (false, eval a X.env) :: starEach [b] X.env := by rfl) (he2 : starEach [b] X.env = (false, eval b X.env) :: starEach [] X.env := by rfl) (hpl : (backTo pos (starEach [b] X.env)).any (·.1) = false := by rfl) :
    PE X (.Call (.Name "max" p) [a, b] [] pos) (rdE c W (opA opMax2 (aC fa (aC fb aN)))) := se_callB (call_max2 hc) cd_max2 hg hm (by decide +kernel) (sa_cons ha (sa_cons hb sa_nil he2) he) (by decide) (by decide) he hpl
theorem e_min2 (hc : X.calm = true) (hm : X.mg "min" = none) (ha : PE X a (rdE c W fa)) (hb : PE X b (rdE c W fb)) (hg : Gl X "min" := by rfl) (he : starEach [a, b] X.env = (false, eval a X.env) :: starEach [b] X.env := by rfl) (he2 : starEach [b] X.env = (false, eval b X.env) :: starEach [] X.env := by rfl) (hpl : (backTo pos (starEach [b] X.env)).any (·.1) = false := by rfl) :
    PE X (.Call (.Name "min" p) [a, b] [] pos) (rdE c W (opA opMin2 (aC fa (aC fb aN)))) := se_callB (call_min2 hc) cd_min2 hg hm (by decide +kernel) (sa_cons ha (sa_cons hb sa_nil he2) he) (by decide) (by decide) he hpl
theorem e_app {cpos : Pos} (hK : X.K = c.K) (ho : PE X o (rdE c W f)) (ha : PE X a (rdE c W fa)) (hbase : attributeBase o "append" X.env (eval o X.env) = eval o X.env := by rfl)
    (hfew : ((backTo cpos (starEach [a] X.env)).all (fun x => !x.1) && (backToKw cpos (keywordEach [] X.env)).all (fun x => x.1.isSome) && decide (([a] : List Expr).length + ([] : List Keyword).length + (if ([] : List Keyword).isEmpty then 0 else 1) < 30)) = true := by rfl)
    (hline : (apos.endLine == cpos.line) = true := by rfl) (hs : starEach [a] X.env = (false, eval a X.env) :: starEach [] X.env := by rfl) (hplain : (backTo cpos (starEach [] X.env)).any (·.1) = false := by rfl) :
    PE X (.Call (.Attribute o "append" apos) [a] [] cpos) (rdE c W (methM isLst opApp f (aC fa aN))) := se_bm F.plainAttrs_list F.slot_list_append type_app tyOk_V mt_append (ty_lst hK) md_app ho (sa_cons ha sa_nil hs) hbase hfew hline hs hplain
theorem e_popAt {cpos : Pos} (hK : X.K = c.K) (ho : PE X o (rdE c W f)) (ha : PE X a (rdE c W fa)) (hbase : attributeBase o "pop" X.env (eval o X.env) = eval o X.env := by rfl)
    (hfew : ((backTo cpos (starEach [a] X.env)).all (fun x => !x.1) && (backToKw cpos (keywordEach [] X.env)).all (fun x => x.1.isSome) && decide (([a] : List Expr).length + ([] : List Keyword).length + (if ([] : List Keyword).isEmpty then 0 else 1) < 30)) = true := by rfl)
    (hline : (apos.endLine == cpos.line) = true := by rfl) (hs : starEach [a] X.env = (false, eval a X.env) :: starEach [] X.env := by rfl) (hplain : (backTo cpos (starEach [] X.env)).any (·.1) = false := by rfl) :
    PE X (.Call (.Attribute o "pop" apos) [a] [] cpos) (rdE c W (methM isLst opPopAt f (aC fa aN))) := se_bm F.plainAttrs_list F.slot_list_pop type_pop tyOk_V mt_popAt (ty_lst hK) md_popAt ho (sa_cons ha sa_nil hs) hbase hfew hline hs hplain
def opTIdx : R → List R → M R := fun x xs S => if isTup x S = true then opIdx x xs S else .bad
theorem e_tidx {cpos : Pos} (hK : X.K = c.K) (ho : PE X o (rdE c W f)) (ha : PE X a (rdE c W fa)) (hbase : attributeBase o "index" X.env (eval o X.env) = eval o X.env := by rfl)
    (hfew : ((backTo cpos (starEach [a] X.env)).all (fun x => !x.1) && (backToKw cpos (keywordEach [] X.env)).all (fun x => x.1.isSome) && decide (([a] : List Expr).length + ([] : List Keyword).length + (if ([] : List Keyword).isEmpty then 0 else 1) < 30)) = true := by rfl)
    (hline : (apos.endLine == cpos.line) = true := by rfl) (hs : starEach [a] X.env = (false, eval a X.env) :: starEach [] X.env := by rfl) (hplain : (backTo cpos (starEach [] X.env)).any (·.1) = false := by rfl) :
    PE X (.Call (.Attribute o "index" apos) [a] [] cpos) (rdE c W (methM isTup opTIdx f (aC fa aN))) := se_bm F.plainAttrs_tuple F.slot_tuple_index type_tidx tyOk_T mt_tup_idx (ty_tup hK) (md_idxT hK) ho (sa_cons ha sa_nil hs) hbase hfew hline hs hplain
/-- isinstance -/
theorem e_isB {n : String} (nm : Str) (hn : n ∈ ["bool", "int", "str", "tuple", "list", "dict"]) (cf : ClsF c.K (c.cls 0)) (hm : X.mg "isinstance" = none) (hm2 : X.mg nm = none) (hv : bootBuiltins nm = some (.type n)) (hK : X.K = c.K) (ha : PE X a (rdE c W f)) {q : Pos} (hg : Gl X "isinstance" := by rfl) (hg2 : Gl X nm := by rfl)
    (hs : starEach [a, .Name nm q] X.env = (false, eval a X.env) :: starEach [.Name nm q] X.env := by rfl) (hn1 : nm ≠ "__name__" := by decide) (hd : (nm == ("__debug__" : Str)) = false := by decide) :
    PE X (.Call (.Name "isinstance" p) [a, .Name nm q] [] pos) (rdE c W (isB n f)) := se_isB hK hn cf ha (pe_bltn hg2 hm2 hv rfl hn1 hd) hg hm hs (by rfl) (by rfl)
theorem e_isC {k : Nat} (nm : Str) (cf : ClsF c.K (c.cls k)) (hm : X.mg "isinstance" = none) (hm2 : X.mg nm = some (.ref (c.cls k))) (hK : X.K = c.K) (ha : PE X a (rdE c W f)) {q : Pos} (hg : Gl X "isinstance" := by rfl) (hg2 : Gl X nm := by rfl)
    (hs : starEach [a, .Name nm q] X.env = (false, eval a X.env) :: starEach [.Name nm q] X.env := by rfl) (hd : (nm == ("__debug__" : Str)) = false := by decide) :
    PE X (.Call (.Name "isinstance" p) [a, .Name nm q] [] pos) (rdE c W (isC k f)) := se_isC hK cf ha (pe_glob hg2 hm2 rfl hd) hg hm hs (by rfl) (by rfl)
theorem e_gI {x : Str} {i : Int} {t : Tok} (hm : X.mg x = some (.int i t)) (hg : Gl X x := by rfl) (hd : (x == ("__debug__" : Str)) = false := by decide) : PE X (.Name x pos) (rdE c W (cd (.int i))) := se_glob (fun _ => repI) (pe_glob hg hm ⟨_, rfl⟩ hd)
end
end Dd
namespace Dd
open PySem PySem.Spec PyProof.Rows L2
section
variable {X : Cx} {c : Cg} {W : WX} {elt tg iter : Expr} {ifs : List Expr} {scope : Scope} {pos spos py : Pos} {own : List (Str × Nat)} {vs : List Nat} {it : M (Itm D)} {itw : M (Itm (List D))} {tt : M Bool} {f : M R} {ks : List Nat} {i j n : Nat} {y : Str}
theorem lc1_ (hv : own.map (·.2) = vs) (hc : X.calm = true) (hN : X.N.Nodup) (hi : PI X tg iter (rdI c W it)) (ok : BlkOk X.N X.env.scope scope own) (hm : i ∈ vs)
    (hg : InBlk X scope fun Y => PG Y tg (gName i)) (ht : InBlk X scope fun Y => PTs Y ifs (rdT c W0 tt)) (he : InBlk X scope fun Y => PE Y elt (rdE c W0 f)) (hs : ∀ x, foldedSetIterable iter X.env x = pure x := by intro _; rfl) :
    PE X (.ListComp elt [⟨tg, iter, ifs, 0⟩] scope pos) (rdE c W (lcE vs [i] unp1 it tt f)) := by subst hv; exact se_lc1 hc hN hi ok hm hg ht he hs
theorem lcT_ (hv : own.map (·.2) = vs) (hc : X.calm = true) (hN : X.N.Nodup) (hK : X.K = c.K) (hi : PI X tg iter (rdI c W it)) (ok : BlkOk X.N X.env.scope scope own) (hn : n = ks.length) (hm : ∀ k ∈ ks, k ∈ vs)
    (hg : InBlk X scope fun Y => PG Y tg (gTup X.K n (gNs ks))) (ht : InBlk X scope fun Y => PTs Y ifs (rdT c W0 tt)) (he : InBlk X scope fun Y => PE Y elt (rdE c W0 f)) (hs : ∀ x, foldedSetIterable iter X.env x = pure x := by intro _; rfl) :
    PE X (.ListComp elt [⟨tg, iter, ifs, 0⟩] scope pos) (rdE c W (lcE vs ks unpT it tt f)) := by subst hv; exact se_lcT hc hN hK hi ok hn hm hg ht he hs
end
end Dd
namespace Dd
open PySem PySem.Spec PyProof.Rows L2
theorem takesW0 {X : Cx} : Takes X W0 := fun u s' ⟨_, _, _, _, _, _, _, _, _, _, _, _, _, _, _, _, w⟩ => w.elim
theorem FnG.bad {P : Program} {w : World} {K : PySem.W.Frag} {mg : Str → Option Value} {base : Heap} {k n : Nat} {f : Addr} {fd : FuncData} {ps : List Str} {c : Cg} (h : n = ps.length) : FnG P w K mg base k f fd ps (spF c n fun _ _ => .bad) :=
  ⟨fun vs H Q E ⟨_, _, _, e, _⟩ => e.trans h, fun A outer s H args us vs Q E hG hr e0 b r ⟨_, _, _, _, _, _, q⟩ => q.elim⟩
theorem gsN_len : ∀ (ds : List D) (S : Sg), ds.length ≠ 0 → gsN ds S = .bad := fun ds S h => by
  cases ds with
  | nil => exact (h rfl).elim
  | cons d r => rfl
theorem gsC_len {t : Tg} {u : List D → M Unit} {n : Nat} (h1 : ∀ d S x S', t d S ≠ .exc x S') (h2 : ∀ (ds : List D) (S : Sg), ds.length ≠ n → u ds S = .bad) : ∀ (ds : List D) (S : Sg), ds.length ≠ n + 1 → gsC t u ds S = .bad := fun ds S h => by
  cases ds with
  | nil => rfl
  | cons d r =>
    show (t d >>= fun _ => u r) S = .bad
    rw [bind_ap]
    have hr : r.length ≠ n := fun e => h (by rw [List.length_cons, e])
    cases e : t d S with
    | ok a S1 => exact h2 r S1 hr
    | exc x S1 => exact (h1 _ _ _ _ e).elim
    | bad => rfl
end Dd

set_option Elab.async false
set_option linter.all false
set_option maxRecDepth 100000
namespace Dd
open PySem PySem.Spec PyProof.Rows L2
/-- x, y = l, l a list -/
def gL (n : Nat) (u : List D → M Unit) : Tg := fun d S => match d with
  | .lst l => if l.length = n then u l S else .bad
  | _ => .bad
section
variable {X : Cx} {c : Cg} {W : WX} {es : List Expr} {pos : Pos} {u : List D → M Unit}
end
end Dd

set_option Elab.async false
set_option linter.all false
set_option maxRecDepth 100000
namespace Dd
open PySem PySem.Spec PyProof.Rows L2
/-! ### the end: the law's call -/
section
variable {P : Program} {w : World} {K : PySem.W.Frag} {mg mb : Str → Option Value} {k : Nat} {fa a : Addr} {fd : FuncData} {x : Str} {sp : Sp} {s₁ : Shared} {vs : List Value} {ns : List Int}
/-- what is tracked at the start: the script, and nothing where K has it -/
def Hp0 (K : PySem.W.Frag) (a : Addr) (o : Obj) (u : HO) : Hp := fun b => if b = a ∧ K.lookup a = none then some (.frz o u) else none
theorem hp0_some {o : Obj} {u : HO} {b : Addr} {z : HO} (h : Hp0 K a o u b = some z) : b = a ∧ K.lookup a = none ∧ z = .frz o u := by
  unfold Hp0 at h
  split at h
  · rename_i q
    cases h
    exact ⟨q.1, q.2, rfl⟩
  · cases h
theorem call_lawG (KX : K.In s₁.heap) (hns : s₁.heap.Ns mainGlobals mg) (hb : s₁.heap.Ns builtinsNs mb) (hbb : ∀ x : Str, x ≠ "__name__" → mb x = bootBuiltins x) (hlim : s₁.heap.NoLimit) (hg : s₁.gens = #[])
    (ha : s₁.heap.get? a = some { cls := .type "list", data := .seq vs.toArray }) (hi : IntsAre vs ns) (hl : ns.length ≤ sizeLine) (hr : Room k callerA)
    (F : ∀ base : Heap, K.In base → base.Ns mainGlobals mg → FnG P w K mg base k fa fd [x] sp) (hbind : ∀ (s : Shared) (u : Value), BindsTo s fd ⟨[u], []⟩ [(x, u)])
    (hsp : ∀ H : Hp, SqL K H a (ns.map V.int) → sp [.ref a] H (fun v _ => v = .bl true) fun _ _ _ => False) :
    codeAny (model P w) callerA (.call (.ref fa) ⟨[.ref a], []⟩) (fun r s' => r = .ok (.ret (.bool true)) ∧ OldK s₁.heap s'.heap ∧ s'.os = s₁.os ∧ AllBare s'.gens) s₁ := by
  have rv : Vals (ns.map V.int) vs := vals_ints hi
  have hlen : (ns.map V.int).length ≤ sizeLine := by rw [List.length_map]; exact hl
  let o : Obj := { cls := .type "list", data := .seq vs.toArray }
  let H : Hp := Hp0 K a o (.lst (ns.map V.int))
  have only : ∀ {b : Addr} {z : HO}, H b = some z → b = a ∧ K.lookup a = none ∧ z = .frz o (.lst (ns.map V.int)) := fun h => hp0_some h
  have hS : SqL K H a (ns.map V.int) := by
    cases hk : K.lookup a with
    | none => exact .inl (.inr ⟨o, if_pos ⟨rfl, hk⟩⟩)
    | some o' =>
      have e := KX a o' hk
      rw [ha] at e
      cases e
      exact .inr ⟨_, vs.toArray, _, hk, rfl, rfl, rfl, by rw [List.size_toArray, ← rv.length]; exact hlen, by simpa using rv⟩
  have hok : HOk P w H s₁.heap := fun b z h => by
    obtain ⟨rfl, _, rfl⟩ := only h
    exact ⟨ha, hlen, vs, _, rv, ha⟩
  have free : ∀ {b : Addr} {q : Obj}, s₁.heap.get? b = some q → H b = none → (hidT s₁.heap H).get? b = some q := fun e n => hidT_get e n
  have nsOf : ∀ {b : Addr} {m : Str → Option Value}, s₁.heap.Ns b m → (hidT s₁.heap H).Ns b m := fun {b m} ⟨q, es, ep, e, d, r⟩ => by
    refine ⟨q, es, ep, free e ?_, d, r⟩
    cases h : H b with
    | none => rfl
    | some z =>
      obtain ⟨rfl, _, _⟩ := only h
      rw [ha] at e
      cases e
      have d' : Data.seq vs.toArray _ = Data.dict es ep := d
      cases d'
  have hKb : K.In (hidT s₁.heap H) := fun b q e => free (KX b q e) (by
    cases h : H b with
    | none => rfl
    | some z =>
      obtain ⟨rfl, hk, _⟩ := only h
      rw [hk] at e
      cases e)
  have hM : Mod K mg (hidT s₁.heap H) := ⟨hKb, nsOf hns, ⟨mb, nsOf hb, hbb⟩, let ⟨mc, h1, h2⟩ := hlim; ⟨mc, nsOf h1, h2⟩⟩
  have e0 : Env0 P w K mg (hidT s₁.heap H) callerA [] s₁ H :=
    ⟨rfl, hM, fun b q e => of_hidT e, Nat.le_of_eq (hidT_size _ _), trivial, fun b hb => absurd (show b ∈ ([] : List Addr) from hb) (by simp), hok, .of_eq hg⟩
  have run := (F _ hKb (nsOf hns)).run callerA [] s₁ H ⟨[.ref a], []⟩ [.ref a] [.ref a] _ _ rfl hr e0 (hbind s₁ (.ref a)) (.cons rfl .nil) (hsp H hS)
  refine codeAny_mono run fun r s' h => ?_
  cases r with
  | error e => obtain ⟨_, _, _, _, _, _, _, _, _, _, _, _, h⟩ := h; exact h.elim
  | ok fl =>
    cases fl with
    | next => exact False.elim h
    | brk => exact False.elim h
    | cont => exact False.elim h
    | ret u =>
      obtain ⟨v, H', os, bare, un, hok', r', q⟩ := h
      have q' : v = .bl true := q
      subst q'
      obtain rfl : u = Value.bool true := r'
      refine ⟨rfl, OldK.of_keep fun b q e => ?_, os, bare⟩
      cases h : H b with
      | none => exact un.keep b q e h (fun z => absurd (show b ∈ ([] : List Addr) from z) (by simp)) (by simp)
      | some z =>
        obtain ⟨rfl, _, rfl⟩ := only h
        obtain ⟨e2, _⟩ := hok' b _ (un.frzs b o _ h)
        rw [ha] at e
        cases e
        exact e2
theorem RepL.scriptE {c : Cg} {ns : List Int} {H : Hp} {a : Addr} (h : SqL c.K H a (ns.map V.int)) : Rep c H (.scp (ns.map D.int)) (.ref a) := Rep.scp_iff.mpr ⟨a, _, rfl, h, RepL.of_ints ns⟩
end
theorem walk_ofG {l : PySem.W.OpenLaw} {n k : Nat} {q : Program} {loose : List Str} {XP : (Str → Option Value) → Heap → Prop} {YP : World → Heap → Prop} {d : DefRec} {K : Params → PySem.W.Frag} {x : Str} {F : Fn}
    (hn : l.most = some n) (hn2 : n ≤ sizeLine) (hdf : d.params.defaults = []) (hr : Room k callerA) (hY : ∀ (w : World) (h : Heap), YP w h → (K w.params).In h)
    (hF : ∀ (w : World) (mg : Str → Option Value) (fa : Addr) (h : Heap), (K w.params).In h → h.Ns mainGlobals mg → mg d.name = some (.ref fa) →
      ∃ (cls fna : Nat → Addr) (fd : FuncData), (∀ (s : Shared) (u : Value), BindsTo s fd ⟨[u], []⟩ [(x, u)]) ∧
        ∀ base : Heap, (K w.params).In base → base.Ns mainGlobals mg → FnG l.prog w (K w.params) mg base k fa fd [x] (spF ⟨K w.params, cls, fna⟩ 1 F))
    (hlaw : ∀ ns : List Int, ns.length ≤ n → ∃ st, F [.p (.scp (ns.map D.int))] [] = .ok (.val (.bl true)) st) :
    PySem.W.WalkO q loose XP YP l.row.toRowW d [] (fun f vs => PySem.call f vs) := by
  refine Att.attach_call hn hdf fun w s₀ s₁ mg mb fa o pm cd doc a vs ns G Y ho hd hcd hmg hobj hints hlen hg => ?_
  have KX := hY w _ Y
  obtain ⟨cls, fna, fd, hb, hFF⟩ := hF w mg fa _ KX G.T.g hmg
  refine call_lawG KX G.T.g G.T.b G.T.builtins G.T.nolimit hg hobj hints (Nat.le_trans hlen hn2) hr hFF hb fun H hS => ?_
  obtain ⟨st, e⟩ := hlaw ns hlen
  refine ⟨[.p (.scp (ns.map D.int))], ⟨H, fun _ => none, [], fun _ => none⟩, [], rfl, ⟨.ref a, [], rfl, RepL.scriptE (c := ⟨K w.params, cls, fna⟩) hS, rfl⟩, ?_, ?_⟩
  · exact ⟨fun _ _ h => h, (fun _ _ h => by cases h), (fun _ _ h => by cases h), rfl, (fun n z b h => by simp at h), (fun n m b p u h => by simp at h), (fun _ _ _ _ h => by cases h)⟩
  · rw [e]
    intro Γ' H' v le S hv
    exact Rep.bl_iff.mp hv
theorem ClsF.of {K : PySem.W.Frag} {C : Addr} (cl : Cls K C) (ha : PySem.W.findIn K (.ref C) "__class__" = some (some (.builtin "object.__class__")))
    (hn : PySem.W.specialIn K (.builtin "object.__class__") "__get__" = some (some (.builtin "getset_descriptor.__get__"))) (tk : PySem.W.takesIn K (.builtin "object.__class__") = some true) (mro : PySem.W.mroIn K C (.type "object") = some true)
    (ty : PySem.W.typeIn K (.ref C) = some (.type "type")) (y : ∀ t ∈ ["bool", "int", "str", "tuple", "list", "dict"], PySem.W.subIn K (.ref C) (.type t) = some false)
    (z : ∀ t ∈ ["NoneType", "bool", "int", "str", "tuple", "list", "dict"], PySem.W.subIn K (.type t) (.ref C) = some false) : ClsF K C := by
  have hc : (PySem.W.clsIn K C).isSome = true := by
    obtain ⟨cd, hc, _⟩ := PySem.W.any_some cl.hd
    rw [hc]
    rfl
  refine ⟨cl, ha, hn, tk, mro, ?_, fun t ht => ?_, fun t ht => ?_, z⟩
  · unfold PySem.W.kitOne
    rw [if_pos (beq_self_eq_true _)]
  · unfold PySem.W.kitOne
    have e : (Value.type t == Value.ref C) = false := by rfl
    rw [e, if_neg (by decide)]
    show (if ((PySem.W.clsIn K C).isSome && PySem.W.typeIn K (.ref C) == some (.type "type")) = true then PySem.W.subIn K (.type t) (.ref C) else none) = _
    rw [hc, ty, if_pos (by rfl)]
    exact z t ht
  · unfold PySem.W.kitOne
    have e : (Value.ref C == Value.type t) = false := by rfl
    rw [e, if_neg (by decide)]
    show (if PySem.W.kitMeta t = true then PySem.W.subIn K (.ref C) (.type t) else none) = _
    have m : PySem.W.kitMeta t = true := by
      simp only [List.mem_cons, List.not_mem_nil, or_false] at ht
      rcases ht with rfl | rfl | rfl | rfl | rfl | rfl <;> decide +kernel
    rw [if_pos m]
    exact y t ht
end Dd

set_option Elab.async false
set_option linter.all false
set_option maxRecDepth 100000
namespace Dd
open PySem PySem.Spec PyProof.Rows L2
/-! ### name += int, while -/
/-- name op= an int -/
def sAug (g : Int → Int → Int) (i : Nat) (f : M R) : M Fl := fun S => match S.sl[i]? with
  | some (some (.p (.int x))) => (match f S with
    | .ok (.p (.int y)) S1 => .ok .nx { S1 with sl := S1.sl.set i (some (.p (.int (g x y)))) }
    | .ok _ _ => .bad
    | .exc z S1 => .exc z S1
    | .bad => .bad)
  | _ => .bad
section
variable {X : Cx} {c : Cg} {W : WX} {tg e a b : Expr} {es : List Expr} {f fa fb : M R} {g : M (List R)} {h : M Fl} {t : M Bool} {pos pos' p : Pos} {body : List Stmt}
theorem ss_augI {op : Operator} {gg : Int → Int → Int} {i : Nat} {x : Str} (ho : PIp X op (ipI gg)) (hN : X.N.Nodup) (hi : X.N[i]? = some x) (hx : Loc X.env.scope x) (he : PE X e (rdE c W f)) (hf : X.fn x = true ∨ X.env.scope.names.lookup x = some .local := by first | exact .inl rfl | exact .inr rfl | assumption) :
    PS X (.AugAssign (.Name x pos') op e pos) (rdS c W (sAug gg i f)) := ss_of (ps_aug hN hi hx he ho hf) fun E σ H q => by
  obtain ⟨Γ, S, F, P⟩ := q
  unfold sAug at P
  split at P
  · rename_i x hx
    obtain ⟨v, h1, h2⟩ := F.sl i _ hx
    refine ⟨v, h1, Γ, S, F, ?_⟩
    cases q : f S with
    | bad => rw [q] at P; exact P
    | exc z S1 => rw [q] at P; exact fun Γ' H' cls dd e' f q => P Γ' σ H' cls dd e' f q
    | ok y S1 =>
      rw [q] at P
      intro Γ' H' le F' w hw
      cases y with
      | r n => exact P.elim
      | p d =>
        cases d with
        | int j =>
          refine ⟨x, j, ?_, RepR.int hw, ?_⟩
          · exact RepR.int h2
          · exact P Γ' _ H' le (F'.put i (x := .p (.int (gg x j))) ((Rep.int_iff (c := c) (G := Γ'.G)).mpr rfl))
        | _ => exact P.elim
  · exact P.elim
/-! ### ranges of any ints, by ones; downward -/
end
section
variable {X : Cx} {c : Cg} {W : WX} {tg e a b o : Expr} {es : List Expr} {f fa fb : M R} {g ga : M (List R)} {h : M Fl} {t : M Bool} {pos pos' p : Pos} {body : List Stmt}
def rngL (xs : List R) (S : Sg) : Res (Itm D) := match asI2 xs with
  | some q => .ok ⟨fun _ => True, intsFrom q.1 (q.2 - q.1).toNat⟩ S
  | none => .bad
def itR2L (g : M (List R)) : M (Itm D) := g >>= rngL
/-- range(i, j, -1) -/
def asI3 : List R → Option (Int × Int × Int)
  | [.p (.int i), .p (.int j), .p (.int k)] => some (i, j, k)
  | _ => none
def rng3 (xs : List R) (S : Sg) : Res (Itm D) := match asI3 xs with
  | some q => if q.2.2 = -1 ∧ -(2 ^ 62) ≤ q.1 ∧ q.1 < 2 ^ 62 ∧ -(2 ^ 62) ≤ q.2.1 ∧ q.2.1 < 2 ^ 62 then .ok ⟨fun _ => True, downFrom q.1 (-1) (q.1 - q.2.1).toNat⟩ S else .bad
  | none => .bad
def itR3 (g : M (List R)) : M (Itm D) := g >>= rng3
/-! ### in, not in -/
def flatD : D → Option V
  | .non => some .non
  | .bl b => some (.bl b)
  | .int i => some (.int i)
  | .str s => some (.str s)
  | _ => none
def flatL : List D → Option (List V)
  | [] => some []
  | d :: ds => match flatD d with
    | some v => (match flatL ds with
      | some vs => some (v :: vs)
      | none => none)
    | none => none
def opInG (neg : Bool) : R → R → M R := fun x y S => match x with
  | .p d => (match flatD d with
    | some v => (match getL y S with
      | some l => (match flatL l with
        | some vs => .ok (.p (.bl (if neg then !inV v vs else inV v vs))) S
        | none => .bad)
      | none => .bad)
    | none => .bad)
  | _ => .bad
def opIn : R → R → M R := opInG false
def opNotIn : R → R → M R := opInG true
def opBxor : R → R → M R := opI0 fun i j => .int (Builtin.bitXor i j)
/-! ### max, min of a list of ints -/
def maxI : List Int → Int
  | [] => 0
  | n :: ns => ns.foldl max n
def minI : List Int → Int
  | [] => 0
  | n :: ns => ns.foldl min n
def extK (F : List Int → Int) (S : Sg) : Option (List D) → Res R
  | some l => (match intsOf l with
    | some ns => if 0 < ns.length then .ok (.p (.int (F ns))) S else .bad
    | none => .bad)
  | none => .bad
def opMaxL : R → M R := fun x S => extK maxI S (getLst x S)
def opMinL : R → M R := fun x S => extK minI S (getLst x S)
/-! ### [*a, *b] -/
def ofD : List D → List R := List.map R.p
def aS (f : M R) (g : M (List R)) : M (List R) := do
  let x ← f
  fun S => match getL x S with
    | some l => (match g S with
      | .ok ys S2 => .ok (ofD l ++ ys) S2
      | .exc z S2 => .exc z S2
      | .bad => .bad)
    | none => .bad
theorem RepRL.ofD {Γ : Gh} : ∀ {l : List D} {vs : List V}, RepL c Γ.G l vs → RepRL c Γ (ofD l) vs
  | [], vs, h => RepL.nil_iff.mp h
  | d :: ds, vs, h => by
    obtain ⟨v, r, rfl, h1, h2⟩ := RepL.cons_iff.mp h
    exact ⟨v, r, rfl, h1, RepRL.ofD h2⟩
theorem RepRL.app {Γ : Gh} : ∀ {xs ys : List R} {vs ws : List V}, RepRL c Γ xs vs → RepRL c Γ ys ws → RepRL c Γ (xs ++ ys) (vs ++ ws)
  | [], ys, vs, ws, h, k => by rw [show vs = [] from h]; exact k
  | x :: xs, ys, vs, ws, h, k => by
    obtain ⟨v, r, rfl, h1, h2⟩ := h
    exact ⟨v, r ++ ws, rfl, h1, RepRL.app h2 k⟩
theorem sa_star (hK : X.K = c.K) (ha : PE X e (rdE c W f)) (hr : PA X es (rdA c W g)) (hs : starEach (.Starred e p :: es) X.env = (true, eval e X.env) :: starEach es X.env := by rfl) : PA X (.Starred e p :: es) (rdA c W (aS f g)) :=
  sa_of (StX.pa_star ha hr hs) fun σ H Q q => by
    obtain ⟨Γ, S, F, P⟩ := q
    refine ⟨Γ, S, F, ?_⟩
    refine (Post.bind P).imp fun x S1 Γ1 H1 e1 F1 ⟨_, P1⟩ v hv => ?_
    cases q : getL x S1 with
    | none => rw [q] at P1; exact P1.elim
    | some l =>
      rw [q] at P1
      have P1 : Post c W σ Γ1 (match g S1 with
        | .ok ys S2 => .ok (ofD l ++ ys) S2
        | .exc z S2 => .exc z S2
        | .bad => .bad) _ := P1
      obtain ⟨a, vs, rfl, h1, h2⟩ := getL_ok F1 hv q
      refine ⟨a, vs, rfl, by rw [hK]; exact h1.symm, Γ1, S1, F1, ?_⟩
      cases q2 : g S1 with
      | bad => rw [q2] at P1; exact P1
      | exc z S2 => rw [q2] at P1; exact P1
      | ok ys S2 =>
        rw [q2] at P1
        intro Γ2 H2 e2 F2 ws hws
        exact P1 Γ2 H2 e2 F2 (vs ++ ws) (RepRL.app (RepRL.ofD (RepL.mono e2.g h2)) hws)
end
end Dd

set_option Elab.async false
set_option linter.all false
set_option maxRecDepth 100000
namespace Dd
open PySem PySem.Spec PyProof.Rows L2
/-! ### meanings, worked out -/
/-- what simp shall not look into: k stands fixed, since u's type speaks of it -/
structure Pk {α β : Type} (k : α → Sg → Res β) : Type where
def Res.bnd {α β : Type} (r : Res α) (k : α → Sg → Res β) (u : Pk k := ⟨⟩) : Res β := match r with
  | .ok a S => k a S
  | .exc x S => .exc x S
  | .bad => .bad
theorem bnd_ext {α β : Type} {r : Res α} {k k' : α → Sg → Res β} (h : ∀ a S, k a S = k' a S) : r.bnd k = r.bnd k' := by
  have : k = k' := by funext a S; exact h a S
  subst this; rfl
section
variable {α β : Type}
theorem bnd_ok {a : α} {S : Sg} {k : α → Sg → Res β} : (Res.ok a S).bnd k = k a S := Eq.trans rfl rfl
theorem bnd_exc {x : Xn} {S : Sg} {k : α → Sg → Res β} : (Res.exc x S).bnd k = .exc x S := Eq.trans rfl rfl
theorem bnd_bad {k : α → Sg → Res β} : (Res.bad).bnd k = .bad := Eq.trans rfl rfl
theorem bind_bnd (f : M α) (g : α → M β) (S : Sg) : (f >>= g) S = (f S).bnd g := by rw [bind_ap]; cases f S <;> rfl
def ifK (h1 h2 : M α) (b : Bool) (S : Sg) : Res α := if b = true then h1 S else h2 S
theorem ifK_t {h1 h2 : M α} {S : Sg} : ifK h1 h2 true S = h1 S := Eq.trans rfl rfl
theorem ifK_f {h1 h2 : M α} {S : Sg} : ifK h1 h2 false S = h2 S := Eq.trans rfl rfl
theorem ifK_d {h1 h2 : M α} {S : Sg} {p : Prop} [Decidable p] : ifK h1 h2 (decide p) S = if p then h1 S else h2 S := by unfold ifK; by_cases h : p <;> simp [h]
theorem ifK_n {h1 h2 : M α} {S : Sg} {b : Bool} : ifK h1 h2 (!b) S = ifK h2 h1 b S := by cases b <;> rfl
/-! statements -/
def seqK (h : M Fl) : Fl → Sg → Res Fl
  | .nx, S => h S
  | x, S => .ok x S
theorem seqK_nx {h : M Fl} {S : Sg} : seqK h .nx S = h S := Eq.trans rfl rfl
theorem seqK_rt {h : M Fl} {S : Sg} {x : R} : seqK h (.rt x) S = .ok (.rt x) S := Eq.trans rfl rfl
theorem seqK_bk {h : M Fl} {S : Sg} : seqK h .bk S = .ok .bk S := Eq.trans rfl rfl
theorem seqK_ct {h : M Fl} {S : Sg} : seqK h .ct S = .ok .ct S := Eq.trans rfl rfl
theorem sSq_ap (h1 h2 : M Fl) (S : Sg) : sSq h1 h2 S = (h1 S).bnd (seqK h2) := by
  unfold sSq
  rw [bind_ap]
  cases h1 S with
  | ok a S' => cases a <;> rfl
  | exc x S' => rfl
  | bad => rfl
theorem sIf_ap (t : M Bool) (h1 h2 : M Fl) (S : Sg) : sIf t h1 h2 S = (t S).bnd (ifK h1 h2) := by
  unfold sIf
  rw [bind_bnd]
  refine bnd_ext fun b S' => ?_
  cases b <;> rfl
theorem sRt_ap (f : M R) (S : Sg) : sRt f S = (f S).bnd fun x S => .ok (.rt x) S := by unfold sRt; rw [bind_bnd]; rfl
theorem sRtN_ap (S : Sg) : sRtN S = .ok (.rt (.p .non)) S := Eq.trans rfl rfl
theorem sNx_ap (S : Sg) : sNx S = .ok .nx S := Eq.trans rfl rfl
theorem sBad_ap (S : Sg) : sBad S = .bad := Eq.trans rfl rfl
theorem sBk_ap (S : Sg) : sBk S = .ok .bk S := Eq.trans rfl rfl
theorem sCt_ap (S : Sg) : sCt S = .ok .ct S := Eq.trans rfl rfl
theorem sEx_ap (f : M R) (S : Sg) : sEx f S = (f S).bnd fun _ S => .ok .nx S := by unfold sEx; rw [bind_bnd]; rfl
theorem sSet_ap (i : Nat) (f : M R) (S : Sg) : sSet i f S = (f S).bnd fun x S => .ok .nx ⟨S.sl.set i (some x), S.st⟩ := by unfold sSet; rw [bind_bnd]; rfl
theorem sAsg_ap (f : M R) (t : Tg) (S : Sg) : sAsg f t S = (f S).bnd fun x S => (pure1 x S).bnd fun d S => (t d S).bnd fun _ S => .ok .nx S := by
  unfold sAsg
  simp only [bind_bnd]
  rfl
theorem sSub_ap (f fo fi : M R) (S : Sg) : sSub f fo fi S = (f S).bnd fun x S => (pure1 x S).bnd fun d S => (fo S).bnd fun o S => (fi S).bnd fun i S => (setAt o i d S).bnd fun _ S => .ok .nx S := by
  unfold sSub
  simp only [bind_bnd]
  rfl
def sParK (i j : Nat) : List R → Sg → Res Fl
  | x :: y :: [], S => .ok .nx ⟨(S.sl.set i (some x)).set j (some y), S.st⟩
  | _, _ => .bad
theorem sPar_ap (i j : Nat) (g : M (List R)) (S : Sg) : sPar i j g S = (g S).bnd (sParK i j) := by
  unfold sPar
  rw [bind_bnd]
  refine bnd_ext fun xs S' => ?_
  match xs with
  | [] => rfl
  | [x] => rfl
  | [x, y] => rfl
  | x :: y :: z :: r => rfl
theorem sParK_ap {i j : Nat} {x y : R} {S : Sg} : sParK i j [x, y] S = .ok .nx ⟨(S.sl.set i (some x)).set j (some y), S.st⟩ := Eq.trans rfl rfl
def sParK3 (i j l : Nat) : List R → Sg → Res Fl
  | x :: y :: z :: [], S => .ok .nx ⟨((S.sl.set i (some x)).set j (some y)).set l (some z), S.st⟩
  | _, _ => .bad
theorem sPar3_ap (i j l : Nat) (g : M (List R)) (S : Sg) : sPar3 i j l g S = (g S).bnd (sParK3 i j l) := by
  unfold sPar3
  rw [bind_bnd]
  refine bnd_ext fun xs S' => ?_
  match xs with
  | [] => rfl
  | [x] => rfl
  | [x, y] => rfl
  | [x, y, z] => rfl
  | x :: y :: z :: u :: r => rfl
theorem sParK3_ap {i j l : Nat} {x y z : R} {S : Sg} : sParK3 i j l [x, y, z] S = .ok .nx ⟨((S.sl.set i (some x)).set j (some y)).set l (some z), S.st⟩ := Eq.trans rfl rfl
theorem sFor_ap (it : M (Itm α)) (t : α → M Unit) (h : M Fl) (S : Sg) : sFor it t h S = (it S).bnd fun I S => loopL I.ok (fun d => t d >>= fun _ => h) I.l S := by unfold sFor; rw [bind_bnd]
def fldK (k : Nat) (f' : Str) (d : D) (o : R) (S : Sg) : Res Fl := match o with
  | .r n => match S.st[n]? with
    | some (.mu (.obj k' fs)) => if k' = k ∧ fs.length < 900 then .ok .nx { S with st := S.st.set n (.mu (.obj k' (putD f' d fs))) } else .bad
    | _ => .bad
  | _ => .bad
theorem sFld_ap (k : Nat) (f' : Str) (fo f : M R) (S : Sg) : sFld k f' fo f S = (f S).bnd fun x S => (pure1 x S).bnd fun d S => (fo S).bnd fun o S => fldK k f' d o S := by
  unfold sFld
  simp only [bind_bnd]
  rfl
/-! values -/
def getK : Option (Option R) → Sg → Res R
  | some (some x), S => .ok x S
  | _, _ => .bad
theorem vr_ap (i : Nat) (S : Sg) : vr i S = getK S.sl[i]? S := by
  unfold vr getK
  cases S.sl[i]? with
  | none => rfl
  | some o => cases o <;> rfl
theorem getK_ap {x : R} {S : Sg} : getK (some (some x)) S = .ok x S := Eq.trans rfl rfl
theorem ci_ap (i : Int) (S : Sg) : ci i S = .ok (.p (.int i)) S := Eq.trans rfl rfl
theorem cb_ap (i : Bool) (S : Sg) : cb i S = .ok (.p (.bl i)) S := Eq.trans rfl rfl
theorem cn_ap (S : Sg) : cn S = .ok (.p .non) S := Eq.trans rfl rfl
theorem cs_ap (i : Str) (S : Sg) : cs i S = .ok (.p (.str i)) S := Eq.trans rfl rfl
theorem cd_ap (d : D) (S : Sg) : cd d S = .ok (.p d) S := Eq.trans rfl rfl
theorem bin_ap (op : R → R → M R) (f g : M R) (S : Sg) : bin op f g S = (f S).bnd fun x S => (g S).bnd fun y S => op x y S := Eq.trans rfl rfl
theorem uNeg_ap (f : M R) (S : Sg) : uNeg f S = (f S).bnd fun x S => (match x with
    | .p (.int i) => .ok (.p (.int (-i))) S
    | _ => .bad) := rfl
theorem toB_ap {b : Bool} {S : Sg} : toB (.p (.bl b)) S = .ok b S := Eq.trans rfl rfl
theorem tst_ap (f : M R) (S : Sg) : tst f S = (f S).bnd toB := bind_bnd _ _ _
theorem mNot_ap (t : M Bool) (S : Sg) : mNot t S = (t S).bnd fun b S => .ok (!b) S := by unfold mNot; rw [bind_bnd]; rfl
theorem mAnd_ap (t u : M Bool) (S : Sg) : mAnd t u S = (t S).bnd (ifK u fun S => .ok false S) := by
  unfold mAnd; rw [bind_bnd]; refine bnd_ext fun b S' => ?_; cases b <;> rfl
theorem mOr_ap (t u : M Bool) (S : Sg) : mOr t u S = (t S).bnd (ifK (fun S => .ok true S) u) := by
  unfold mOr; rw [bind_bnd]; refine bnd_ext fun b S' => ?_; cases b <;> rfl
theorem eAnd_ap (f g : M R) (S : Sg) : eAnd f g S = (f S).bnd fun x S => (toB x S).bnd (ifK g fun S => .ok (.p (.bl false)) S) := by
  unfold eAnd; rw [bind_bnd, tst_ap]
  cases f S with
  | ok x S1 => show (toB x S1).bnd _ = (toB x S1).bnd _; refine bnd_ext fun b S' => ?_; cases b <;> rfl
  | exc x S1 => rfl
  | bad => rfl
theorem eOr_ap (f g : M R) (S : Sg) : eOr f g S = (f S).bnd fun x S => (toB x S).bnd (ifK (fun S => .ok (.p (.bl true)) S) g) := by
  unfold eOr; rw [bind_bnd, tst_ap]
  cases f S with
  | ok x S1 => show (toB x S1).bnd _ = (toB x S1).bnd _; refine bnd_ext fun b S' => ?_; cases b <;> rfl
  | exc x S1 => rfl
  | bad => rfl
theorem eNot_ap (f : M R) (S : Sg) : eNot f S = (f S).bnd fun x S => (toB x S).bnd fun b S => .ok (.p (.bl (!b))) S := by
  unfold eNot; rw [bind_bnd, tst_ap]
  cases f S <;> rfl
theorem eIf_ap (t : M Bool) (f g : M R) (S : Sg) : eIf t f g S = (t S).bnd (ifK f g) := by
  unfold eIf; rw [bind_bnd]; refine bnd_ext fun b S' => ?_; cases b <;> rfl
theorem eChain_ap (op op' : R → R → M R) (f g h : M R) (S : Sg) : eChain op op' f g h S = (f S).bnd fun x S => (g S).bnd fun y S => (op x y S).bnd fun z S => (toB z S).bnd (ifK (fun S => (h S).bnd fun w S => op' y w S) fun S => .ok (.p (.bl false)) S) := by
  unfold eChain
  rw [bind_bnd]
  refine bnd_ext fun x S1 => ?_
  rw [bind_bnd]
  refine bnd_ext fun y S2 => ?_
  rw [bind_bnd]
  refine bnd_ext fun z S3 => ?_
  rw [bind_bnd]
  refine bnd_ext fun b S4 => ?_
  cases b <;> rfl
theorem aN_ap (S : Sg) : aN S = .ok [] S := Eq.trans rfl rfl
theorem aC_ap (f : M R) (g : M (List R)) (S : Sg) : aC f g S = (f S).bnd fun x S => (g S).bnd fun xs S => .ok (x :: xs) S := by
  unfold aC; simp only [bind_bnd]; rfl
theorem pur_ap (f : M R) (S : Sg) : pur f S = (f S).bnd fun x S => (pure1 x S).bnd fun d S => .ok (.p d) S := by unfold pur; simp only [bind_bnd]; rfl
theorem pure1_p {d : D} {S : Sg} : pure1 (.p d) S = .ok d S := Eq.trans rfl rfl
theorem pure1_r {n : Nat} {S : Sg} : pure1 (.r n) S = pureC n S S.st[n]? := Eq.trans rfl rfl
theorem pureC_lst {n : Nat} {S : Sg} {l : List D} : pureC n S (some (.mu (.lst l))) = .ok (.lst l) { S with st := S.st.set n (.fz l) } := Eq.trans rfl rfl
theorem pureC_fz {n : Nat} {S : Sg} {l : List D} : pureC n S (some (.fz l)) = .ok (.lst l) S := Eq.trans rfl rfl
theorem pureC_obj {n k : Nat} {S : Sg} {fs : List (Str × D)} {d : D} (h : objD k fs = some d) : pureC n S (some (.mu (.obj k fs))) = .ok d { S with st := S.st.set n .dead } := by
  unfold pureC; simp only [h]
theorem pureL_nil (S : Sg) : pureL [] S = .ok [] S := Eq.trans rfl rfl
theorem pureL_cons (x : R) (xs : List R) (S : Sg) : pureL (x :: xs) S = (pure1 x S).bnd fun d S => (pureL xs S).bnd fun ds S => .ok (d :: ds) S := by
  show (pure1 x >>= fun d => pureL xs >>= fun ds => pure (d :: ds)) S = _
  simp only [bind_bnd]; rfl
theorem tupE_ap (g : M (List R)) (S : Sg) : tupE g S = (g S).bnd fun xs S => (pureL xs S).bnd fun ds S => allocT ds S := Eq.trans rfl rfl
theorem lstE_ap (g : M (List R)) (S : Sg) : lstE g S = (g S).bnd fun xs S => (pureL xs S).bnd fun ds S => allocL ds S := Eq.trans rfl rfl
theorem allocT_ap {ds : List D} {S : Sg} (h : ds.length ≤ 1000) : allocT ds S = .ok (.p (.tup ds)) S := if_pos (Nat.le_trans h (by rw [sizeLine_eq]; decide))
theorem allocL_ap {ds : List D} {S : Sg} (h : ds.length ≤ 1000) : allocL ds S = .ok (.r S.st.length) ⟨S.sl, S.st ++ [.mu (.lst ds)]⟩ := if_pos (Nat.le_trans h (by rw [sizeLine_eq]; decide))
/-! calls -/
def callK (F : Fn) (n : Nat) (xs : List R) (S : Sg) : Res R := if xs.length = n then applyF S (F xs S.st) else .bad
theorem callM_ap (F : Fn) (n : Nat) (g : M (List R)) (S : Sg) : callM F n g S = (g S).bnd (callK F n) := by unfold callM; rw [bind_bnd]; rfl
theorem callK_ap {F : Fn} {n : Nat} {xs : List R} {S : Sg} (h : xs.length = n) : callK F n xs S = applyF S (F xs S.st) := if_pos h
theorem applyF_val {S : Sg} {d : D} {st : Store} : applyF S (.ok (.val d) st) = .ok (.p d) ⟨S.sl, st⟩ := Eq.trans rfl rfl
theorem applyF_new {S : Sg} {o : Con} {st : Store} : applyF S (.ok (.new o) st) = .ok (.r st.length) ⟨S.sl, st ++ [.mu o]⟩ := Eq.trans rfl rfl
theorem applyF_if {S : Sg} {p : Prop} [Decidable p] {a b : FRes} : applyF S (if p then a else b) = if p then applyF S a else applyF S b := by split <;> rfl
theorem bnd_if {p : Prop} [Decidable p] {a b : Res α} {k : α → Sg → Res β} : (if p then a else b).bnd k = if p then a.bnd k else b.bnd k := by split <;> rfl
theorem runF_ap (n : Nat) (h : M Fl) (xs : List R) (st : Store) : runF n h xs st = finish st.length (h ⟨xs.map some ++ List.replicate (n - xs.length) none, st⟩) := Eq.trans rfl rfl
theorem finish_nx {b : Nat} {S : Sg} : finish b (.ok .nx S) = .ok (.val .non) (S.st.take b) := Eq.trans rfl rfl
theorem finish_p {b : Nat} {S : Sg} {d : D} : finish b (.ok (.rt (.p d)) S) = .ok (.val d) (S.st.take b) := Eq.trans rfl rfl
theorem finish_r {b n : Nat} {S : Sg} : finish b (.ok (.rt (.r n)) S) = finishR b S.st (.r n) := Eq.trans rfl rfl
theorem finish_if {b : Nat} {p : Prop} [Decidable p] {x y : Res Fl} : finish b (if p then x else y) = if p then finish b x else finish b y := by split <;> rfl
theorem finishR_mu {b n : Nat} {st : Store} {o : Con} (h : st[n]? = some (.mu o)) (hb : b ≤ n) : finishR b st (.r n) = .ok (.new o) (st.take b) := by
  unfold finishR; simp only [h, if_pos hb]
def makeK (k : Nat) (F : Fn) (n : Nat) (xs : List R) (S : Sg) : Res R := if xs.length + 1 = n then (match F (.r S.st.length :: xs) (S.st ++ [.mu (.obj k [])]) with
    | .ok (.val .non) st => .ok (.r S.st.length) ⟨S.sl, st⟩
    | .exc x st => .exc x ⟨S.sl, st⟩
    | _ => .bad) else .bad
theorem makeU_ap (k : Nat) (F : Fn) (n : Nat) (g : M (List R)) (S : Sg) : makeU k F n g S = (g S).bnd (makeK k F n) := by unfold makeU; rw [bind_bnd]; rfl
theorem opA_ap (op : List R → M R) (g : M (List R)) (S : Sg) : opA op g S = (g S).bnd op := bind_bnd _ _ _
theorem op1_ap (op : R → M R) (x : R) (S : Sg) : op1 op [x] S = op x S := Eq.trans rfl rfl
def methK (chk : R → Sg → Bool) (op : R → List R → M R) (g : M (List R)) (x : R) (S : Sg) : Res R := if chk x S = true then (g S).bnd (op x) else .bad
theorem methM_ap (chk : R → Sg → Bool) (op : R → List R → M R) (f : M R) (g : M (List R)) (S : Sg) : methM chk op f g S = (f S).bnd (methK chk op g) := by
  unfold methM; rw [bind_bnd]; rfl
def attrK (k : Nat) (f' : Str) (x : R) (S : Sg) : Res R := match insOf x S with
    | some (k', fs) => if k' = k then (match (fs.lookup f').bind atD with
      | some d => .ok (.p d) S
      | none => .bad) else .bad
    | none => .bad
theorem attrU_ap (k : Nat) (f' : Str) (f : M R) (S : Sg) : attrU k f' f S = (f S).bnd (attrK k f') := by unfold attrU; rw [bind_bnd]; rfl
theorem attrK_scr {l : List D} {S : Sg} : attrK 0 "own_levels" (.p (.scr l)) S = .ok (.p (.tup l)) S := Eq.trans rfl rfl
def propK (k : Nat) (F : Fn) (x : R) (S : Sg) : Res R := match insOf x S with
    | some (k', _) => if k' = k then (match F [x] S.st with
      | .exc _ _ => .bad
      | r => applyF S r) else .bad
    | none => .bad
theorem propU_ap (k : Nat) (F : Fn) (f : M R) (S : Sg) : propU k F f S = (f S).bnd (propK k F) := by unfold propU; rw [bind_bnd]; rfl
theorem propK_scr {F : Fn} {l : List D} {S : Sg} {d : D} {st : Store} (h : F [.p (.scr l)] S.st = .ok (.val d) st) : propK 0 F (.p (.scr l)) S = .ok (.p d) ⟨S.sl, st⟩ := by
  unfold propK
  show (if (0 : Nat) = 0 then (match F [.p (.scr l)] S.st with | .exc _ _ => Res.bad | r => applyF S r) else Res.bad) = _
  rw [if_pos rfl, h]
  rfl
def isK (n : String) (x : R) (S : Sg) : Res R := match kindR x S with
    | some t => .ok (.p (.bl (subTy t n))) S
    | none => match insOf x S with
      | some q => if q.1 = 0 then .ok (.p (.bl false)) S else .bad
      | none => .bad
theorem isB_ap (n : String) (f : M R) (S : Sg) : isB n f S = (f S).bnd (isK n) := by unfold isB; rw [bind_bnd]; rfl
def isCK (k : Nat) (x : R) (S : Sg) : Res R := match kindR x S with
    | some _ => .ok (.p (.bl false)) S
    | none => match insOf x S with
      | some q => if q.1 = k then .ok (.p (.bl true)) S else .bad
      | none => .bad
theorem isC_ap (k : Nat) (f : M R) (S : Sg) : isC k f S = (f S).bnd (isCK k) := by unfold isC; rw [bind_bnd]; rfl
theorem isCK_scr {l : List D} {S : Sg} : isCK 0 (.p (.scr l)) S = .ok (.p (.bl true)) S := Eq.trans rfl rfl
/-! what is walked -/
theorem itL_ap (f : M R) (S : Sg) : itL f S = (f S).bnd fun x S => (match getL x S with
    | some l => .ok ⟨fun S' => getL x S' = some l, l⟩ S
    | none => .bad) := Eq.trans rfl rfl
theorem itE_ap (f : M R) (S : Sg) : itE f S = (f S).bnd fun x S => (match getL x S with
    | some l => .ok ⟨fun S' => getL x S' = some l, numbered 0 l⟩ S
    | none => .bad) := Eq.trans rfl rfl
theorem itR1_ap (g : M (List R)) (S : Sg) : itR1 g S = (g S).bnd fun xs S => (match asI1 xs with
    | some j => if -(2 ^ 62) ≤ j ∧ j < 2 ^ 62 then .ok ⟨fun _ => True, intsFrom 0 j.toNat⟩ S else .bad
    | none => .bad) := Eq.trans rfl rfl
theorem gN_ap (i : Nat) (d : D) (S : Sg) : gN i d S = .ok () ⟨S.sl.set i (some (.p d)), S.st⟩ := Eq.trans rfl rfl
theorem gsN_ap (S : Sg) : gsN [] S = .ok () S := Eq.trans rfl rfl
theorem gsC_ap (t : Tg) (u : List D → M Unit) (d : D) (r : List D) (S : Sg) : gsC t u (d :: r) S = (t d S).bnd fun _ S => u r S := bind_bnd _ _ _
theorem gT_ap {n : Nat} {u : List D → M Unit} {l : List D} {S : Sg} (h : l.length = n) : gT n u (.tup l) S = u l S := if_pos h
theorem gL_ap {n : Nat} {u : List D → M Unit} {l : List D} {S : Sg} (h : l.length = n) : gL n u (.lst l) S = u l S := if_pos h
theorem getL_tup {l : List D} {S : Sg} : getL (.p (.tup l)) S = some l := Eq.trans rfl rfl
theorem getL_lst {l : List D} {S : Sg} : getL (.p (.lst l)) S = some l := Eq.trans rfl rfl
theorem getL_scp {l : List D} {S : Sg} : getL (.p (.scp l)) S = some l := Eq.trans rfl rfl
theorem loop_nil {ok : Sg → Prop} {body : α → M Fl} {S : Sg} (h : ok S) : loopL ok body [] S = .ok .nx S := loopL_nil h
noncomputable def loopK (ok : Sg → Prop) (body : α → M Fl) (ds : List α) : Fl → Sg → Res Fl
  | .nx, S => loopL ok body ds S
  | .ct, S => loopL ok body ds S
  | .bk, S => .ok .nx S
  | .rt x, S => .ok (.rt x) S
theorem loop_cons {ok : Sg → Prop} {body : α → M Fl} {d : α} {ds : List α} {S : Sg} (h : ok S) : loopL ok body (d :: ds) S = (body d S).bnd (loopK ok body ds) := by
  rw [loopL_cons h]
  cases body d S with
  | ok a S' => cases a <;> rfl
  | exc x S' => rfl
  | bad => rfl
/-- a loop that is gone through to its end -/
theorem loop_inv {ok : Sg → Prop} {body : α → M Fl} (I : Nat → Sg → Prop) : ∀ (l : List α) (i : Nat) (S : Sg), I i S → (∀ j S, I j S → ok S) → (∀ j d S, l[j]? = some d → I (i + j) S → ∃ S', (body d S = .ok .nx S' ∨ body d S = .ok .ct S') ∧ I (i + j + 1) S') → ∃ S', loopL ok body l S = .ok .nx S' ∧ I (i + l.length) S'
  | [], i, S, h0, hok, hs => ⟨S, loopL_nil (hok _ _ h0), h0⟩
  | d :: ds, i, S, h0, hok, hs => by
    obtain ⟨S1, e, h1⟩ := hs 0 d S rfl h0
    have := loop_inv I ds (i + 1) S1 h1 hok fun j d' S' hj hI => by
      have := hs (j + 1) d' S' hj (by rw [show i + (j + 1) = i + 1 + j by omega]; exact hI)
      rw [show i + (j + 1) + 1 = i + 1 + j + 1 by omega] at this
      exact this
    obtain ⟨S2, e2, h2⟩ := this
    refine ⟨S2, ?_, by rw [List.length_cons, show i + (ds.length + 1) = i + 1 + ds.length by omega]; exact h2⟩
    rw [loop_cons (hok _ _ h0)]
    rcases e with e | e <;> rw [e] <;> exact e2
end
end Dd

set_option Elab.async false
set_option linter.all false
set_option maxRecDepth 100000
set_option exponentiation.threshold 2000
namespace Dd
open PySem PySem.Spec PyProof.Rows L2
/-! ### operations, worked out -/
section
variable {S : Sg} {i j : Int}
theorem opAdd_i : opAdd (.p (.int i)) (.p (.int j)) S = .ok (.p (.int (i + j))) S := Eq.trans rfl rfl
theorem opSub_i : opSub (.p (.int i)) (.p (.int j)) S = .ok (.p (.int (i - j))) S := Eq.trans rfl rfl
theorem opMul_i (h : CMulW i j) : opMul (.p (.int i)) (.p (.int j)) S = .ok (.p (.int (i * j))) S := by
  show (if CMulW i j then _ else _) = _
  exact if_pos h
theorem opDiv_i (h : CDivW i j) : opDiv (.p (.int i)) (.p (.int j)) S = .ok (.p (.int (i / j))) S := if_pos h
theorem opMod_i (h : 0 < j) : opMod (.p (.int i)) (.p (.int j)) S = .ok (.p (.int (i % j))) S := if_pos h
theorem opPow_i (h : CPowW i j) : opPow (.p (.int i)) (.p (.int j)) S = .ok (.p (.int (i ^ j.toNat))) S := if_pos h
theorem opShl_i (h : CShl i j) : opShl (.p (.int i)) (.p (.int j)) S = .ok (.p (.int (i * 2 ^ j.toNat))) S := if_pos h
theorem opShr_i (h : 0 ≤ j) : opShr (.p (.int i)) (.p (.int j)) S = .ok (.p (.int (i / 2 ^ j.toNat))) S := if_pos h
theorem opBand_i : opBand (.p (.int i)) (.p (.int j)) S = .ok (.p (.int (Builtin.bitAnd i j))) S := Eq.trans rfl rfl
theorem opLt_i : opLt (.p (.int i)) (.p (.int j)) S = .ok (.p (.bl (decide (i < j)))) S := Eq.trans rfl rfl
theorem opLe_i : opLe (.p (.int i)) (.p (.int j)) S = .ok (.p (.bl (decide (i ≤ j)))) S := Eq.trans rfl rfl
theorem opGt_i : opGt (.p (.int i)) (.p (.int j)) S = .ok (.p (.bl (decide (j < i)))) S := Eq.trans rfl rfl
theorem opGe_i : opGe (.p (.int i)) (.p (.int j)) S = .ok (.p (.bl (decide (j ≤ i)))) S := Eq.trans rfl rfl
theorem opEqD_i : opEqD (.p (.int i)) (.p (.int j)) S = .ok (.p (.bl (decide (i = j)))) S := by
  show (if SeqAt.shaped (.int i) = true ∧ SeqAt.shaped (.int j) = true then Res.ok (R.p (.bl (PyData.eqv (.int i) (.int j)))) S else .bad) = _
  rw [if_pos ⟨rfl, rfl⟩]
  rfl
theorem opNeD_i : opNeD (.p (.int i)) (.p (.int j)) S = .ok (.p (.bl (!decide (i = j)))) S := by
  show (if SeqAt.shaped (.int i) = true ∧ SeqAt.shaped (.int j) = true then Res.ok (R.p (.bl (!PyData.eqv (.int i) (.int j)))) S else .bad) = _
  rw [if_pos ⟨rfl, rfl⟩]
  rfl
theorem opInt_i : opInt (.p (.int i)) S = .ok (.p (.int i)) S := Eq.trans rfl rfl
theorem opInt_b {b : Bool} : opInt (.p (.bl b)) S = .ok (.p (.int (if b = true then 1 else 0))) S := Eq.trans rfl rfl
theorem opAbs_i : opAbs (.p (.int i)) S = .ok (.p (.int (if i < 0 then -i else i))) S := Eq.trans rfl rfl
theorem opMax2_i : opMax2 [.p (.int i), .p (.int j)] S = .ok (.p (.int (max i j))) S := Eq.trans rfl rfl
theorem opMin2_i : opMin2 [.p (.int i), .p (.int j)] S = .ok (.p (.int (min i j))) S := Eq.trans rfl rfl
theorem atI_nat {α : Type} {l : List α} {k : Nat} {d : α} (h : l[k]? = some d) : L2.atI l (k : Int) = some d := by
  have hl := (List.getElem?_eq_some_iff.mp h).1
  unfold L2.atI L2.ixN
  rw [if_pos (by omega), if_pos (by omega)]
  simpa using h
theorem atI_of {α : Type} {l : List α} {i : Int} {d : α} (h0 : 0 ≤ i) (h : l[i.toNat]? = some d) : L2.atI l i = some d := by
  have := atI_nat h
  rwa [Int.toNat_of_nonneg h0] at this
theorem isK_ii : isK "int" (.p (.int i)) S = .ok (.p (.bl true)) S := by unfold isK; rfl
theorem isK_ib : isK "bool" (.p (.int i)) S = .ok (.p (.bl false)) S := by unfold isK; rfl
theorem isK_tt {l : List D} : isK "tuple" (.p (.tup l)) S = .ok (.p (.bl true)) S := by unfold isK; rfl
theorem isK_ll {l : List D} : isK "list" (.p (.lst l)) S = .ok (.p (.bl true)) S := by unfold isK; rfl
def getLK : Option Cell → Option (List D)
  | some (.mu (.lst l)) => some l
  | some (.fz l) => some l
  | _ => none
theorem getLK_mu {l : List D} : getLK (some (.mu (.lst l))) = some l := Eq.trans rfl rfl
theorem getLK_fz {l : List D} : getLK (some (.fz l)) = some l := Eq.trans rfl rfl
theorem getL_r {n : Nat} : getL (.r n) S = getLK S.st[n]? := by
  cases h : S.st[n]? with
  | none => simp only [getL, h, getLK]
  | some c => cases c with
    | mu o => cases o <;> simp only [getL, h, getLK]
    | fz l => simp only [getL, h, getLK]
    | dead => simp only [getL, h, getLK]
theorem getLst_r {n : Nat} : getLst (.r n) S = getLK S.st[n]? := by
  cases h : S.st[n]? with
  | none => simp only [getLst, h, getLK]
  | some c => cases c with
    | mu o => cases o <;> simp only [getLst, h, getLK]
    | fz l => simp only [getLst, h, getLK]
    | dead => simp only [getLst, h, getLK]
theorem getLst_lst {l : List D} : getLst (.p (.lst l)) S = some l := Eq.trans rfl rfl
theorem getLst_scp {l : List D} : getLst (.p (.scp l)) S = some l := Eq.trans rfl rfl
theorem getM_r {n : Nat} : getM (.r n) S = getLK S.st[n]? := by
  cases h : S.st[n]? with
  | none => simp only [getM, h, getLK]
  | some c => cases c with
    | mu o => cases o <;> simp only [getM, h, getLK]
    | fz l => simp only [getM, h, getLK]
    | dead => simp only [getM, h, getLK]
theorem getM_lst {l : List D} : getM (.p (.lst l)) S = some l := Eq.trans rfl rfl
theorem opLen_t {l : List D} : opLen (.p (.tup l)) S = .ok (.p (.int (l.length : Nat))) S := Eq.trans rfl rfl
theorem opLen_l {l : List D} : opLen (.p (.lst l)) S = .ok (.p (.int (l.length : Nat))) S := Eq.trans rfl rfl
theorem opLen_c {l : List D} : opLen (.p (.scp l)) S = .ok (.p (.int (l.length : Nat))) S := Eq.trans rfl rfl
def lenK : Option (List D) → Sg → Res R
  | some l, S => .ok (.p (.int (l.length : Nat))) S
  | none, _ => .bad
theorem lenK_ap {l : List D} : lenK (some l) S = .ok (.p (.int (l.length : Nat))) S := Eq.trans rfl rfl
theorem opLen_r {n : Nat} : opLen (.r n) S = lenK (getLK S.st[n]?) S := by
  unfold opLen
  rw [getL_r]
  cases getLK S.st[n]? <;> rfl
/-- l[i] -/
def ixK (l : List D) (i : Int) (S : Sg) : Res R := match L2.atI l i with
  | some d => .ok (.p d) S
  | none => .bad
theorem ixK_of {l : List D} {d : D} (h : L2.atI l i = some d) : ixK l i S = .ok (.p d) S := by unfold ixK; rw [h]
theorem opIx_t {l : List D} : opIx (.p (.tup l)) (.p (.int i)) S = ixK l i S := Eq.trans rfl rfl
theorem opIx_l {l : List D} : opIx (.p (.lst l)) (.p (.int i)) S = ixK l i S := Eq.trans rfl rfl
theorem opIx_c {l : List D} : opIx (.p (.scp l)) (.p (.int i)) S = ixK l i S := Eq.trans rfl rfl
def ixK' : Option (List D) → Int → Sg → Res R
  | some l, i, S => ixK l i S
  | none, _, _ => .bad
theorem ixK'_ap {l : List D} : ixK' (some l) i S = ixK l i S := Eq.trans rfl rfl
theorem opIx_r {n : Nat} : opIx (.r n) (.p (.int i)) S = ixK' (getLK S.st[n]?) i S := by
  unfold opIx
  simp only [asI]
  rw [getL_r]
  cases getLK S.st[n]? <;> rfl
theorem ixK_0 {l : List D} {d : D} : ixK (d :: l) 0 S = .ok (.p d) S := ixK_of (atI_of (by decide) rfl)
theorem ixK_1 {l : List D} {a d : D} : ixK (a :: d :: l) 1 S = .ok (.p d) S := ixK_of (atI_of (by decide) rfl)
theorem ixK_2 {l : List D} {a b d : D} : ixK (a :: b :: d :: l) 2 S = .ok (.p d) S := ixK_of (atI_of (by decide) rfl)
theorem ixK_3 {l : List D} {a b c d : D} : ixK (a :: b :: c :: d :: l) 3 S = .ok (.p d) S := ixK_of (atI_of (by decide) rfl)
/-- x.append(d) -/
def appK (n : Nat) (d : D) (S : Sg) : Option Cell → Res R
  | some (.mu (.lst l)) => if l.length < sizeLine then .ok (.p .non) { S with st := S.st.set n (.mu (.lst (l ++ [d]))) } else .bad
  | _ => .bad
theorem appK_ap {n : Nat} {d : D} {l : List D} (h : l.length < 1000000) : appK n d S (some (.mu (.lst l))) = .ok (.p .non) ⟨S.sl, S.st.set n (.mu (.lst (l ++ [d])))⟩ := if_pos (Nat.lt_of_lt_of_le h (by rw [sizeLine_eq]; decide))
theorem opApp_ap {n : Nat} {y : R} : opApp (.r n) [y] S = (pure1 y S).bnd fun d S => appK n d S S.st[n]? := by
  show (pure1 y >>= _) S = _
  rw [bind_bnd]
  congr 1
theorem isLst_r' {n : Nat} : isLst (.r n) S = (getLK S.st[n]?).isSome := by unfold isLst; rw [getLst_r]
def popC (n : Nat) (i : Int) (S : Sg) : Option Cell → Res R
  | some (.mu (.lst l)) => if -(2 ^ 63) ≤ i ∧ i < 2 ^ 63 then (match seqIndex? i l.length with
        | some k => match l[k]? with
          | some d => .ok (.p d) { S with st := S.st.set n (.mu (.lst (l.eraseIdx k))) }
          | none => .bad
        | none => .bad) else .bad
  | _ => .bad
theorem opPopAt_ap {n : Nat} : opPopAt (.r n) [.p (.int i)] S = popC n i S S.st[n]? := by
  show (match S.st[n]? with | some (.mu (.lst l)) => _ | _ => _) = _
  cases h : S.st[n]? with
  | none => rfl
  | some c => cases c with
    | mu o => cases o <;> rfl
    | fz l => rfl
    | dead => rfl
theorem popC_of {n : Nat} {l : List D} {d : D} (h0 : 0 ≤ i) (hd : l[i.toNat]? = some d) (hl : l.length < 1000000) : popC n i S (some (.mu (.lst l))) = .ok (.p d) ⟨S.sl, S.st.set n (.mu (.lst (l.eraseIdx i.toNat)))⟩ := by
  have hi := (List.getElem?_eq_some_iff.mp hd).1
  have e : L2.ixN l.length i = some i.toNat := by unfold L2.ixN; rw [if_pos h0, if_pos (by omega)]
  have e2 := (L2.ixN_seq e).1
  unfold popC
  simp only
  rw [if_pos (by omega), e2]
  simp only [hd]
/-- o[i] = d -/
def setK (n : Nat) (i : Int) (d : D) (S : Sg) : Option Cell → Res Unit
  | some (.mu (.lst l)) => match L2.ixN l.length i with
        | some j => .ok () { S with st := S.st.set n (.mu (.lst (l.set j d))) }
        | none => .bad
  | _ => .bad
theorem setAt_ap {n : Nat} {d : D} : setAt (.r n) (.p (.int i)) d S = setK n i d S S.st[n]? := by
  cases h : S.st[n]? with
  | none => simp only [setAt, asI, h, setK]
  | some c => cases c with
    | mu o => cases o <;> (simp only [setAt, asI, h, setK] <;> rfl)
    | fz l => simp only [setAt, asI, h, setK]
    | dead => simp only [setAt, asI, h, setK]
theorem setK_0 {n : Nat} {a d : D} {l : List D} : setK n 0 d S (some (.mu (.lst (a :: l)))) = .ok () ⟨S.sl, S.st.set n (.mu (.lst (d :: l)))⟩ := by
  have e : L2.ixN (a :: l).length 0 = some 0 := by unfold L2.ixN; rw [if_pos (by decide), if_pos (by simp only [List.length_cons]; omega)]; rfl
  unfold setK; simp only [e]; rfl
theorem setK_1 {n : Nat} {a b d : D} {l : List D} : setK n 1 d S (some (.mu (.lst (a :: b :: l)))) = .ok () ⟨S.sl, S.st.set n (.mu (.lst (a :: d :: l)))⟩ := by
  have e : L2.ixN (a :: b :: l).length 1 = some 1 := by unfold L2.ixN; rw [if_pos (by decide), if_pos (by simp only [List.length_cons]; omega)]; rfl
  unfold setK; simp only [e]; rfl
theorem setK_2 {n : Nat} {a b c d : D} {l : List D} : setK n 2 d S (some (.mu (.lst (a :: b :: c :: l)))) = .ok () ⟨S.sl, S.st.set n (.mu (.lst (a :: b :: d :: l)))⟩ := by
  have e : L2.ixN (a :: b :: c :: l).length 2 = some 2 := by unfold L2.ixN; rw [if_pos (by decide), if_pos (by simp only [List.length_cons]; omega)]; rfl
  unfold setK; simp only [e]; rfl
/-! == and other looks at lists -/
def dataK : Option Cell → Option PyData
  | some (.mu (.lst l)) => (toPyL l).map .list
  | some (.fz l) => (toPyL l).map .list
  | _ => none
theorem dataK_mu {l : List D} : dataK (some (.mu (.lst l))) = (toPyL l).map .list := Eq.trans rfl rfl
theorem dataR_r {n : Nat} : dataR (.r n) S = dataK S.st[n]? := by
  unfold dataR
  simp only
  rw [getLst_r]
  cases h : S.st[n]? with
  | none => rfl
  | some c => cases c with
    | mu o => cases o with
      | lst l => show (match toPyL l with | some xs => _ | none => _) = (toPyL l).map _; cases toPyL l <;> rfl
      | dct k => rfl
      | dt k => rfl
      | obj k f => rfl
    | fz l => show (match toPyL l with | some xs => _ | none => _) = (toPyL l).map _; cases toPyL l <;> rfl
    | dead => rfl
theorem opEqD_of {x y : R} {d e : PyData} (h1 : dataR x S = some d) (h2 : dataR y S = some e) (s1 : SeqAt.shaped d = true) (s2 : SeqAt.shaped e = true) : opEqD x y S = .ok (.p (.bl (PyData.eqv d e))) S := by
  unfold opEqD; simp only [h1, h2, s1, s2, and_self, if_true]
theorem opNeD_of {x y : R} {d e : PyData} (h1 : dataR x S = some d) (h2 : dataR y S = some e) (s1 : SeqAt.shaped d = true) (s2 : SeqAt.shaped e = true) : opNeD x y S = .ok (.p (.bl (!PyData.eqv d e))) S := by
  unfold opNeD; simp only [h1, h2, s1, s2, and_self, if_true]
theorem eqvAll_ints : ∀ ns ms : List Int, PyData.eqvAll (ns.map PyData.int) (ms.map PyData.int) = decide (ns = ms)
  | [], [] => rfl
  | [], m :: ms => by simp [PyData.eqvAll]
  | n :: ns, [] => by simp [PyData.eqvAll]
  | n :: ns, m :: ms => by
    show (PyData.eqv (.int n) (.int m) && PyData.eqvAll (ns.map PyData.int) (ms.map PyData.int)) = _
    rw [eqvAll_ints ns ms]
    show (n == m && _) = _
    by_cases h1 : n = m <;> by_cases h2 : ns = ms <;> simp [h1, h2]
theorem canLay_ints : ∀ ns : List Int, PyData.canLayAll0 (ns.map PyData.int) = true
  | [] => rfl
  | n :: ns => by
    show (PyData.canLay0 (.int n) && PyData.canLayAll0 (ns.map PyData.int)) = true
    rw [canLay_ints ns]; rfl
theorem depth_ints : ∀ ns : List Int, PyData.depthAll (ns.map PyData.int) = 0
  | [] => rfl
  | n :: ns => by
    show max (PyData.depth (.int n)) (PyData.depthAll (ns.map PyData.int)) = 0
    rw [depth_ints ns]; rfl
theorem shaped_li (ns : List Int) : SeqAt.shaped (.list (ns.map PyData.int)) = true := by
  show (PyData.canLayAll0 (ns.map PyData.int) && decide (PyData.depthAll (ns.map PyData.int) + 1 ≤ 64)) = true
  rw [canLay_ints, depth_ints]; rfl
theorem opEqD_li {x y : R} {ns ms : List Int} (h1 : dataR x S = some (.list (ns.map PyData.int))) (h2 : dataR y S = some (.list (ms.map PyData.int))) : opEqD x y S = .ok (.p (.bl (decide (ns = ms)))) S := by
  rw [opEqD_of h1 h2 (shaped_li _) (shaped_li _)]
  show Res.ok (R.p (.bl (PyData.eqvAll _ _))) S = _
  rw [eqvAll_ints]
def allK : Option (List D) → Sg → Res R
  | some l, S => match blsOf l with
    | some bs => .ok (.p (.bl (bs.all id))) S
    | none => .bad
  | none, _ => .bad
theorem opAll_r {n : Nat} : opAll (.r n) S = allK (getLK S.st[n]?) S := by unfold opAll; rw [getLst_r]; cases getLK S.st[n]? <;> rfl
def sumK : Option (List D) → Sg → Res R
  | some l, S => match intsOf l with
    | some bs => .ok (.p (.int bs.sum)) S
    | none => .bad
  | none, _ => .bad
theorem opSum_r {n : Nat} : opSum (.r n) S = sumK (getLK S.st[n]?) S := by unfold opSum; rw [getLst_r]; cases getLK S.st[n]? <;> rfl
theorem sumK_ints {ns : List Int} : sumK (some (ns.map D.int)) S = .ok (.p (.int ns.sum)) S := by unfold sumK; simp only [intsOf_map]
def sortK : Option (List D) → Sg → Res R
  | some l, S => match intsOf l with
    | some ns => .ok (.r S.st.length) ⟨S.sl, S.st ++ [.mu (.lst ((sortI ns).map .int))]⟩
    | none => .bad
  | none, _ => .bad
theorem opSort_t {l : List D} : opSort (.p (.tup l)) S = sortK (some l) S := Eq.trans rfl rfl
theorem opSort_r {n : Nat} : opSort (.r n) S = sortK (getLK S.st[n]?) S := by unfold opSort; rw [getL_r]; cases getLK S.st[n]? <;> rfl
theorem opTuple_t {l : List D} : opTuple (.p (.tup l)) S = .ok (.p (.tup l)) S := Eq.trans rfl rfl
theorem opTuple_l {l : List D} : opTuple (.p (.lst l)) S = .ok (.p (.tup l)) S := Eq.trans rfl rfl
def tupK : Option (List D) → Sg → Res R
  | some l, S => .ok (.p (.tup l)) S
  | none, _ => .bad
theorem tupK_ap {l : List D} : tupK (some l) S = .ok (.p (.tup l)) S := Eq.trans rfl rfl
theorem opTuple_r {n : Nat} : opTuple (.r n) S = tupK (getLK S.st[n]?) S := by unfold opTuple; simp only; rw [getLst_r]; cases getLK S.st[n]? <;> rfl
theorem wipeS_ap {vs : List Nat} : wipeS S vs = ⟨wipeL S.sl vs, S.st⟩ := Eq.trans rfl rfl
theorem wipeL_nil {sl : List (Option R)} : wipeL sl [] = sl := Eq.trans rfl rfl
theorem wipeL_cons {sl : List (Option R)} {v : Nat} {vs : List Nat} : wipeL sl (v :: vs) = (wipeL sl vs).set v none := Eq.trans rfl rfl
theorem numbered_at : ∀ {l : List D} {k j : Nat} {d : List D}, (numbered k l)[j]? = some d → ∃ d', d = [.int ((k + j : Nat) : Int), d'] ∧ l[j]? = some d'
  | [], k, j, d, h => by simp [numbered] at h
  | x :: l, k, 0, d, h => by
    simp only [numbered, List.getElem?_cons_zero, Option.some.injEq] at h
    exact ⟨x, h.symm, rfl⟩
  | x :: l, k, j + 1, d, h => by
    simp only [numbered, List.getElem?_cons_succ] at h
    obtain ⟨d', e1, e2⟩ := numbered_at h
    exact ⟨d', by rw [e1]; congr 3; omega, e2⟩
theorem numbered_len : ∀ {l : List D} {k : Nat}, (numbered k l).length = l.length
  | [], _ => rfl
  | x :: l, k => by simp only [numbered, List.length_cons, numbered_len]
def rngK1 : List R → Sg → Res (Itm D) := fun xs S => match asI1 xs with
    | some j => if -(2 ^ 62) ≤ j ∧ j < 2 ^ 62 then .ok ⟨fun _ => True, Dd.intsFrom 0 j.toNat⟩ S else .bad
    | none => .bad
theorem itR1_k (g : M (List R)) (S : Sg) : itR1 g S = (g S).bnd rngK1 := itR1_ap g S
theorem rngK1_i (h : -(2 ^ 62) ≤ i ∧ i < 2 ^ 62) : rngK1 [.p (.int i)] S = .ok ⟨fun _ => True, Dd.intsFrom 0 i.toNat⟩ S := if_pos h
theorem rngK1_n {d : Nat} (h : d ≤ 1000000) : rngK1 [.p (.int (d : Int))] S = .ok ⟨fun _ => True, Dd.intsFrom 0 d⟩ S := by
  have hh : -(2 ^ 62) ≤ (d : Int) ∧ (d : Int) < 2 ^ 62 := ⟨by omega, by omega⟩
  exact rngK1_i hh
theorem intsFrom_0 {lo : Int} : Dd.intsFrom lo 0 = [] := Eq.trans rfl rfl
theorem intsFrom_s {lo : Int} {n : Nat} : Dd.intsFrom lo (n + 1) = .int lo :: Dd.intsFrom (lo + 1) n := Eq.trans rfl rfl
/-! comprehensions -/
theorem lcE_ap {α : Type} (own ks : List Nat) (unp : α → Option (List D)) (it : M (Itm α)) (tt : M Bool) (f : M R) (S : Sg) : lcE own ks unp it tt f S = (it S).bnd fun I S => lcFin S (lcL I.ok (lcB own ks unp tt f) I.l [] (wipeS S own)) := by unfold lcE; rw [bind_bnd]
noncomputable def lcK {α : Type} (ok : Sg → Prop) (body : α → M (Option D)) (ds : List α) (acc : List D) : Option D → Sg → Res (List D)
  | none, S => lcL ok body ds acc S
  | some y, S => if acc.length < sizeLine then lcL ok body ds (acc ++ [y]) S else .bad
theorem lcL_nil' {α : Type} {ok : Sg → Prop} {body : α → M (Option D)} {acc : List D} (h : ok S) : lcL ok body [] acc S = .ok acc S := by unfold lcL; rw [if_pos h]
theorem lcL_cons {α : Type} {ok : Sg → Prop} {body : α → M (Option D)} {acc : List D} {d : α} {ds : List α} {S1 : Sg} {o : Option D} (h : ok S) (hb : body d S = .ok o S1) : lcL ok body (d :: ds) acc S = lcK ok body ds acc o S1 := by
  conv => lhs; unfold lcL
  rw [if_pos h, hb]
  cases o <;> rfl
/-- a comprehension whose turns leave the state as it is -/
theorem lcL_map {α : Type} {ok : Sg → Prop} {body : α → M (Option D)} {g : α → D} (hok : ok S) : ∀ (l : List α) (acc : List D), (∀ d ∈ l, body d S = .ok (some (g d)) S) → acc.length + l.length ≤ 1000000 → lcL ok body l acc S = .ok (acc ++ l.map g) S
  | [], acc, h, hl => by rw [lcL_nil' hok, List.map_nil, List.append_nil]
  | d :: ds, acc, h, hl => by
    rw [lcL_cons hok (h d List.mem_cons_self)]
    show (if acc.length < sizeLine then lcL ok body ds (acc ++ [g d]) S else .bad) = _
    rw [List.length_cons] at hl
    rw [if_pos (Nat.lt_of_lt_of_le (by omega : acc.length < 1000000) (by rw [sizeLine_eq]; decide))]
    rw [lcL_map hok ds (acc ++ [g d]) (fun x hx => h x (List.mem_cons_of_mem _ hx)) (by rw [List.length_append]; simp only [List.length_cons, List.length_nil]; omega)]
    rw [List.map_cons, List.append_assoc]; rfl
theorem lcL_mapf {α β : Type} {ok : Sg → Prop} {body : α → M (Option D)} {f : β → α} {g : β → D} (hok : ok S) : ∀ (l : List β) (acc : List D), (∀ d ∈ l, body (f d) S = .ok (some (g d)) S) → acc.length + l.length ≤ 1000000 → lcL ok body (l.map f) acc S = .ok (acc ++ l.map g) S
  | [], acc, h, hl => by rw [List.map_nil, lcL_nil' hok, List.map_nil, List.append_nil]
  | d :: ds, acc, h, hl => by
    rw [List.map_cons, lcL_cons hok (h d List.mem_cons_self)]
    show (if acc.length < sizeLine then lcL ok body (ds.map f) (acc ++ [g d]) S else .bad) = _
    rw [List.length_cons] at hl
    rw [if_pos (Nat.lt_of_lt_of_le (by omega : acc.length < 1000000) (by rw [sizeLine_eq]; decide))]
    rw [lcL_mapf hok ds (acc ++ [g d]) (fun x hx => h x (List.mem_cons_of_mem _ hx)) (by rw [List.length_append]; simp only [List.length_cons, List.length_nil]; omega)]
    rw [List.map_cons, List.append_assoc]; rfl
theorem setS_nil : setS S [] [] = S := Eq.trans rfl rfl
theorem setS_cons {k : Nat} {ks : List Nat} {d : D} {ds : List D} : setS S (k :: ks) (d :: ds) = setS ⟨S.sl.set k (some (.p d)), S.st⟩ ks ds := Eq.trans rfl rfl
theorem lcBT_ap {own ks : List Nat} {f : M R} {ds : List D} (h : ds.length = ks.length) : lcB own ks unpT tYesM f (.tup ds) S = (f (setS S ks ds)).bnd fun x S => (pure1 x S).bnd fun y S => .ok (some y) (wipeS S own) := by
  show (if ds.length = ks.length then _ else _ : Res (Option D)) = _
  rw [if_pos h]
  rfl
theorem lcBW_ap {own ks : List Nat} {f : M R} {ds : List D} (h : ds.length = ks.length) : lcB own ks unpW tYesM f ds S = (f (setS S ks ds)).bnd fun x S => (pure1 x S).bnd fun y S => .ok (some y) (wipeS S own) := by
  show (if ds.length = ks.length then _ else _ : Res (Option D)) = _
  rw [if_pos h]
  rfl
theorem lcFin_ok {S1 S' : Sg} {acc : List D} (h : acc.length ≤ 1000000) : lcFin S1 (.ok acc S') = .ok (.r S'.st.length) ⟨S1.sl, S'.st ++ [.mu (.lst acc)]⟩ := if_pos (Nat.le_trans h (by rw [sizeLine_eq]; decide))
theorem lcB1_ap {own : List Nat} {k : Nat} {f : M R} {x : D} : lcB own [k] unp1 tYesM f x S = (f ⟨S.sl.set k (some (.p x)), S.st⟩).bnd fun x S => (pure1 x S).bnd fun y S => .ok (some y) (wipeS S own) := Eq.trans rfl rfl
/-! bounds -/
theorem cdivw {j : Int} (h0 : 0 < j) (h : j < 2 ^ 1000) : CDivW i j := by
  refine ⟨h0, ?_⟩
  have h1 : j.natAbs < 2 ^ 1000 := by
    have : ((2 : Int) ^ 1000) = ((2 ^ 1000 : Nat) : Int) := by rw [Int.natCast_pow]; rfl
    rw [this] at h
    generalize (2 ^ 1000 : Nat) = z at *
    omega
  have h2 : j.natAbs ≠ 0 := by omega
  exact Nat.lt_trans ((Nat.log2_lt h2).mpr h1) (by decide)
/-- of at most so many bits -/
def Bt (n : Nat) (i : Int) : Prop := i.natAbs < 2 ^ n
theorem Bt.log2 {n : Nat} {i : Int} (h : Bt n i) : i.natAbs.log2 ≤ n := by
  by_cases h0 : i.natAbs = 0
  · rw [h0]; exact Nat.le_trans (by decide) (Nat.zero_le n)
  · exact Nat.le_of_lt ((Nat.log2_lt h0).mpr h)
theorem cmulw {n m : Nat} (h1 : Bt n i) (h2 : Bt m j) (h : n + m < 1000000 := by decide) : CMulW i j := Nat.lt_of_le_of_lt (Nat.add_le_add h1.log2 h2.log2) h
theorem cpoww {n : Nat} (h : Bt n i) (h0 : 0 ≤ j) (hz : ((n : Int) + 1) * j ≤ 2 ^ 27) : CPowW i j := ⟨h0, by
  have b : Builtin.Int.intBits i ≤ n + 1 := by
    have := h.log2
    unfold Builtin.Int.intBits; split <;> omega
  have : (Builtin.Int.intBits i : Int) * j ≤ ((n : Int) + 1) * j := Int.mul_le_mul_of_nonneg_right (by omega) h0
  omega⟩
theorem Bt.mono {n m : Nat} (h : Bt n i) (hm : n ≤ m) : Bt m i := Nat.lt_of_lt_of_le h (Nat.pow_le_pow_right (by decide) hm)
theorem Bt.of {n : Nat} (h : -(2 ^ n : Nat) < i ∧ i < (2 ^ n : Nat)) : Bt n i := by unfold Bt; omega
theorem cshl1 {j : Int} (h0 : 0 ≤ j) (h : j ≤ 1000000) : CShl 1 j := ⟨h0, by
  have : Builtin.Int.intBits 1 = 1 := by decide
  rw [this]; omega⟩
end
section
variable {st l : Store} {x y : Cell} {k n : Nat}
theorem take_self : st.take st.length = st := List.take_length
theorem take_app : (st ++ l).take st.length = st := List.take_left
theorem take_appk : (st ++ l).take (st.length + k) = st ++ l.take k := by rw [List.take_append, List.take_of_length_le (by omega)]; congr 2; omega
theorem get_app : (st ++ l)[st.length + k]? = l[k]? := by rw [List.getElem?_append_right (by omega)]; congr 1; omega
theorem get_app0 : (st ++ l)[st.length]? = l[0]? := by rw [List.getElem?_append_right (by omega)]; congr 1; omega
theorem set_app : (st ++ l).set (st.length + k) x = st ++ l.set k x := by rw [List.set_append_right _ _ (by omega)]; congr 2; omega
theorem set_app0 : (st ++ l).set st.length x = st ++ l.set 0 x := by rw [List.set_append_right _ _ (by omega)]; congr 2; omega
theorem take_set : (st.set n x).take st.length = st.set n x := by rw [← List.length_set (as := st) (i := n) (a := x)]; exact List.take_length
theorem take_set_app : (st.set n x ++ l).take st.length = st.set n x := by rw [← List.length_set (as := st) (i := n) (a := x)]; exact List.take_left
theorem get_set_app : (st.set n x ++ l)[st.length + k]? = l[k]? := by rw [← List.length_set (as := st) (i := n) (a := x)]; exact get_app
theorem get_set_app0 : (st.set n x ++ l)[st.length]? = l[0]? := by rw [← List.length_set (as := st) (i := n) (a := x)]; exact get_app0
theorem set_set_app : (st.set n x ++ l).set (st.length + k) y = st.set n x ++ l.set k y := by rw [← List.length_set (as := st) (i := n) (a := x)]; exact set_app
theorem set_set_app0 : (st.set n x ++ l).set st.length y = st.set n x ++ l.set 0 y := by rw [← List.length_set (as := st) (i := n) (a := x)]; exact set_app0
theorem get_old (h : st[n]? = some y) : (st ++ l)[n]? = some y := by rw [List.getElem?_append_left (List.getElem?_eq_some_iff.mp h).1]; exact h
theorem set_old (h : n < st.length) : (st ++ l).set n x = st.set n x ++ l := List.set_append_left _ _ h
end
section
variable {S : Sg} {α β : Type}
def augK (g : Int → Int → Int) (i : Nat) (x : Int) : R → Sg → Res Fl
  | .p (.int y), S => .ok .nx ⟨S.sl.set i (some (.p (.int (g x y)))), S.st⟩
  | _, _ => .bad
theorem augK_ap {g : Int → Int → Int} {i : Nat} {x y : Int} : augK g i x (.p (.int y)) S = .ok .nx ⟨S.sl.set i (some (.p (.int (g x y)))), S.st⟩ := Eq.trans rfl rfl
def augS (g : Int → Int → Int) (i : Nat) (f : M R) : Option (Option R) → Sg → Res Fl
  | some (some (.p (.int x))), S => (f S).bnd (augK g i x)
  | _, _ => .bad
theorem augS_ap {g : Int → Int → Int} {i : Nat} {f : M R} {x : Int} : augS g i f (some (some (.p (.int x)))) S = (f S).bnd (augK g i x) := Eq.trans rfl rfl
theorem sAug_ap (g : Int → Int → Int) (i : Nat) (f : M R) (S : Sg) : sAug g i f S = augS g i f S.sl[i]? S := by
  unfold sAug augS
  cases h : S.sl[i]? with
  | none => rfl
  | some o => cases o with
    | none => rfl
    | some r => cases r with
      | r n => rfl
      | p d => cases d with
        | int x =>
          show (match f S with | .ok (.p (.int y)) S1 => _ | .ok _ _ => _ | .exc z S1 => _ | .bad => _) = (f S).bnd _
          cases f S with
          | bad => rfl
          | exc z S1 => rfl
          | ok y S1 => cases y with
            | r n => rfl
            | p d => cases d <;> rfl
        | _ => rfl
theorem itR2L_k (g : M (List R)) (S : Sg) : itR2L g S = (g S).bnd rngL := by unfold itR2L; rw [bind_bnd]
theorem rngL_i {i j : Int} : rngL [.p (.int i), .p (.int j)] S = .ok ⟨fun _ => True, Dd.intsFrom i (j - i).toNat⟩ S := Eq.trans rfl rfl
theorem itR3_k (g : M (List R)) (S : Sg) : itR3 g S = (g S).bnd rng3 := by unfold itR3; rw [bind_bnd]
/-- x in l, both worked out -/
def inK (neg : Bool) (v : V) : Option (List D) → Sg → Res R
  | some l, S => (match flatL l with
    | some vs => .ok (.p (.bl (if neg then !inV v vs else inV v vs))) S
    | none => .bad)
  | none, _ => .bad
theorem opInG_i {neg : Bool} {i : Int} {y : R} : opInG neg (.p (.int i)) y S = inK neg (.int i) (getL y S) S := by unfold opInG inK; cases getL y S <;> rfl
theorem opInG_b {neg : Bool} {i : Bool} {y : R} : opInG neg (.p (.bl i)) y S = inK neg (.bl i) (getL y S) S := by unfold opInG inK; cases getL y S <;> rfl
theorem opInG_s {neg : Bool} {i : Str} {y : R} : opInG neg (.p (.str i)) y S = inK neg (.str i) (getL y S) S := by unfold opInG inK; cases getL y S <;> rfl
theorem opInG_n {neg : Bool} {y : R} : opInG neg (.p .non) y S = inK neg .non (getL y S) S := by unfold opInG inK; cases getL y S <;> rfl
theorem opMaxL_e {x : R} : opMaxL x S = extK maxI S (getLst x S) := Eq.trans rfl rfl
theorem opMinL_e {x : R} : opMinL x S = extK minI S (getLst x S) := Eq.trans rfl rfl
theorem opBxor_i {i j : Int} : opBxor (.p (.int i)) (.p (.int j)) S = .ok (.p (.int (Builtin.bitXor i j))) S := Eq.trans rfl rfl
def starK (g : M (List R)) : Option (List D) → Sg → Res (List R)
  | some l, S => (g S).bnd fun ys S => .ok (ofD l ++ ys) S
  | none, _ => .bad
theorem starK_ap {g : M (List R)} {l : List D} : starK g (some l) S = (g S).bnd fun ys S => .ok (ofD l ++ ys) S := Eq.trans rfl rfl
theorem aS_ap (f : M R) (g : M (List R)) (S : Sg) : aS f g S = (f S).bnd fun x S => starK g (getL x S) S := by
  unfold aS
  rw [bind_bnd]
  refine bnd_ext fun x S1 => ?_
  cases getL x S1 with
  | none => rfl
  | some l => show (match g S1 with | .ok ys S2 => _ | .exc z S2 => _ | .bad => _) = (g S1).bnd _; cases g S1 <;> rfl
theorem pureL_p : ∀ (l : List D) (xs : List R) (S : Sg), pureL (ofD l ++ xs) S = (pureL xs S).bnd fun ds S => .ok (l ++ ds) S
  | [], xs, S => by
    show pureL xs S = _
    cases pureL xs S <;> rfl
  | d :: l, xs, S => by
    show pureL (.p d :: (ofD l ++ xs)) S = _
    rw [pureL_cons, pure1_p, bnd_ok, pureL_p l xs S]
    cases pureL xs S <;> rfl
end
end Dd

open Dd in
local macro_rules | `(tactic| simp! [$ls,*]) => `(tactic| simp only [bnd_ok, bnd_exc, bnd_bad, ifK_t, ifK_f, ifK_d, ifK_n, seqK_nx, seqK_rt, seqK_bk, seqK_ct, sSq_ap, sIf_ap, sRt_ap, sRtN_ap, sNx_ap, sBad_ap, sBk_ap, sCt_ap, sEx_ap, sSet_ap, sAsg_ap, sSub_ap, sPar_ap, sParK_ap, sPar3_ap, sParK3_ap, sFor_ap, sFld_ap, vr_ap, getK_ap, ci_ap, cb_ap, cn_ap, cs_ap, cd_ap, bin_ap, uNeg_ap, toB_ap, tst_ap, mNot_ap, mAnd_ap, mOr_ap, eAnd_ap, eOr_ap, eNot_ap, eIf_ap, eChain_ap, aN_ap, aC_ap, pur_ap, pure1_p, pure1_r, pureC_lst, pureC_fz, pureL_nil, pureL_cons, tupE_ap, lstE_ap, allocT_ap, allocL_ap, callM_ap, callK_ap, applyF_val, applyF_new, applyF_if, bnd_if, runF_ap, finish_nx, finish_p, finish_r, finish_if, makeU_ap, opA_ap, op1_ap, methM_ap, attrU_ap, attrK_scr, propU_ap, isB_ap, isC_ap, isCK_scr, itL_ap, itE_ap, itR1_k, rngK1_i, intsFrom_0, intsFrom_s, gN_ap, gsN_ap, gsC_ap, gT_ap, gL_ap, getL_tup, getL_lst, getL_scp, opAdd_i, opSub_i, opMod_i, opShr_i, opBand_i, opLt_i, opLe_i, opGt_i, opGe_i, opEqD_i, opNeD_i, opInt_i, opInt_b, isK_ii, isK_ib, isK_tt, isK_ll, getLK_mu, getLK_fz, getL_r, getLst_r, getLst_lst, getLst_scp, getM_r, getM_lst, opLen_t, opLen_l, opLen_c, opLen_r, lenK_ap, opIx_t, opIx_l, opIx_c, opIx_r, ixK'_ap, ixK_0, ixK_1, ixK_2, ixK_3, appK_ap, opApp_ap, opPopAt_ap, isLst_r', methK, setAt_ap, setK_0, setK_1, setK_2, lcE_ap, wipeS_ap, wipeL_nil, wipeL_cons, lcB1_ap, lcBT_ap, lcBW_ap, setS_nil, setS_cons, opAll_r, opSum_r, sumK_ints, opSort_t, opSort_r, opTuple_t, opTuple_l, opTuple_r, tupK_ap, Option.isSome_some, Int.reduceAdd, Int.reduceSub, Int.reduceMul, Int.reduceLT, Int.reduceLE, Int.reduceNeg, Int.reducePow, Int.reduceDiv, Int.reduceMod, Int.reduceToNat, Nat.reduceEqDiff, Int.cast_ofNat_Int, opAbs_i, opMax2_i, opMin2_i, sAug_ap, augS_ap, augK_ap, itR2L_k, rngL_i, itR3_k, opIn, opNotIn, opInG_i, opInG_b, opInG_s, opInG_n, opMaxL_e, opMinL_e, opBxor_i, aS_ap, starK_ap, pureL_p, List.map_cons, List.map_nil, List.length_cons, List.length_nil, List.cons_append, List.nil_append, List.append_assoc, List.replicate, List.set_cons_zero, List.set_cons_succ, List.set_nil, List.getElem?_cons_zero, List.getElem?_cons_succ, List.getElem?_nil, List.length_append, List.length_set, take_self, take_app, take_appk, List.take_succ_cons, List.take_zero, List.take_nil, get_app, get_app0, set_app, set_app0, take_set, take_set_app, get_set_app, get_set_app0, set_set_app, set_set_app0, List.set_set, Nat.reduceAdd, Nat.reduceSub, Nat.reduceMul, Nat.reduceLeDiff, Nat.reduceLT, Nat.zero_add, Nat.add_zero, Bool.not_true, Bool.not_false, Bool.not_not, if_true, if_false, ite_true, ite_false, eq_self_iff_true, decide_true, decide_false, Bool.true_and, Bool.false_and, Bool.and_true, Bool.and_false, reduceCtorEq, and_self, and_true, true_and, $ls,*])

set_option Elab.async false
set_option linter.all false
set_option maxRecDepth 100000
namespace Dd
open PySem PySem.Spec PyProof.Rows L2
/-! ### what holds behind a run -/
structure PkQ {α β : Type} (Q : α → β → Prop) : Type where
def Wp {α : Type} (r : Res α) (Q : α → Sg → Prop) (u : PkQ Q := ⟨⟩) : Prop := ∃ a S, r = .ok a S ∧ Q a S
def WpF (r : FRes) (Q : FR → Store → Prop) (u : PkQ Q := ⟨⟩) : Prop := ∃ a st, r = .ok a st ∧ Q a st
section
variable {α β : Type} {S : Sg} {Q : α → Sg → Prop} {QF : FR → Store → Prop}
theorem wp_ok {a : α} (h : Q a S) : Wp (.ok a S) Q := ⟨a, S, rfl, h⟩
theorem wp_bnd {r : Res β} {k : β → Sg → Res α} (h : Wp r fun b S => Wp (k b S) Q) : Wp (r.bnd k) Q := by
  obtain ⟨b, S1, e, a, S2, e2, q⟩ := h
  exact ⟨a, S2, by rw [e, bnd_ok, e2], q⟩
theorem wp_imp {r : Res α} {Q' : α → Sg → Prop} (h : Wp r Q) (k : ∀ a S, Q a S → Q' a S) : Wp r Q' := by
  obtain ⟨a, S, e, q⟩ := h
  exact ⟨a, S, e, k a S q⟩
theorem bnd_bnd {γ : Type} {r : Res γ} {k : γ → Sg → Res β} {k' : β → Sg → Res α} : (r.bnd k).bnd k' = r.bnd fun a S => (k a S).bnd k' := by cases r <;> rfl
theorem wpf_bnd {r : Res β} {k : β → Sg → Res Fl} {b : Nat} (h : Wp r fun a S => WpF (finish b (k a S)) QF) : WpF (finish b (r.bnd k)) QF := by
  obtain ⟨a, S, e, q⟩ := h
  rw [e, bnd_ok]; exact q
theorem wpf_ok {a : FR} {st : Store} (h : QF a st) : WpF (.ok a st) QF := ⟨a, st, rfl, h⟩
theorem wp_if {p : Prop} [Decidable p] {a b : Res α} (h1 : p → Wp a Q) (h2 : ¬ p → Wp b Q) : Wp (if p then a else b) Q := by
  by_cases h : p
  · rw [if_pos h]; exact h1 h
  · rw [if_neg h]; exact h2 h
/-- a loop by its invariant; an early return by Q -/
theorem wp_loop {ok : Sg → Prop} {body : β → M Fl} {l : List β} {Q : Fl → Sg → Prop} (I : Nat → Sg → Prop) (h0 : I 0 S) (hok : ∀ j S, I j S → ok S)
    (hs : ∀ j d S, l[j]? = some d → I j S → Wp (body d S) fun f S' => match f with
      | .nx => I (j + 1) S'
      | .ct => I (j + 1) S'
      | .bk => Q .nx S'
      | .rt x => Q (.rt x) S')
    (hd : ∀ S, I l.length S → Q .nx S) : Wp (loopL ok body l S) Q := by
  have gen : ∀ (l' : List β) (i : Nat) (S : Sg), i + l'.length = l.length → (∀ j d, l'[j]? = some d → l[i + j]? = some d) → I i S → Wp (loopL ok body l' S) Q := by
    intro l'
    induction l' with
    | nil =>
      intro i S hi hl hI
      refine ⟨.nx, S, loopL_nil (hok _ _ hI), hd S ?_⟩
      rw [← hi]; exact hI
    | cons d ds ih =>
      intro i S hi hl hI
      rw [loop_cons (hok _ _ hI)]
      refine wp_bnd (wp_imp (hs i d S (hl 0 d rfl) hI) fun f S' q => ?_)
      have go : I (i + 1) S' → Wp (loopL ok body ds S') Q := fun q => ih (i + 1) S' (by rw [List.length_cons] at hi; omega) (fun j d' hj => by
        have := hl (j + 1) d' (by simpa using hj)
        rwa [show i + (j + 1) = i + 1 + j by omega] at this) q
      cases f with
      | nx => exact go q
      | ct => exact go q
      | bk => exact wp_ok q
      | rt x => exact wp_ok q
  exact gen l 0 S (by omega) (fun j d hj => by rw [Nat.zero_add]; exact hj) h0
/-- a comprehension -/
theorem wp_lc {ok : Sg → Prop} {body : β → M (Option D)} {l : List β} {Q : List D → Sg → Prop} (I : Nat → List D → Sg → Prop) (h0 : I 0 [] S) (hok : ∀ j acc S, I j acc S → ok S) (hl : l.length ≤ 1000000)
    (hs : ∀ j d acc S, l[j]? = some d → acc.length ≤ j → I j acc S → Wp (body d S) fun o S' => match o with
      | some y => I (j + 1) (acc ++ [y]) S'
      | none => I (j + 1) acc S')
    (hd : ∀ acc S, I l.length acc S → Q acc S) : Wp (lcL ok body l [] S) Q := by
  have gen : ∀ (l' : List β) (i : Nat) (acc : List D) (S : Sg), i + l'.length = l.length → acc.length ≤ i → (∀ j d, l'[j]? = some d → l[i + j]? = some d) → I i acc S → Wp (lcL ok body l' acc S) Q := by
    intro l'
    induction l' with
    | nil =>
      intro i acc S hi ha hl hI
      refine ⟨acc, S, lcL_nil' (hok _ _ _ hI), hd acc S ?_⟩
      rw [← hi]; exact hI
    | cons d ds ih =>
      intro i acc S hi ha hl' hI
      rw [List.length_cons] at hi
      obtain ⟨o, S1, e, q⟩ := hs i d acc S (hl' 0 d rfl) ha hI
      rw [lcL_cons (hok _ _ _ hI) e]
      have nx : ∀ j d', ds[j]? = some d' → l[i + 1 + j]? = some d' := fun j d' hj => by
        have := hl' (j + 1) d' (by simpa using hj)
        rwa [show i + (j + 1) = i + 1 + j by omega] at this
      cases o with
      | none => exact ih (i + 1) acc S1 (by omega) (by omega) nx q
      | some y =>
        show Wp (if acc.length < sizeLine then lcL ok body ds (acc ++ [y]) S1 else .bad) Q
        rw [if_pos (Nat.lt_of_lt_of_le (by omega : acc.length < 1000000 + 1) (by rw [sizeLine_eq]; decide))]
        exact ih (i + 1) (acc ++ [y]) S1 (by omega) (by rw [List.length_append]; simp only [List.length_cons, List.length_nil]; omega) nx q
  exact gen l 0 [] S (by omega) (Nat.le_refl _) (fun j d hj => by rw [Nat.zero_add]; exact hj) h0
theorem wp_lcFin {S1 : Sg} {r : Res (List D)} {Q : R → Sg → Prop} (h : Wp r fun acc S' => acc.length ≤ 1000000 ∧ Q (.r S'.st.length) ⟨S1.sl, S'.st ++ [.mu (.lst acc)]⟩) : Wp (lcFin S1 r) Q := by
  obtain ⟨acc, S', e, hl, q⟩ := h
  exact ⟨_, _, by rw [e, lcFin_ok hl], q⟩
end
end Dd

set_option Elab.async false
set_option linter.all false
set_option maxRecDepth 100000
namespace Dd
open PySem PySem.Spec PyProof.Rows L2
section
variable {X : Cx} {c : Cg} {W : WX} {Γ : Gh} {G : Hp} {o a b e e4 : Expr} {es : List Expr} {f fa fb fc fd : M R} {g : M (List R)} {pos pos' p p' apos : Pos} {S : Sg}
/-! ### list(range(n)) -/
/-! ### a op b op c op d -/
/-! ### list.count of ints, list.extend by a list -/
/-! ### in a list of data -/
/-! ### tuples put together -/
/-! ### a method of a screen -/
end
end Dd

set_option Elab.async false
set_option linter.all false
set_option maxRecDepth 100000
namespace Dd
open PySem PySem.Spec PyProof.Rows L2
section
variable {X : Cx} {c : Cg} {W : WX} {a b e o : Expr} {f fa fb : M R} {g : M (List R)} {pos p apos : Pos} {k n : Nat} {F : Fn} {fA : Addr} {fd : FuncData} {ps : List Str}
/-! ### an own == -/
def insC : Option Cell → Option (Nat × List (Str × D))
  | some (.mu (.obj k fs)) => some (k, fs)
  | _ => none
theorem insOf_rC {i : Nat} {S : Sg} : insOf (.r i) S = insC S.st[i]? := by
  unfold insOf insC
  rfl
/-! ### a module's tuple of ints and texts -/
/-! ### attributes and methods of an object in a cell -/
def attrC (k : Nat) (f' : Str) (S : Sg) : Option Cell → Res R
  | some (.mu (.obj k' fs)) => if k' = k then (match (fs.lookup f').bind atD with
      | some d => .ok (.p d) S
      | none => .bad) else .bad
  | _ => .bad
theorem attrK_r {f' : Str} {i : Nat} {S : Sg} : attrK k f' (.r i) S = attrC k f' S S.st[i]? := by
  unfold attrK
  rw [insOf_rC]
  generalize S.st[i]? = z
  rcases z with _ | ((l | kv | ⟨k', fs⟩) | l | _) <;> rfl
def fldC (k : Nat) (f' : Str) (d : D) (n : Nat) (S : Sg) : Option Cell → Res Fl
  | some (.mu (.obj k' fs)) => if k' = k ∧ fs.length < 900 then .ok .nx { S with st := S.st.set n (.mu (.obj k' (putD f' d fs))) } else .bad
  | _ => .bad
theorem fldK_r {f' : Str} {d : D} {n : Nat} {S : Sg} : fldK k f' d (.r n) S = fldC k f' d n S S.st[n]? := by
  unfold fldK fldC
  rfl
theorem fldC_ap {f' : Str} {d : D} {n : Nat} {fs : List (Str × D)} {S : Sg} (h : fs.length < 900) : fldC k f' d n S (some (.mu (.obj k fs))) = .ok .nx ⟨S.sl, S.st.set n (.mu (.obj k (putD f' d fs)))⟩ := by
  exact if_pos ⟨rfl, h⟩
def methC (k : Nat) (m : Str) (F : Fn) (n : Nat) (g : M (List R)) (x : R) (S : Sg) : Res R := match insOf x S with
  | some (k', fs) => if k' = k ∧ fs.lookup m = none then (g S).bnd fun xs S => callK F n (x :: xs) S else .bad
  | none => .bad
theorem methU_r (k : Nat) (m : Str) (F : Fn) (n : Nat) (f : M R) (g : M (List R)) (S : Sg) : methU k m F n f g S = (f S).bnd (methC k m F n g) := by
  unfold methU
  rw [bind_bnd]
  refine bnd_ext fun x S1 => ?_
  unfold methC
  cases insOf x S1 with
  | none => rfl
  | some q =>
    obtain ⟨k', fs⟩ := q
    by_cases h : k' = k ∧ fs.lookup m = none
    · show (if k' = k ∧ fs.lookup m = none then callM F n _ S1 else .bad) = (if k' = k ∧ fs.lookup m = none then _ else .bad)
      rw [if_pos h, if_pos h, callM_ap, bind_bnd]
      cases g S1 <;> rfl
    · show (if k' = k ∧ fs.lookup m = none then callM F n _ S1 else .bad) = (if k' = k ∧ fs.lookup m = none then _ else .bad)
      rw [if_neg h, if_neg h]
def methCC (k : Nat) (m : Str) (F : Fn) (n : Nat) (g : M (List R)) (i : Nat) (S : Sg) : Option Cell → Res R
  | some (.mu (.obj k' fs)) => if k' = k ∧ fs.lookup m = none then (g S).bnd fun xs S => callK F n (.r i :: xs) S else .bad
  | _ => .bad
theorem methC_r {m : Str} {g : M (List R)} {i : Nat} {S : Sg} : methC k m F n g (.r i) S = methCC k m F n g i S S.st[i]? := by
  unfold methC
  rw [insOf_rC]
  generalize S.st[i]? = z
  rcases z with _ | ((l | kv | ⟨k', fs⟩) | l | _) <;> rfl
theorem methCC_ap {m : Str} {g : M (List R)} {i : Nat} {fs : List (Str × D)} {S : Sg} (h : fs.lookup m = none) : methCC k m F n g i S (some (.mu (.obj k fs))) = (g S).bnd fun xs S => callK F n (.r i :: xs) S := by
  exact if_pos ⟨rfl, h⟩
def propC (k : Nat) (F : Fn) (i : Nat) (S : Sg) : Option Cell → Res R
  | some (.mu (.obj k' _)) => if k' = k then (match F [.r i] S.st with
      | .exc _ _ => .bad
      | r => applyF S r) else .bad
  | _ => .bad
theorem propK_r {i : Nat} {S : Sg} : propK k F (.r i) S = propC k F i S S.st[i]? := by
  unfold propK
  rw [insOf_rC]
  generalize S.st[i]? = z
  rcases z with _ | ((l | kv | ⟨k', fs⟩) | l | _) <;> rfl
def noX : FRes → FRes
  | .exc _ _ => .bad
  | r => r
theorem propC_ap {i : Nat} {fs : List (Str × D)} {S : Sg} : propC k F i S (some (.mu (.obj k fs))) = applyF S (noX (F [.r i] S.st)) := by
  show (if k = k then (match F [.r i] S.st with
      | .exc _ _ => Res.bad
      | r => applyF S r) else Res.bad) = _
  rw [if_pos rfl]
  cases F [.r i] S.st <;> rfl
theorem noX_ok {r : FR} {st : Store} : noX (.ok r st) = .ok r st := Eq.trans rfl rfl
/-! ### {} -/
end
end Dd

set_option Elab.async false
set_option linter.all false
set_option maxRecDepth 100000
namespace Dd
open PySem PySem.Spec PyProof.Rows L2
open PySem.W (dataLt minD keyToks keyToksAll AlikeAll alike alikeAll)
/-! ### min of a list of pairs of ints -/
section
variable {X : Cx} {c : Cg} {W : WX} {a : Expr} {f : M R} {pos p : Pos}
end
/-! ### min of a tuple of ints -/
section
variable {X : Cx} {c : Cg} {W : WX} {a : Expr} {f : M R} {pos p : Pos}
end
/-! ### zip of two lists -/
section
variable {X : Cx} {c : Cg} {W : WX} {e e2 : Expr} {f f2 : M R} {pos p tpos : Pos} {elts : List Expr} {kk : Nat}
end
end Dd

set_option Elab.async false
set_option linter.all false
set_option maxRecDepth 100000
namespace Dd
open PySem PySem.Spec PyProof.Rows L2
/-! ### xs[::-1] -/
section
variable {X : Cx} {c : Cg} {W : WX} {e stp : Expr} {f : M R} {s : M (Option Int)} {pos p2 : Pos}
end
/-! ### list.count of texts -/
section
variable {X : Cx} {c : Cg} {W : WX} {o a : Expr} {f fa : M R} {apos : Pos}
end
end Dd

set_option Elab.async false
set_option linter.all false
set_option maxRecDepth 100000
namespace Dd
open PySem PySem.Spec PyProof.Rows L2
/-! ### a thing of one's own, kept aside while others are made -/
section
variable {c : Cg} {W : WX} {Γ : Gh} {S : Sg} {σ : L2.St} {H : Hp} {p : Addr} {o o' : HO}
theorem StOk.dropL {st : Store} {L : Hp} (F : StOk c Γ st H) (e : Ext L Γ.L) : StOk c { Γ with L := L } st H where
  g := F.g
  l := e.trans F.l
  gl := fun a u h => F.gl a u (e _ _ h)
  len := F.len
  cell := fun n x a e1 e2 => by
    have q := F.cell n x a e1 e2
    cases x with
    | mu u =>
      obtain ⟨w, h1, h2, h3, h4⟩ := q
      refine ⟨w, h1, ?_, h3, Ext.none e h4⟩
      cases u with
      | lst l => exact h2
      | dct kvs => exact h2
      | dt kvs => exact h2
      | obj k fs => obtain ⟨dx, vs, k1', k2', k3'⟩ := h2; exact ⟨dx, vs, k1', RepF.mono (Γ := Γ) (Γ' := { Γ with L := L }) Ext.refl (fun _ _ _ q => q) k2', k3'⟩
    | fz l => exact q
    | dead => trivial
  inj := F.inj
  own := fun b a f ws q => let ⟨k1, k2, k3, k4⟩ := F.own b a f ws q; ⟨k1, k2, Ext.none e k3, k4⟩
theorem RepR.L {L : Hp} : ∀ {x : R} {v : V}, RepR c { Γ with L := L } x v ↔ RepR c Γ x v
  | .p _, _ => Iff.rfl
  | .r _, _ => Iff.rfl
theorem FrOk.dropL {L : Hp} (F : FrOk c Γ S σ H) (e : Ext L Γ.L) : FrOk c { Γ with L := L } S σ H := ⟨F.s.dropL e, F.len, fun i x h => let ⟨v, h1, h2⟩ := F.sl i x h; ⟨v, h1, RepR.L.mpr h2⟩⟩
/-- a wish, with more kept -/
theorem Post.keep {α : Type} {r : Res α} {K : α → Sg → Gh → Hp → Prop} {L : Hp} (P : Post c W σ Γ r K) (e : Ext Γ.L L) : Post c W σ { Γ with L := L } r fun a S' Γ' H' => Γ'.L = L ∧ K a S' { Γ' with L := Γ.L } H' := by
  cases r with
  | ok a S1 =>
    intro Γ' H' le F
    have hL : Γ'.L = L := le.l
    refine ⟨hL, P { Γ' with L := Γ.L } H' ⟨le.g, rfl, le.r⟩ (F.dropL (by rw [hL]; exact e))⟩
  | exc x S1 =>
    intro Γ' H' cls dd le F q
    have hL : Γ'.L = L := le.l
    exact P { Γ' with L := Γ.L } H' cls dd ⟨le.g, rfl, le.r⟩ (F.dropL (by rw [hL]; exact e)) q
  | bad => exact P
end
/-! ### {a: b, c: d}.get(x, y), all ints -/
section
variable {X : Cx} {c : Cg} {W : WX} {k1 v1 k2 v2 e f : Expr} {fa fb fc fd fx fy : M R} {pos cpos apos : Pos} {u1 u2 : Option Expr}
end
end Dd

set_option Elab.async false
set_option linter.all false
set_option maxRecDepth 100000
namespace Dd
open PySem PySem.Spec PyProof.Rows L2
/-! ### texts: join, split, sorted, int, str, a loop over signs -/
def isStr (x : R) (_ : Sg) : Bool := match x with
  | .p (.str _) => true
  | _ => false
section
variable {X : Cx} {c : Cg} {W : WX} {o a e : Expr} {f fa : M R} {apos pos p : Pos} {tg : Expr}
end
end Dd

set_option Elab.async false
set_option linter.all false
set_option maxRecDepth 100000
namespace Dd
open PySem PySem.Spec PyProof.Rows L2
/-! ### sorted of a text -/
section
variable {X : Cx} {c : Cg} {W : WX} {a : Expr} {f : M R} {p pos : Pos}
end
end Dd

set_option Elab.async false
set_option linter.all false
set_option maxRecDepth 100000
namespace Dd
open PySem PySem.Spec PyProof.Rows L2
open PySem.W (dataLe EachIs AllAlike Sortable)
/-! ### sorted of a list of pairs of ints -/
section
variable {X : Cx} {c : Cg} {W : WX} {a : Expr} {f : M R} {pos p : Pos}
end
end Dd

set_option Elab.async false
set_option linter.all false
set_option maxRecDepth 100000
namespace Dd
open PySem PySem.Spec PyProof.Rows L2
/-! ### text.count, text[::-1] -/
section
variable {X : Cx} {c : Cg} {W : WX} {o a e stp : Expr} {f fa : M R} {s : M (Option Int)} {apos pos p2 : Pos}
end
/-! ### an int as a test -/
section
variable {X : Cx} {c : Cg} {W : WX} {e : Expr} {f : M R}
end
end Dd

set_option Elab.async false
set_option linter.all false
set_option maxRecDepth 100000
namespace Dd
open PySem PySem.Spec PyProof.Rows L2
mutual
/-- without texts the hash does not depend on the world -/
theorem hash_plain (w w' : World) : ∀ k : NestedKey, noTxt k = true → k.hash w = k.hash w'
  | .none, _ => rfl
  | .num i, _ => rfl
  | .text x, h => by simp [noTxt] at h
  | .tup ks, h => by
    have h : noTxts ks = true := by simpa [noTxt] using h
    show reduceHash (Builtin.Tuple.tupleHashOf (NestedKey.hashes w ks)) = reduceHash (Builtin.Tuple.tupleHashOf (NestedKey.hashes w' ks))
    rw [hashes_plain w w' ks h]
theorem hashes_plain (w w' : World) : ∀ ks : List NestedKey, noTxts ks = true → NestedKey.hashes w ks = NestedKey.hashes w' ks
  | [], _ => rfl
  | k :: ks, h => by
    have h : (noTxt k && noTxts ks) = true := by simpa [noTxts] using h
    rw [Bool.and_eq_true] at h
    show NestedKey.hash w k :: NestedKey.hashes w ks = NestedKey.hash w' k :: NestedKey.hashes w' ks
    rw [hash_plain w w' k h.1, hashes_plain w w' ks h.2]
end
mutual
theorem nested_of {X : Cx} {c : Cg} {G : Hp} {pins : List (Addr × Obj)} {σ : L2.St} {H : Hp} {s : Shared} (hK : X.K = c.K) (I : Inv X pins σ H s) (hG : Ext G H) : ∀ (d : D) (v : V) (u : Value) (k : NestedKey), Rep c G d v → nkD d = some k → RelV v u → NestedIs s.heap k u
  | .int i, v, u, k, h, e, r => by
    have hv := Rep.int_iff.mp h
    subst hv
    obtain ⟨t, rfl⟩ := r
    have e : some (NestedKey.num i) = some k := by rw [← e]; unfold nkD; rfl
    cases e
    exact .int i t
  | .bl b, v, u, k, h, e, r => by
    have hv := Rep.bl_iff.mp h
    subst hv
    cases r
    have e : some (NestedKey.num (if b = true then 1 else 0)) = some k := by rw [← e]; unfold nkD; rfl
    cases e
    exact .bool rfl
  | .tup l, v, u, k, h, e, r => by
    obtain ⟨a, vs, rfl, ht, hl⟩ := Rep.tup_iff.mp h
    cases r
    unfold nkD at e
    cases q : nkL l with
    | none => rw [q] at e; cases e
    | some ks =>
      rw [q] at e
      cases e
      obtain ⟨its, rv, ⟨o, ho, hc, n, hd⟩, _⟩ := I.tuple (hK ▸ (TupS.mono hG ht).sq)
      exact .tup ho hc hd (by rw [List.toList_toArray]; exact nested_all hK I hG l vs its ks hl q rv)
  | .non, _, _, _, _, e, _ => by unfold nkD at e; cases e
  | .str _, _, _, _, _, e, _ => by unfold nkD at e; cases e
  | .lst _, _, _, _, _, e, _ => by unfold nkD at e; cases e
  | .edct, _, _, _, _, e, _ => by unfold nkD at e; cases e
  | .scp _, _, _, _, _, e, _ => by unfold nkD at e; cases e
  | .scr _, _, _, _, _, e, _ => by unfold nkD at e; cases e
  | .fn _, _, _, _, _, e, _ => by unfold nkD at e; cases e
  | .opq _, _, _, _, _, e, _ => by unfold nkD at e; cases e
  | .ol _, _, _, _, _, e, _ => by unfold nkD at e; cases e
  | .exn _ _, _, _, _, _, e, _ => by unfold nkD at e; cases e
theorem nested_all {X : Cx} {c : Cg} {G : Hp} {pins : List (Addr × Obj)} {σ : L2.St} {H : Hp} {s : Shared} (hK : X.K = c.K) (I : Inv X pins σ H s) (hG : Ext G H) : ∀ (ds : List D) (vs : List V) (us : List Value) (ks : List NestedKey), RepL c G ds vs → nkL ds = some ks → Vals vs us → NestedAll s.heap ks us
  | [], vs, us, ks, h, e, r => by
    rw [RepL.nil_iff.mp h] at r
    cases r
    unfold nkL at e
    cases e
    exact .nil
  | d :: ds, vs, us, ks, h, e, r => by
    obtain ⟨v, rr, rfl, h1, h2⟩ := RepL.cons_iff.mp h
    cases r with
    | cons r1 r2 =>
      unfold nkL at e
      cases q : nkD d with
      | none => rw [q] at e; cases e
      | some k =>
        rw [q] at e
        simp only at e
        cases q2 : nkL ds with
        | none => rw [q2] at e; cases e
        | some ks' =>
          rw [q2] at e
          cases e
          exact .cons (nested_of hK I hG d v _ k h1 q r1) (nested_all hK I hG ds rr _ ks' h2 q2 r2)
end
theorem RawAt.same {w0 : World} {d : Addr} {xs : List (NestedKey × Addr × Value)} {ep : Nat} {h h' : Heap} (x : RawAt w0 d xs ep h) (e : ∀ o, h.get? d = some o → h'.get? d = some o) : RawAt w0 d xs ep h' := by
  obtain ⟨z, m, o, es, h1, h2⟩ := x
  exact ⟨z, m, o, es, e o h1, h2⟩
/-- the entries seen by the kit's rules .. -/
theorem RawAt.dict {prog : Program} {w w0 : World} {d : Addr} {xs : List (NestedKey × Addr × Value)} {ep : Nat} {h : Heap} (x : RawAt w0 d xs ep h) (hk : ∀ x ∈ xs, noTxt x.1 = true ∧ NestedIs h x.1 (.ref x.2.1) ∧ x.1.depth ≤ 8) : h.DictOfH (nestedKind prog w) d xs := by
  obtain ⟨_, _, o, es, h1, h2, h3, h4, h5⟩ := x
  refine ⟨o, es, ep, h1, h2, h3, ?_, fun y hy => ⟨(hk y hy).2.1, (hk y hy).2.2⟩, h5⟩
  rw [h4]
  refine List.map_congr_left fun y hy => ?_
  show (⟨y.1.hash w0, .ref y.2.1, y.2.2⟩ : DictEntry) = ⟨y.1.hash w, .ref y.2.1, y.2.2⟩
  rw [hash_plain w0 w y.1 (hk y hy).1]
/-- .. and back -/
theorem RawAt.of {prog : Program} {w w0 : World} {d : Addr} {xs : List (NestedKey × Addr × Value)} {h : Heap} (z : xs.length ≤ sizeLine) (m : (d == sysModules) = false) (x : h.DictOfH (nestedKind prog w) d xs) (hk : ∀ x ∈ xs, noTxt x.1 = true) : ∃ ep, RawAt w0 d xs ep h := by
  obtain ⟨o, es, ep, h1, h2, h3, h4, h5, h6⟩ := x
  refine ⟨ep, z, m, o, es, h1, h2, h3, ?_, h6⟩
  rw [h4]
  refine List.map_congr_left fun y hy => ?_
  show (⟨y.1.hash w, .ref y.2.1, y.2.2⟩ : DictEntry) = ⟨y.1.hash w0, .ref y.2.1, y.2.2⟩
  rw [hash_plain w w0 y.1 (hk y hy)]
/-- the keys are what they are -/
def KeysOk (h : Heap) (xs : List (NestedKey × Addr × Value)) : Prop := ∀ x ∈ xs, noTxt x.1 = true ∧ NestedIs h x.1 (.ref x.2.1) ∧ x.1.depth ≤ 8
section
variable {X : Cx} {pins : List (Addr × Obj)} {σ : L2.St} {H : Hp} {s : Shared} {A : Around} {E : Value → Shared → Prop} {w0 : World} {a b : Addr} {xs : List (NestedKey × Addr × Value)} {ep : Nat} {k : NestedKey}
end
section
variable {X : Cx} {o e f i value : Expr} {pos pos' apos cpos : Pos} {td ty tx tv : TE}
end
section
variable {X : Cx} {o e f i value : Expr} {pos pos' apos cpos : Pos} {td ty tx tv : TE}
end
/-! ### for .. in d.items() -/
section
variable {X : Cx} {e : Expr} {td : TE} {apos cpos tpos : Pos} {elts : List Expr} {kk : Nat}
end
end Dd

set_option Elab.async false
set_option linter.all false
set_option maxRecDepth 100000
namespace Dd
open PySem PySem.Spec PyProof.Rows L2
/-! ### dicts with nested keys, as cells -/
def dfind (k : NestedKey) : List (D × D) → Option D
  | [] => none
  | kv :: r => if nkD kv.1 = some k then some kv.2 else dfind k r
def dput (k : NestedKey) (kd v : D) (kvs : List (D × D)) : List (D × D) :=
  if (dfind k kvs).isSome then kvs.map (fun p => if nkD p.1 = some k then (p.1, v) else p) else kvs ++ [(kd, v)]
section
variable {c : Cg} {G : Hp}
theorem KvOk.find {k : NestedKey} : ∀ {kvs : List (D × D)} {xs : List (NestedKey × Addr × Value)}, KvOk c G kvs xs → (dfind k kvs = none ∧ atKey xs k = none) ∨ ∃ d b u vv, dfind k kvs = some d ∧ atKey xs k = some (b, u) ∧ Rep c G d vv ∧ RelV vv u
  | [], _, h => by
    have h : _ = [] := h
    subst h
    exact .inl ⟨rfl, rfl⟩
  | kv :: r, _, h => by
    obtain ⟨nk, b, u, vv, t, rfl, h2, h3, h4, h5, h6, h7, h8⟩ := h
    by_cases e : nk = k
    · subst e
      exact .inr ⟨kv.2, b, u, vv, by unfold dfind; rw [if_pos h3], by simp [atKey], h6, h7⟩
    · have e1 : dfind k (kv :: r) = dfind k r := by unfold dfind; rw [if_neg (by rw [h3]; intro z; exact e (Option.some.inj z))]; cases r <;> rfl
      have e2 : atKey ((nk, b, u) :: t) k = atKey t k := by simp [atKey, List.find?_cons, e]
      rw [e1, e2]
      exact KvOk.find h8
theorem KvOk.length : ∀ {kvs : List (D × D)} {xs : List (NestedKey × Addr × Value)}, KvOk c G kvs xs → xs.length = kvs.length
  | [], _, h => by
    have h : _ = [] := h
    subst h; rfl
  | kv :: r, _, h => by
    obtain ⟨nk, b, u, vv, t, rfl, h2, h3, h4, h5, h6, h7, h8⟩ := h
    simp [KvOk.length h8]
theorem KvOk.upd {k : NestedKey} {v : D} {w : V} {r : Value} (hv : Rep c G v w) (hr : RelV w r) : ∀ {kvs : List (D × D)} {xs : List (NestedKey × Addr × Value)}, KvOk c G kvs xs → KvOk c G (kvs.map (fun p => if nkD p.1 = some k then (p.1, v) else p)) (xs.map (putAt k r))
  | [], _, h => by
    have h : _ = [] := h
    subst h; rfl
  | kv :: rr, _, h => by
    obtain ⟨nk, b, u, vv, t, rfl, h2, h3, h4, h5, h6, h7, h8⟩ := h
    by_cases e : nk = k
    · subst e
      refine ⟨nk, b, r, w, _, by simp [putAt], ?_, ?_, h4, h5, ?_, hr, KvOk.upd hv hr h8⟩
      · simp only [h3, if_true]; exact h2
      · simp only [h3, if_true]
      · simp only [h3, if_true]; exact hv
    · have ne : ¬ nkD kv.1 = some k := by rw [h3]; intro z; exact e (Option.some.inj z)
      refine ⟨nk, b, u, vv, _, by simp [putAt, e], ?_, ?_, h4, h5, ?_, h7, KvOk.upd hv hr h8⟩
      · simp only [if_neg ne]; exact h2
      · simp only [if_neg ne]; exact h3
      · simp only [if_neg ne]; exact h6
theorem KvOk.snoc {k : NestedKey} {kd v : D} {b : Addr} {w : V} {r : Value} (hk : Rep c G kd (.ref b)) (hn : nkD kd = some k) (k8 : k.depth ≤ 8) (kt : noTxt k = true) (hv : Rep c G v w) (hr : RelV w r) : ∀ {kvs : List (D × D)} {xs : List (NestedKey × Addr × Value)}, KvOk c G kvs xs → KvOk c G (kvs ++ [(kd, v)]) (xs ++ [(k, b, r)])
  | [], _, h => by
    have h : _ = [] := h
    subst h
    exact ⟨k, b, r, w, [], rfl, hk, hn, k8, kt, hv, hr, rfl⟩
  | kv :: rr, _, h => by
    obtain ⟨nk, b', u, vv, t, rfl, h2, h3, h4, h5, h6, h7, h8⟩ := h
    exact ⟨nk, b', u, vv, _, rfl, h2, h3, h4, h5, h6, h7, KvOk.snoc hk hn k8 kt hv hr h8⟩
theorem KvOk.put {k : NestedKey} {kd v : D} {b : Addr} {w : V} {r : Value} {kvs : List (D × D)} {xs : List (NestedKey × Addr × Value)} (h : KvOk c G kvs xs) (hk : Rep c G kd (.ref b)) (hn : nkD kd = some k) (k8 : k.depth ≤ 8) (kt : noTxt k = true) (hv : Rep c G v w) (hr : RelV w r) :
    KvOk c G (dput k kd v kvs) (storedH xs k b r) := by
  unfold dput storedH
  rcases h.find (k := k) with ⟨e1, e2⟩ | ⟨d, b', u, vv, e1, e2, _⟩
  · rw [e1, e2]; exact h.snoc hk hn k8 kt hv hr
  · rw [e1, e2]; exact h.upd hv hr
theorem KvOk.get : ∀ {kvs : List (D × D)} {xs : List (NestedKey × Addr × Value)} {i : Nat} {kv : D × D}, KvOk c G kvs xs → kvs[i]? = some kv → ∃ nk b u vv, xs[i]? = some (nk, b, u) ∧ Rep c G kv.1 (.ref b) ∧ Rep c G kv.2 vv ∧ RelV vv u
  | [], _, i, kv, h, e => by simp at e
  | kv' :: r, _, i, kv, h, e => by
    obtain ⟨nk, b, u, vv, t, rfl, h2, h3, h4, h5, h6, h7, h8⟩ := h
    cases i with
    | zero => simp at e; subst e; exact ⟨nk, b, u, vv, rfl, h2, h6, h7⟩
    | succ i => exact KvOk.get (i := i) h8 (by simpa using e)
theorem KvOk.keys {X : Cx} {pins : List (Addr × Obj)} {σ : L2.St} {H : Hp} {s : Shared} (hK : X.K = c.K) (I : Inv X pins σ H s) (hG : Ext G H) : ∀ {kvs : List (D × D)} {xs : List (NestedKey × Addr × Value)}, KvOk c G kvs xs → KeysOk s.heap xs
  | [], _, h => by
    have h : _ = [] := h
    subst h
    intro x hx; simp at hx
  | kv :: r, _, h => by
    obtain ⟨nk, b, u, vv, t, rfl, h2, h3, h4, h5, h6, h7, h8⟩ := h
    intro x hx
    rcases List.mem_cons.mp hx with e | e
    · subst e
      exact ⟨h5, nested_of hK I hG _ _ _ _ h2 h3 rfl, h4⟩
    · exact KvOk.keys hK I hG h8 x e
end
/-! ### the operations -/
section
variable {c : Cg} {Γ : Gh} {S : Sg} {σ : L2.St} {H : Hp} {x : R} {v : V} {W : WX}
end
section
variable {X : Cx} {c : Cg} {W : WX} {o e f i value : Expr} {fo fk fx fv : M R} {pos pos' apos cpos tpos : Pos} {elts : List Expr} {kk : Nat}
end
end Dd

set_option Elab.async false
set_option linter.all false
set_option maxRecDepth 100000
namespace Dd
open PySem PySem.Spec PyProof.Rows L2
/-! ### zip of any number of lists and tuples -/
/-- an iterator, what it walks, whether that is a tuple -/
abbrev Sz := Addr × Addr × Bool
def SrcAt (h : Heap) (y : Sz) (i : Nat) : Prop := (y.2.2 = true ∧ h.IsTupleIter y.1 y.2.1 i) ∨ (y.2.2 = false ∧ h.IsListIter y.1 y.2.1 i)
def SeqAt (h : Heap) (y : Sz) (items : Array Value) : Prop := (y.2.2 = true ∧ h.IsTuple y.2.1 items) ∨ (y.2.2 = false ∧ h.IsList y.2.1 items)
theorem SrcAt.same {h h' : Heap} {y : Sz} {i : Nat} (q : SrcAt h y i) (k : ∀ o, h.get? y.1 = some o → h'.get? y.1 = some o) : SrcAt h' y i := by
  rcases q with ⟨a, q⟩ | ⟨a, q⟩
  · exact .inl ⟨a, q.at k⟩
  · exact .inr ⟨a, q.at k⟩
theorem SeqAt.same {h h' : Heap} {y : Sz} {its : Array Value} (q : SeqAt h y its) (k : ∀ o, h.get? y.2.1 = some o → h'.get? y.2.1 = some o) : SeqAt h' y its := by
  rcases q with ⟨a, q⟩ | ⟨a, q⟩
  · exact .inl ⟨a, q.at k⟩
  · exact .inr ⟨a, q.at k⟩
section
variable {prog : Program} {w : World} {A : Around} {E : Value → Shared → Prop} {s : Shared}
end
/-- what each gives next -/
def Heads (h : Heap) (i : Nat) : List Sz → List Value → Prop
  | [], xs => xs = []
  | y :: ys, xs => ∃ x t its, xs = x :: t ∧ SrcAt h y i ∧ SeqAt h y its ∧ its[i]? = some x ∧ Heads h i ys t
/-- one of them ends -/
def Stops (h : Heap) (i : Nat) : List Sz → Prop
  | [] => False
  | y :: ys => ∃ its, SrcAt h y i ∧ SeqAt h y its ∧ (its[i]? = none ∨ ((∃ x, its[i]? = some x) ∧ Stops h i ys))
theorem Heads.same {h h' : Heap} {i : Nat} : ∀ {ys : List Sz} {xs : List Value}, Heads h i ys xs → (∀ y ∈ ys, (∀ o, h.get? y.1 = some o → h'.get? y.1 = some o) ∧ ∀ o, h.get? y.2.1 = some o → h'.get? y.2.1 = some o) → Heads h' i ys xs
  | [], _, q, _ => q
  | y :: ys, _, q, k => by
    obtain ⟨x, t, its, e, a, b, d, r⟩ := q
    obtain ⟨k1, k2⟩ := k y (by simp)
    exact ⟨x, t, its, e, a.same k1, b.same k2, d, r.same fun y hy => k y (by simp [hy])⟩
theorem Stops.same {h h' : Heap} {i : Nat} : ∀ {ys : List Sz}, Stops h i ys → (∀ y ∈ ys, (∀ o, h.get? y.1 = some o → h'.get? y.1 = some o) ∧ ∀ o, h.get? y.2.1 = some o → h'.get? y.2.1 = some o) → Stops h' i ys
  | [], q, _ => q
  | y :: ys, q, k => by
    obtain ⟨its, a, b, d⟩ := q
    obtain ⟨k1, k2⟩ := k y (by simp)
    exact ⟨its, a.same k1, b.same k2, d.imp id fun ⟨x, r⟩ => ⟨x, r.same fun y hy => k y (by simp [hy])⟩⟩
/-- the cells lie apart -/
structure ZApart (z TI TO : Addr) (ys : List Sz) : Prop where
  tiz : TI ≠ z
  toz : TO ≠ z
  tito : TI ≠ TO
  ti : ∀ y ∈ ys, TI ≠ y.1
  zi : ∀ y ∈ ys, z ≠ y.1
  toi : ∀ y ∈ ys, TO ≠ y.1
  ii : (ys.map (·.1)).Nodup
  lz : ∀ y ∈ ys, y.2.1 ≠ z
  lto : ∀ y ∈ ys, y.2.1 ≠ TO
  li : ∀ y ∈ ys, ∀ y' ∈ ys, y.2.1 ≠ y'.1
theorem ZApart.tail {z TI TO : Addr} {y : Sz} {ys : List Sz} (D : ZApart z TI TO (y :: ys)) : ZApart z TI TO ys :=
  ⟨D.tiz, D.toz, D.tito, fun y h => D.ti y (by simp [h]), fun y h => D.zi y (by simp [h]), fun y h => D.toi y (by simp [h]), (List.nodup_cons.mp D.ii).2, fun y h => D.lz y (by simp [h]), fun y h => D.lto y (by simp [h]), fun y h y' h' => D.li y (by simp [h]) y' (by simp [h'])⟩
theorem ZApart.hd {z TI TO : Addr} {y : Sz} {ys : List Sz} (D : ZApart z TI TO (y :: ys)) : ∀ y' ∈ ys, y'.1 ≠ y.1 := fun y' h e =>
  (List.nodup_cons.mp D.ii).1 (List.mem_map.mpr ⟨y', h, e⟩)
section
variable {prog : Program} {w : World} {A : Around} {E : Value → Shared → Prop} {z TI TO : Addr} {β : Type} {r0 : β} {f : Value × Nat → β → Sem (ForInStep β)} {i : Nat}
end
section
variable {prog : Program} {w : World} {A : Around} {E : Value → Shared → Prop} {s : Shared} {z TI TO : Addr} {ys : List Sz} {i : Nat}
end
section
variable {prog : Program} {w : World} {A : Around} {E : Value → Shared → Prop} {s : Shared} {z TI TO : Addr} {ys : List Sz} {i : Nat}
end
/-! ### .. as a loop's iterator -/
/-- what is walked: an address, whether it is a tuple -/
def SqX (K : PySem.W.Frag) (H : Hp) (q : Addr × Bool) (xs : List V) : Prop := (q.2 = true ∧ SqT K H q.1 xs) ∨ (q.2 = false ∧ SqL K H q.1 xs)
section
variable {X : Cx} {pins : List (Addr × Obj)} {σ : L2.St} {H : Hp} {s : Shared} {i : Nat}
theorem SqX.inj (I : Inv X pins σ H s) {q : Addr × Bool} {xs ys : List V} (h1 : SqX X.K H q xs) (h2 : SqX X.K H q ys) : xs = ys := by
  rcases h1 with ⟨a, h1⟩ | ⟨a, h1⟩ <;> rcases h2 with ⟨b, h2⟩ | ⟨b, h2⟩
  · exact I.tuple_inj h1 h2
  · rw [a] at b; cases b
  · rw [a] at b; cases b
  · exact I.list_inj h1 h2
theorem SqX.seq (I : Inv X pins σ H s) {y : Sz} {xs : List V} (h : SqX X.K H y.2 xs) : ∃ its : List Value, Vals xs its ∧ SeqAt s.heap y its.toArray := by
  rcases h with ⟨a, h⟩ | ⟨a, h⟩
  · obtain ⟨its, rv, p, _⟩ := I.tuple h
    exact ⟨its, rv, .inl ⟨a, p⟩⟩
  · obtain ⟨its, rv, p, _⟩ := I.list h
    exact ⟨its, rv, .inr ⟨a, p.isList⟩⟩
end
/-! ### zip(..) made -/
section
variable {prog : Program} {w : World} {A : Around} {E : Value → Shared → Prop}
end
section
variable {X : Cx} {e : Expr} {es : List Expr} {ta : TA} {p pos tpos : Pos} {elts : List Expr} {kk n : Nat}
end
end Dd

set_option Elab.async false
set_option linter.all false
set_option maxRecDepth 100000
namespace Dd
open PySem PySem.Spec PyProof.Rows L2
/-! ### zip of any number of lists and tuples -/
section
variable {c : Cg} {Γ : Gh} {S : Sg} {σ : L2.St} {H : Hp} {i : Nat}
end
theorem RepRL.sub {c : Cg} {Γ Γ' : Gh} (e : Γ.sub Γ') : ∀ {x : List R} {v : List V}, RepRL c Γ x v → RepRL c Γ' x v
  | [], v, h => h
  | x :: xs, v, h => by
    obtain ⟨u, r, h1, h2, h3⟩ := h
    exact ⟨u, r, h1, RepR.sub e h2, RepRL.sub e h3⟩
section
variable {X : Cx} {c : Cg} {W : WX} {e : Expr} {es : List Expr} {g : M (List R)} {pos p tpos : Pos} {elts : List Expr} {kk n : Nat}
end
end Dd

set_option Elab.async false
set_option linter.all false
set_option maxRecDepth 100000
namespace Dd
open PySem PySem.Spec PyProof.Rows L2
/-! ### a list's item op= an int -/
section
variable {X : Cx} {c : Cg} {W : WX} {o i e : Expr} {fo fi fe : M R} {tpos pos : Pos} {op : Operator} {gg : Int → Int → Int}
end
/-! ### is True, is False -/
section
variable {X : Cx} {c : Cg} {W : WX} {a b : Expr} {fa fb : M R} {pos : Pos}
end
/-! ### xs != [], whatever the list holds -/
section
variable {X : Cx} {c : Cg} {W : WX} {a b : Expr} {fa fb : M R} {pos : Pos}
end
end Dd

set_option Elab.async false
set_option linter.all false
set_option maxRecDepth 100000
namespace Dd
open PySem PySem.Spec PyProof.Rows L2
/-! ### names in parallel, some of them cells: by a tuple -/
section
variable {X : Cx} {c : Cg} {W : WX} {x y z : Str} {a b d : Expr} {g : M (List R)} {px py pz pt pos : Pos} {k2 pt2} {kt : Nat} {i j l : Nat}
end
end Dd

set_option Elab.async false
set_option linter.all false
set_option maxRecDepth 100000
set_option maxHeartbeats 1000000
/-! own exceptions: raise, try .. except DitherError as e, isinstance -/
namespace Dd
open PySem PySem.Spec PyProof.Rows L2
/-! ### a try whose suite keeps the exception -/
section
variable {X : Cx} {pins : List (Addr × Obj)} {σ : L2.St} {H : Hp} {s : Shared}
end
section
variable {X : Cx} {x n : Str} {cv : Value} {i : Nat} {body suite : List Stmt} {b₀ : Stmt} {np pos pos' : Pos} {tb : WX → TS} {ts : TS}
end
/-! ### the classes, as the top has written them -/
def veT : List Value := [.type "ValueError", .type "Exception", .type "BaseException", .type "object"]
/-- the names of the own exceptions, from number 100 on -/
def xnms : List Str := ["DitherError", "InvalidLevels", "InvalidPlates", "InvalidConditions", "InvalidSeen", "InvalidText", "TooDeep", "OverInk", "InvalidScreen", "InvalidShade", "InvalidWindow", "InvalidPlace", "InvalidSide", "InvalidKind", "InvalidNumber", "InvalidRows", "InvalidLimit", "InvalidOperation", "Nothing", "InvalidCommand"]
def xnm (k : Nat) : Str := xnms.getD (k - 100) ""
def xmro (cls : Nat → Addr) (k : Nat) : List Value := if k = 100 then veT else .ref (cls 100) :: veT
structure XcF (K : PySem.W.Frag) (cls : Nat → Addr) (k : Nat) : Prop where
  ob : ∃ q N bs hd sn sub ab col dd k0 k1 k2 k3 k5, K.lookup (cls k) = some (excClassObj (xnm k) q (cls k) N bs (xmro cls k) hd sn sub ab col dd k0 k1 k2 k3 k5 "ValueError.__new__")
  ga : PySem.W.findIn K (.ref (cls k)) "__getattribute__" = some (some (.builtin "BaseException.__getattribute__"))
  gg : PySem.W.findIn K (.ref (cls k)) "__getattr__" = some none
  ha : PySem.W.findIn K (.ref (cls k)) "__class__" = some (some (.builtin "object.__class__"))
  kC : PySem.W.keepIn K (.ref (cls k)) = true
/-- all of them -/
structure Xcs (K : PySem.W.Frag) (cls : Nat → Addr) : Prop where
  x : ∀ k, 100 ≤ k → k ≤ 119 → XcF K cls k
  hn : PySem.W.specialIn K (.builtin "object.__class__") "__get__" = some (some (.builtin "getset_descriptor.__get__"))
  tk : PySem.W.takesIn K (.builtin "object.__class__") = some true
section
variable {K : PySem.W.Frag} {cls : Nat → Addr} {k j : Nat}
theorem XcF.cd (h : XcF K cls k) : ∃ cd, PySem.W.clsIn K (cls k) = some cd ∧ cd.mro = .ref (cls k) :: xmro cls k ∧ cd.name = xnm k := by
  obtain ⟨q, N, bs, hd, sn, sub, ab, col, dd, k0, k1, k2, k3, k5, e⟩ := h.ob
  exact ⟨_, by unfold PySem.W.clsIn; rw [e] <;> rfl, rfl, rfl⟩
theorem XcF.isC (h : XcF K cls k) : (PySem.W.clsIn K (cls k)).isSome = true := by
  obtain ⟨cd, e, _⟩ := h.cd
  rw [e]; rfl
theorem XcF.sub (h : XcF K cls k) (b : Value) : PySem.W.subIn K (.ref (cls k)) b = some ((Value.ref (cls k) :: xmro cls k).contains b) := by
  obtain ⟨cd, e, m, _⟩ := h.cd
  show PySem.W.mroIn K (cls k) b = _
  unfold PySem.W.mroIn
  rw [e, Option.bind_some, m]
  rfl
theorem XcF.ty (h : XcF K cls k) : PySem.W.typeIn K (.ref (cls k)) = some (.type "type") := by
  obtain ⟨q, N, bs, hd, sn, sub, ab, col, dd, k0, k1, k2, k3, k5, e⟩ := h.ob
  show (K.lookup (cls k)).map (·.cls) = _
  rw [e]; rfl
theorem xmro_ty (T : String) : (Value.ref (cls k) :: xmro cls k).contains (.type T) = veT.contains (.type T) := by
  unfold xmro
  by_cases h : k = 100
  · rw [if_pos h, List.contains_cons]; rfl
  · rw [if_neg h, List.contains_cons, List.contains_cons]; rfl
theorem XcF.exC (h : XcF K cls k) : PySem.W.subIn K (.ref (cls k)) (.type "BaseException") = some true := by
  rw [h.sub, xmro_ty]; decide
theorem xnm_ne : ∀ k j, 100 ≤ k → k ≤ 119 → 100 ≤ j → j ≤ 119 → k ≠ j → xnm k ≠ xnm j := by
  have e : ∀ k : Fin 20, ∀ j : Fin 20, k ≠ j → xnms.getD k.1 "" ≠ xnms.getD j.1 "" := by decide +kernel
  intro k j h1 h2 h3 h4 hk
  exact e ⟨k - 100, by omega⟩ ⟨j - 100, by omega⟩ (fun z => hk (by have := congrArg Fin.val z; simp at this; omega))
theorem Xcs.ne (h : Xcs K cls) (h1 : 100 ≤ k) (h2 : k ≤ 119) (h3 : 100 ≤ j) (h4 : j ≤ 119) (hk : k ≠ j) : cls k ≠ cls j := fun z => by
  obtain ⟨cd, e, _, n⟩ := (h.x k h1 h2).cd
  obtain ⟨cd', e', _, n'⟩ := (h.x j h3 h4).cd
  rw [z, e'] at e
  cases e
  exact xnm_ne k j h1 h2 h3 h4 hk (n.symm.trans n')
/-- is an exception of the one class one of the other -/
def xsub (k j : Nat) : Bool := k == j || j == 100
theorem Xcs.has (h : Xcs K cls) (h1 : 100 ≤ k) (h2 : k ≤ 119) (h3 : 100 ≤ j) (h4 : j ≤ 119) : (Value.ref (cls k) :: xmro cls k).contains (.ref (cls j)) = xsub k j := by
  have vt : veT.contains (Value.ref (cls j)) = false := by
    unfold veT; simp
  have eq : ∀ a b, 100 ≤ a → a ≤ 119 → 100 ≤ b → b ≤ 119 → (Value.ref (cls a) == Value.ref (cls b)) = (a == b) := fun a b x1 x2 x3 x4 => by
    by_cases q : a = b
    · subst q; simp
    · have n1 : cls a ≠ cls b := h.ne x1 x2 x3 x4 q
      have : (Value.ref (cls a) == Value.ref (cls b)) = false := by
        refine Bool.eq_false_iff.mpr fun z => n1 (Value.ref.inj (beq_iff_eq.mp z))
      rw [this]; simp [q]
  unfold xsub xmro
  by_cases q : k = 100
  · rw [if_pos q, List.contains_cons, vt, Bool.or_false, eq j k h3 h4 h1 h2]
    subst q
    by_cases w : j = 100
    · subst w; rfl
    · simp [w, Ne.symm w]
  · rw [if_neg q, List.contains_cons, List.contains_cons, vt, Bool.or_false, eq j k h3 h4 h1 h2, eq j 100 h3 h4 (by omega) (by omega)]
    by_cases w : j = k
    · subst w; simp
    · have w1 : (j == k) = false := by simpa using w
      have w2 : (k == j) = false := by simpa using Ne.symm w
      rw [w1, w2]
end
/-! ### raise -/
/-- raise C(text), C the class k -/
def sRaise (k : Nat) : M Fl := raiseX ⟨k, .non⟩
section
variable {X : Cx} {c : Cg} {W : WX} {e a : Expr} {f : M R} {p pos pos2 : Pos} {k : Nat} {t : Str}
theorem ss_raise (nm : Str) (hc : X.calm = true) (hK : X.K = c.K) (tk : Takes X W) (xc : XcF c.K c.cls k) (h1 : 108 ≤ k) (h2 : k ≤ 119) (xi : PySem.W.excIn c.K (c.cls k) veT "ValueError.__new__" = true) (gC : X.mg nm = some (.ref (c.cls k)))
    (he : PE X a (rdE c W (cs t))) (hg : Gl X nm := by rfl) (hs : starEach [a] X.env = (false, eval a X.env) :: starEach [] X.env := by rfl) (hdb : (nm == ("__debug__" : Str)) = false := by decide) :
    PS X (.Raise (some (.Call (.Name nm p) [a] [] pos)) none pos2) (rdS c W (sRaise k)) := by
  refine ss_of (ps_raise hc tk (SkE.pmk_own1 (bmB := veT) PySem.F.excBase_ValueError (by rw [hK]; exact xi) gC (by rw [hK]; exact xc.kC) (raises_own (by rw [hK]; exact xc.exC) (by rw [hK]; exact xc.ty)) hg he hs hdb)) fun E σ H q => ?_
  obtain ⟨Γ, S, F, P⟩ := q
  exact ⟨Γ, S, F, fun Γ' H' le F' v hv => P Γ' σ H' _ none le F' ⟨rfl, .inl ⟨rfl, rfl, .inr h1⟩⟩⟩
end
/-! ### try -/
section
variable {X : Cx} {c : Cg} {W : WX} {n : Str} {i : Nat} {body suite : List Stmt} {b₀ : Stmt} {np pos pos' : Pos} {h g : M Fl}
theorem FrOk.out {Γ : Gh} {S : Sg} {σ : L2.St} {H : Hp} (i : Nat) (F : FrOk c Γ S σ H) : FrOk c Γ { S with sl := S.sl.set i none } (σ.set i none) H := by
  refine ⟨F.s, by simp [F.len], fun j x e => ?_⟩
  simp only at e
  by_cases hj : j = i
  · subst hj
    by_cases hl : j < S.sl.length
    · rw [List.getElem?_set_self hl] at e; cases e
    · rw [List.getElem?_eq_none (by simpa using hl)] at e; cases e
  · rw [List.getElem?_set_ne (Ne.symm hj)] at e ⊢
    exact F.sl j x e
end
/-! ### isinstance of an own exception -/
section
variable {X : Cx} {c : Cg} {W : WX}
variable {a b : Expr} {f : M R} {p pos : Pos}
end
end Dd

set_option Elab.async false
set_option linter.all false
set_option maxRecDepth 100000
set_option maxHeartbeats 2000000
/-! own exceptions with an attribute: made by their own __init__, read by its name (printed by mkzn.py) -/
namespace Dd
open PySem PySem.W PySem.Calls PyProof.Rows PySem.HandSPX
def xA (f : Str) (p1 p2 : Pos) : Arguments := { posonlyargs := [], args := [{ arg := "self", annotation := none, pos := p1 }, { arg := f, annotation := none, pos := p2 }], vararg := none, kwonlyargs := [], kw_defaults := [], kwarg := none, defaults := [] }
def xB (f : Str) (q1 q2 q3 q4 : Pos) : List Stmt := [.Assign [.Attribute (.Name "self" q1) f q2] (.Name f q3) q4]
def xS (f : Str) : Scope := { kind := .function, names := [(PySem.Str.ofString "self", .local), (f, .local)], isGenerator := false, isCoroutine := false, more := [] }
theorem xsz (v : Value) : [v].length ≤ sizeLine := by
  rw [sizeLine_eq]
  exact (by decide : 1 ≤ 16777216)
theorem xld {M : Model} {s : Shared} {name : Str} {scope : Scope} {L a : Addr} {cd : Value} {m : Str → Option Value} {x : Str} {pos : Pos} {v : Value} {Q : Value → Shared → Prop} {A : Around} {E : Value → Shared → Prop} (hn : s.heap.Ns L m) (hv : m x = some v) (h : Q v s)
    (hk : scope.kind = .function := by rfl) (hl : (envOfC name scope L a cd).kindOf x = some .local := by rfl) (hd : (x == ("__debug__" : Str)) = false := by decide) : wpAny M A (eval (.Name x pos) (envOfC name scope L a cd)) Q E s :=
  wpAny_Name (wpAny_loadName_local hk hl hn hv h) hd
/-- behind __init__ of a new exception at x -/
structure XEnd (f : Str) (h h' : Heap) (x C dx t1 : Addr) (v : Value) : Prop where
  keep : ∀ b o, b ≠ x → h.get? b = some o → h'.get? b = some o
  obj : h'.get? x = some { cls := .ref C, dict := some dx, data := .fields #[.ref t1, .none, .none, .none, .bool false, .none] }
  dbig : h.objs.size ≤ dx
  dne : dx ≠ x
  ns : h'.Ns1 dx (fun y => if y = f then some v else none)
/-- behind the making -/
structure XMade (f : Str) (h h' : Heap) (e C d : Addr) (v : Value) : Prop where
  keep : ∀ b o, h.get? b = some o → h'.get? b = some o
  new : h.objs.size ≤ e
  obj : ∃ oe vs, h'.get? e = some oe ∧ oe.cls = .ref C ∧ oe.dict = some d ∧ oe.data = .fields vs ∧ vs[1]? = some .none
  dbig : h.objs.size ≤ d
  dne : d ≠ e
  ns : h'.Ns1 d (fun y => if y = f then some v else none)
def XInit (K : Frag) (C fI : Addr) (f : Str) : Prop := ∀ (prog : Program) (w : World) (A : Around) (R : Result → Shared → Prop) (s : Shared) (x t0 : Addr) (v : Value), K.In s.heap → s.heap.NoLimit → s.heap.get? x = some (excO C t0) → K.lookup x = none → A.depth < recursionLimit →
  (∀ h' tk dx, XEnd f s.heap h' x C dx t0 v → R (.ok (.ret .none)) { s with heap := h', toks := tk }) → codeAny (model prog w) A (.call (.ref fI) ⟨[.ref x, v], []⟩) R s
/-- what the written part says of such a class -/
structure XfF (K : Frag) (cls : Nat → Addr) (k : Nat) : Prop where
  sa : findIn K (.ref (cls k)) "__setattr__" = some (some (.builtin "object.__setattr__"))
  no : findIn K (.ref (cls k)) (fldN k) = some none
  hd : hasDictIn K (cls k) = true
  ini : ∃ fI, findIn K (.ref (cls k)) "__init__" = some (some (.ref fI)) ∧ typeIn K (.ref fI) = some (.type "function") ∧ XInit K (cls k) fI (fldN k)
theorem xinit_level {K : Frag} {C fI : Addr} {q : Str} {oc : Value} {od : Option Addr} {doc pm : Value} {an : Option Addr} {cdv ct : Value} {osl : Array (Option Value)} {p1 p2 q1 q2 q3 q4 : Pos}
    (cl : ∃ nm qq N bs bm sn sub ab col dd k0 k1 k2 k3 k5, K.lookup C = some (excClassObj nm qq C N bs bm true sn sub ab col dd k0 k1 k2 k3 k5 "ValueError.__new__") ∧ refsVE bm = true)
    (sa : findIn K (.ref C) "__setattr__" = some (some (.builtin "object.__setattr__"))) (no : findIn K (.ref C) "level" = some none)
    (ho : K.lookup fI = some ⟨oc, od, .func (fnOf "__init__" q (xA "level" p1 p2) (xB "level" q1 q2 q3 q4) (xS "level") .none .none doc pm an cdv ct), osl⟩) (hcd : codeIn K cdv q = true) : XInit K C fI "level" := by
  intro prog w A R s x t0 v X hlim hx hnx hroom hq
  obtain ⟨nm, qq, N, bs, bm, sn, sub, ab, col, dd, k0, k1, k2, k3, k5, hC, hbm⟩ := cl
  have hcl : clsIn K C = some { name := nm, bases := bs, mro := .ref C :: bm, ns := N, qualname := qq, hasDict := true, slotNames := sn, subclasses := sub, abstract := ab, collection := col, hasDel := false } := by unfold clsIn; rw [hC] <;> rfl
  refine Att.call_fn (binds := [("self", .ref x), ("level", v)]) X hlim ho hcd hroom (BindsTo.of_eq (by first | rfl | with_unfolding_all rfl)) (by first | rfl | decide | with_unfolding_all rfl) (fun s₁ IC => ?_) rfl rfl rfl
  obtain ⟨h₁, tk₁, rfl⟩ := IC.toInCall.same
  have k : ∀ b o, s.heap.get? b = some o → h₁.get? b = some o := IC.toInCall.keep
  have hn := IC.toInCall.ns
  have X₁ : K.In h₁ := X.keeps k
  have hx₁ := k _ _ hx
  show wpAny _ _ (execs _ _) _ _ _
  refine wpAny_execs_cons (plainObj_wpAny_Assign_Attribute ?_)
  refine xld (v := v) hn (by first | rfl | with_unfolding_all rfl | kernel_rfl) (xld (v := .ref x) hn (by first | rfl | with_unfolding_all rfl | kernel_rfl) ?_)
  refine set_plain X₁ (ox := excO C t0) (od := none) ⟨hx₁, rfl, rfl, trivial⟩ sa ?_
  refine exc_osa X₁ hx₁ hcl (show refsVE (.ref C :: bm) = true from hbm) rfl no (fun h₃ tk₃ dx k₃ dn dne hx₃ hn₃ => ?_)
  show wpAny _ _ (execs _ _) _ _ _
  have z : s.heap.objs.size < h₁.objs.size := hn.lt
  exact wpAny_execs_nil (hq h₃ tk₃ dx ⟨fun b o hb e => k₃ b o hb (k b o e), hx₃, Nat.le_of_lt (Nat.lt_of_lt_of_le z dn), dne, hn₃⟩)
theorem xinit_count {K : Frag} {C fI : Addr} {q : Str} {oc : Value} {od : Option Addr} {doc pm : Value} {an : Option Addr} {cdv ct : Value} {osl : Array (Option Value)} {p1 p2 q1 q2 q3 q4 : Pos}
    (cl : ∃ nm qq N bs bm sn sub ab col dd k0 k1 k2 k3 k5, K.lookup C = some (excClassObj nm qq C N bs bm true sn sub ab col dd k0 k1 k2 k3 k5 "ValueError.__new__") ∧ refsVE bm = true)
    (sa : findIn K (.ref C) "__setattr__" = some (some (.builtin "object.__setattr__"))) (no : findIn K (.ref C) "count" = some none)
    (ho : K.lookup fI = some ⟨oc, od, .func (fnOf "__init__" q (xA "count" p1 p2) (xB "count" q1 q2 q3 q4) (xS "count") .none .none doc pm an cdv ct), osl⟩) (hcd : codeIn K cdv q = true) : XInit K C fI "count" := by
  intro prog w A R s x t0 v X hlim hx hnx hroom hq
  obtain ⟨nm, qq, N, bs, bm, sn, sub, ab, col, dd, k0, k1, k2, k3, k5, hC, hbm⟩ := cl
  have hcl : clsIn K C = some { name := nm, bases := bs, mro := .ref C :: bm, ns := N, qualname := qq, hasDict := true, slotNames := sn, subclasses := sub, abstract := ab, collection := col, hasDel := false } := by unfold clsIn; rw [hC] <;> rfl
  refine Att.call_fn (binds := [("self", .ref x), ("count", v)]) X hlim ho hcd hroom (BindsTo.of_eq (by first | rfl | with_unfolding_all rfl)) (by first | rfl | decide | with_unfolding_all rfl) (fun s₁ IC => ?_) rfl rfl rfl
  obtain ⟨h₁, tk₁, rfl⟩ := IC.toInCall.same
  have k : ∀ b o, s.heap.get? b = some o → h₁.get? b = some o := IC.toInCall.keep
  have hn := IC.toInCall.ns
  have X₁ : K.In h₁ := X.keeps k
  have hx₁ := k _ _ hx
  show wpAny _ _ (execs _ _) _ _ _
  refine wpAny_execs_cons (plainObj_wpAny_Assign_Attribute ?_)
  refine xld (v := v) hn (by first | rfl | with_unfolding_all rfl | kernel_rfl) (xld (v := .ref x) hn (by first | rfl | with_unfolding_all rfl | kernel_rfl) ?_)
  refine set_plain X₁ (ox := excO C t0) (od := none) ⟨hx₁, rfl, rfl, trivial⟩ sa ?_
  refine exc_osa X₁ hx₁ hcl (show refsVE (.ref C :: bm) = true from hbm) rfl no (fun h₃ tk₃ dx k₃ dn dne hx₃ hn₃ => ?_)
  show wpAny _ _ (execs _ _) _ _ _
  have z : s.heap.objs.size < h₁.objs.size := hn.lt
  exact wpAny_execs_nil (hq h₃ tk₃ dx ⟨fun b o hb e => k₃ b o hb (k b o e), hx₃, Nat.le_of_lt (Nat.lt_of_lt_of_le z dn), dne, hn₃⟩)
/-- the class called -/
theorem xmade {prog : Program} {w : World} {A : Around} {R : Result → Shared → Prop} {s : Shared} {K : Frag} {cls : Nat → Addr} {k : Nat} (xc : XcF K cls k) (T : XfF K cls k) {v : Value} (X : K.In s.heap) (hlim : s.heap.NoLimit) (hroom : A.depth + 1 < recursionLimit)
    (hq : ∀ h' tk e d, XMade (fldN k) s.heap h' e (cls k) d v → R (.ok (.ret (.ref e))) { s with heap := h', toks := tk }) : codeAny (model prog w) A (.call (.ref (cls k)) ⟨[v], []⟩) R s := by
  obtain ⟨q, N, bs, hd, sn, sub, ab, col, dd, k0, k1, k2, k3, k5, hC⟩ := xc.ob
  obtain ⟨fI, iC, tC, ini⟩ := T.ini
  have hbm : refsVE (xmro cls k) = true := by
    unfold xmro
    by_cases h : k = 100
    · rw [if_pos h]; decide +kernel
    · rw [if_neg h]; show refsVE veT = true; decide +kernel
  obtain ⟨hp, g, dr, tk, os⟩ := s
  have kp : ∀ b o, hp.get? b = some o → ((hp.push (kdv_tup [v])).push (excO (cls k) hp.objs.size)).get? b = some o := fun b o e => Heap.get?_push_of_some _ (Heap.get?_push_of_some _ e)
  have hget : ((hp.push (kdv_tup [v])).push (excO (cls k) hp.objs.size)).get? (hp.objs.size + 1) = some (excO (cls k) hp.objs.size) := by heap_get
  have hnx : K.lookup (hp.objs.size + 1) = none := by
    cases e : K.lookup (hp.objs.size + 1) with
    | none => rfl
    | some o =>
      have z : hp.get? (hp.objs.size + 1) = some o := X _ _ e
      exact absurd (Nat.lt_of_succ_lt (Heap.lt_size z)) (Nat.lt_irrefl _)
  refine call_own F.excBase_ValueError (fun X => refsVE_contains X _ hbm) (X _ _ hC) (looks_findIn X iC) (fun self => bind_fn X self tC) (xsz v) ?_
  refine ini prog w _ _ ⟨(hp.push (kdv_tup [v])).push (excO (cls k) hp.objs.size), g, dr, tk, os⟩ _ _ v (X.keeps kp) (hlim.keeps kp) hget hnx ?_ fun h' tk' dx ⟨k', hx, dn, dne, hns⟩ => ?_
  · show A.depth + 1 < recursionLimit
    exact hroom
  · have old : ∀ b o, hp.get? b = some o → h'.get? b = some o := fun b o e => k' b o (Nat.ne_of_lt (Nat.lt_succ_of_lt (Heap.lt_size e))) (kp b o e)
    have z : hp.objs.size + 1 + 1 ≤ dx := by
      first
        | (simpa only [Heap.size_push] using dn)
        | exact dn
        | (have q := dn; rw [Heap.size_push, Heap.size_push] at q; exact q)
    exact ⟨rfl, hq h' tk' (hp.objs.size + 1) dx ⟨old, Nat.le_succ _, ⟨_, _, hx, rfl, rfl, rfl, rfl⟩, Nat.le_trans (Nat.le_trans (Nat.le_succ _) (Nat.le_succ _)) z, dne, hns⟩⟩
end Dd
namespace Dd
open PySem PySem.Spec PyProof.Rows L2
theorem relO_one {v : V} {v' : Value} {n : Str} (r : RelV v v') (f : Str) : RelO (List.lookup f [(n, v)]) (if f = n then some v' else none) := by
  by_cases hw : f = n
  · subst hw
    rw [if_pos rfl]
    have q : List.lookup f [(f, v)] = some v := by simp [List.lookup]
    rw [q]
    exact r
  · rw [if_neg hw]
    have qw : (f == n) = false := by simpa using hw
    have q2 : List.lookup f [(n, v)] = none := by simp [List.lookup, qw]
    rw [q2]
    trivial
section
variable {X : Cx} {c : Cg} {W : WX}
/-- C(e), C of the number k -/
def tMkF (C : Addr) (f : Str) (ta : TA) : L2.St → Hp → XK → Prop := fun σ H Q => ta σ H fun vs H1 => ∃ v, vs = [v] ∧ ∀ d, H1 d = none → Q (.ref C) (some d) (upd H1 d (.xd [(f, v)]))
theorem pmk_fld {cls : Nat → Addr} {k kr : Nat} {nm : Str} {a : Expr} {ta : TA} {p pos : Pos} (xc : XcF X.K cls k) (T : XfF X.K cls k) (gC : X.mg nm = some (.ref (cls k))) (hr : Room (kr + 1) X.A) (ha : PA X [a] ta) (hg : Gl X nm) (hdb : (nm == ("__debug__" : Str)) = false)
    (he : starEach (a :: []) X.env = (false, eval a X.env) :: starEach [] X.env := by rfl) (hpl : (backTo pos (starEach [] X.env)).any (·.1) = false := by rfl) :
    PMk X (.Call (.Name nm p) [a] [] pos) (tMkF (cls k) (fldN k) ta) := by
  intro pins s σ H Q I h
  refine wpAny_Call_Name_kw (ld_glob I hg gC ?_ hdb)
  refine PySem.W.callWith_K (h₀ := X.base) I.ok.mod.kin xc.kC (thn (ha.run pos pins s σ H _ I h) fun us s1 hh => ?_) he hpl
  obtain ⟨vs, H1, I1, r1, v, ev, q1⟩ := hh
  subst ev
  refine ⟨I1.kIn, ?_⟩
  cases r1 with
  | cons rv rn =>
    rename_i v' us'
    cases rn
    show wpAny _ _ (call (.ref (cls k)) [v']) _ _ _
    have hlim := I1.nolimit
    obtain ⟨hp, g, dr, tk, os⟩ := s1
    refine wpAny_call (xmade xc T I1.kIn hlim (by have := hr.dp; omega) fun h' tk' e d M => ?_)
    show MkP X pins σ Q (.ref e) ⟨h', g, dr, tk', os⟩
    obtain ⟨oe, fv, hoe, hc, hd, hdat, h1⟩ := M.obj
    have hns := M.ns
    obtain ⟨G', g1, g2⟩ := restrict h' fun b => decide (b ≠ e)
    have gk : ∀ b, b ≠ e → G'.get? b = h'.get? b := fun b hb => g1 b (decide_eq_true hb)
    have ge : G'.get? e = none := g2 e (by simp)
    have old : ∀ b o, hp.get? b = some o → G'.get? b = some o := fun b o q => (gk b (Nat.ne_of_lt (Nat.lt_of_lt_of_le (Heap.lt_size q) M.new))).trans (M.keep b o q)
    have ob : ObjOk X.prog X.w (upd H1 d (.xd [(fldN k, v)])) G' d (.xd [(fldN k, v)]) :=
      ⟨_, hns.at (fun o q => (gk d M.dne).trans q), fun f => relO_one rv f⟩
    have J : L2.Inv X pins σ (upd H1 d (.xd [(fldN k, v)])) ⟨G', g, dr, tk', os⟩ := I1.laid (t' := tk') old M.dbig ob
    refine ⟨e, oe, fv, ⟨G', g, dr, tk', os⟩, _, .ref (cls k), some d, rfl, J, fun b o q => ?_, ge, hoe, ⟨hc, hd⟩, hdat, h1, ?_, rfl, I1.bare, raises_own xc.exC xc.ty, q1 d (I1.hok.fresh M.dbig)⟩
    · by_cases hb : b = e
      · have q' : G'.get? b = some o := q
        rw [hb, ge] at q'; cases q'
      · exact (gk b hb).symm.trans q
    · rw [upd_ne (Ne.symm M.dne)]
      exact I1.hok.fresh M.new
/-- raise C(e), C the class k, whose attribute e is -/
def sRaiseF (k : Nat) (f : M R) : M Fl := do
  let x ← f
  let d ← pure1 x
  raiseX ⟨k, d⟩
variable {e a : Expr} {f : M R} {p pos pos2 : Pos} {k kr : Nat}
theorem ss_raiseF (nm : Str) (hc : X.calm = true) (hK : X.K = c.K) (tk : Takes X W) (xc : XcF c.K c.cls k) (h1 : 100 ≤ k) (h2 : k ≤ 119) (T : XfF c.K c.cls k) (hr : Room (kr + 1) X.A) (gC : X.mg nm = some (.ref (c.cls k)))
    (he : PE X a (rdE c W f)) (hg : Gl X nm := by rfl) (hs : starEach [a] X.env = (false, eval a X.env) :: starEach [] X.env := by rfl) (hpl : (backTo pos (starEach [] X.env)).any (·.1) = false := by rfl) (hdb : (nm == ("__debug__" : Str)) = false := by decide) :
    PS X (.Raise (some (.Call (.Name nm p) [a] [] pos)) none pos2) (rdS c W (sRaiseF k f)) := by
  refine ss_of (ps_raise hc tk (pmk_fld (cls := c.cls) (k := k) (by rw [hK]; exact xc) (by rw [hK]; exact T) gC hr (pa_cons he pa_nil hs) hg hdb hs hpl)) fun E σ H q => ?_
  obtain ⟨Γ, S, F, P⟩ := q
  refine ⟨Γ, S, F, (PostS.bindE P).imp fun x S1 Γ1 H1 e1 F1 ⟨_, P1⟩ v hv => ?_⟩
  obtain ⟨d, Γ2, S2, e2, F2, hd, _, P2⟩ := pure1_ok F1 hv (PostS.bindE P1)
  refine ⟨v, rfl, fun dx hdx => ?_⟩
  have hG : Γ2.G dx = none := Ext.none F2.s.g hdx
  have ex : Ext Γ2.G (upd Γ2.G dx (.xd [(fldN k, v)])) := Ext.upd hG
  have le : Γ2.le { Γ2 with G := upd Γ2.G dx (.xd [(fldN k, v)]) } := ⟨ex, rfl, [], by simp⟩
  have F3 := F2.of le (F2.s.newG (o := .xd [(fldN k, v)]) hdx)
  exact P2 _ σ _ _ (some dx) le F3 ⟨rfl, .inr ⟨dx, v, rfl, by show upd Γ2.G dx _ dx = _; rw [upd_same], hd.mono ex⟩⟩
/-! the script and a list put together -/
/-! an own exception as a value -/
/-! repr of what may be the empty dict or a text, too -/
/-! repr of a list display of data, among it the empty dict -/
inductive AtE (H : Hp) : V → PyData → Prop where
  | non : AtE H .non .none
  | bl (b : Bool) : AtE H (.bl b) (.bool b)
  | int (i : Int) : AtE H (.int i) (.int i)
  | str (z : Str) : AtE H (.str z) (.str z)
  | ed {a : Addr} : H a = some (.dK []) → AtE H (.ref a) (.dict [])
end
end Dd

set_option Elab.async false
set_option linter.all false
set_option maxRecDepth 100000
namespace Dd
open PySem PySem.Spec PyProof.Rows L2
/-! ### lists that objects own -/
def upO (O : Addr → Option (Addr × Str × List V)) (b : Addr) (x : Addr × Str × List V) : Addr → Option (Addr × Str × List V) := fun q => if q = b then some x else O q
theorem upO_same {O : Addr → Option (Addr × Str × List V)} {b : Addr} {x : Addr × Str × List V} : upO O b x b = some x := if_pos rfl
theorem upO_ne {O : Addr → Option (Addr × Str × List V)} {b q : Addr} {x : Addr × Str × List V} (h : q ≠ b) : upO O b x q = O q := if_neg h
/-- an object's cell, of the class k -/
def objOf (k : Nat) (x : R) (S : Sg) : Option (Nat × List (Str × D)) := match x with
  | .r n => match S.st[n]? with
    | some (.mu (.obj k' fs)) => if k' = k ∧ fs.length < 900 then some (n, fs) else none
    | _ => none
  | .p _ => none
section
variable {X : Cx} {c : Cg} {W : WX} {Γ : Gh} {S : Sg} {σ : L2.St} {H : Hp} {x : R} {v : V} {k n : Nat} {fs : List (Str × D)} {l : List D} {f : Str}
theorem objOf_ok (F : FrOk c Γ S σ H) (hx : RepR c Γ x v) (h : objOf k x S = some (n, fs)) :
    ∃ a dx vs, v = .ref a ∧ Γ.ρ[n]? = some a ∧ S.st[n]? = some (.mu (.obj k fs)) ∧ H a = some (.ins (c.cls k) dx vs) ∧ RepF c Γ a fs vs ∧ (fs.map (·.1)).Nodup ∧ fs.length < 900 := by
  cases x with
  | p d => cases h
  | r m =>
    unfold objOf at h
    simp only at h
    cases hm : S.st[m]? with
    | none => rw [hm] at h; cases h
    | some y =>
      rw [hm] at h
      cases y with
      | dead => cases h
      | fz l => cases h
      | mu o =>
        cases o with
        | lst l => cases h
        | dct l => cases h
        | dt l => cases h
        | obj k' gs =>
          simp only at h
          by_cases hk : k' = k ∧ gs.length < 900
          · rw [if_pos hk] at h
            cases h
            obtain ⟨rfl, hl⟩ := hk
            obtain ⟨a, h1, rfl⟩ := hx
            obtain ⟨u, q1, ⟨dx, vs, rfl, q2, q3⟩, _⟩ := F.s.cell _ _ a hm h1
            exact ⟨a, dx, vs, rfl, h1, hm, q1, q2, q3, hl⟩
          · rw [if_neg hk] at h; cases h
theorem RepF.putO {a b : Addr} {l' : List D} {ws' : List V} (hb : ∀ g ws, Γ.O b = some (a, g, ws) → g = f) (hr : RepL c Γ.G l' ws') : ∀ {fs : List (Str × D)} {vs : List (Str × V)}, RepF c Γ a fs vs → (fs.map (·.1)).Nodup →
    RepF c { Γ with O := upO Γ.O b (a, f, ws') } a (putD f (.ol l') fs) (putF f (.ref b) vs) := by
  have keep : ∀ {g : Str} {d : D} {u : V}, g ≠ f → RepX c Γ a g d u → RepX c { Γ with O := upO Γ.O b (a, f, ws') } a g d u := fun {g d u} hg h => by
    cases d with
    | ol l =>
      obtain ⟨b2, ws2, h1, h2, h3⟩ := h
      have : b2 ≠ b := fun z => hg (hb g ws2 (z ▸ h2))
      exact ⟨b2, ws2, h1, (upO_ne this).trans h2, h3⟩
    | _ => exact h
  have keepF : ∀ {gs : List (Str × D)} {us : List (Str × V)}, f ∉ gs.map (·.1) → RepF c Γ a gs us → RepF c { Γ with O := upO Γ.O b (a, f, ws') } a gs us := fun {gs} => by
    induction gs with
    | nil => intro us _ h; exact h
    | cons g r ih =>
      intro us hn h
      obtain ⟨gn, gd⟩ := g
      obtain ⟨v, r', h1, h2, h3⟩ := h
      simp only [List.map_cons, List.mem_cons, not_or] at hn
      exact ⟨v, r', h1, keep (Ne.symm hn.1) h2, ih hn.2 h3⟩
  have new : RepX c { Γ with O := upO Γ.O b (a, f, ws') } a f (.ol l') (.ref b) := ⟨b, ws', rfl, upO_same, hr⟩
  intro fs
  induction fs with
  | nil =>
    intro vs h _
    have : vs = [] := h
    subst this
    exact ⟨_, [], rfl, new, rfl⟩
  | cons g r ih =>
    intro vs h hn
    obtain ⟨gn, gd⟩ := g
    obtain ⟨v, r', rfl, h2, h3⟩ := h
    simp only [List.map_cons, List.nodup_cons] at hn
    unfold putD putF
    by_cases e : gn = f
    · rw [if_pos e, if_pos e]
      subst e
      exact ⟨_, r', rfl, new, keepF hn.1 h3⟩
    · rw [if_neg e, if_neg e]
      exact ⟨v, _, rfl, keep e h2, ih h3 hn.2⟩
theorem putF_id {b : V} : ∀ {vs : List (Str × V)}, vs.lookup f = some b → putF f b vs = vs
  | [], h => by cases h
  | (g, u) :: r, h => by
    unfold putF
    by_cases e : g = f
    · subst e
      rw [List.lookup_cons_self] at h
      cases h
      rw [if_pos rfl]
    · have eb : (f == g) = false := beq_eq_false_iff_ne.mpr (Ne.symm e)
      rw [List.lookup_cons, eb] at h
      rw [if_neg e, putF_id h]
/-- an own list of an object changes, or is new -/
theorem StOk.setO {st : Store} {a b dx : Addr} {C : Addr} {vs : List (Str × V)} {l' : List D} {ws' : List V} (F : StOk c Γ st H) (hn : st[n]? = some (.mu (.obj k fs))) (ha : Γ.ρ[n]? = some a) (hH : H b = some (.lst ws'))
    (hG : Γ.G b = none) (hL : Γ.L b = none) (hm : ∀ (n : Nat) (q : Con), st[n]? = some (.mu q) → Γ.ρ[n]? ≠ some b) (hO : ∀ a' g ws, Γ.O b = some (a', g, ws) → a' = a ∧ g = f ∧ ws = ws')
    (hr : RepL c Γ.G l' ws') (hf : RepF c Γ a fs vs) (hd : (fs.map (·.1)).Nodup) :
    StOk c { Γ with O := upO Γ.O b (a, f, ws') } (st.set n (.mu (.obj k (putD f (.ol l') fs)))) (upd H a (.ins (c.cls k) dx (putF f (.ref b) vs))) := by
  obtain ⟨w, h1, h2, h3, h4⟩ := F.cell n _ a hn ha
  have hlt := (List.getElem?_eq_some_iff.mp hn).1
  have hba : b ≠ a := fun z => hm n _ hn (by rw [z]; exact ha)
  have back : ∀ (m : Nat) (p : Con), (st.set n (.mu (.obj k (putD f (.ol l') fs))))[m]? = some (.mu p) → ∃ p', st[m]? = some (.mu p') := fun m p e => by
    by_cases hm : n = m
    · subst hm; exact ⟨_, hn⟩
    · rw [List.getElem?_set_ne hm] at e; exact ⟨p, e⟩
  refine ⟨fun q x e => ?_, fun q x e => ?_, F.gl, by simpa using F.len, fun m x q e1 e2 => ?_, fun m j q p p' e1 e2 e3 e4 => ?_, fun q a' g ws e => ?_⟩
  · have : q ≠ a := fun z => by
      have e : Γ.G q = some x := e
      rw [z, h3] at e; cases e
    rw [upd_ne this]; exact F.g _ _ e
  · have : q ≠ a := fun z => by
      have e : Γ.L q = some x := e
      rw [z, h4] at e; cases e
    rw [upd_ne this]; exact F.l _ _ e
  · by_cases hmn : n = m
    · subst hmn
      rw [List.getElem?_set_self hlt] at e1
      cases e1
      have e2 : Γ.ρ[n]? = some q := e2
      rw [ha] at e2; cases e2
      exact ⟨_, upd_same, ⟨dx, _, rfl, RepF.putO (fun g ws e => (hO _ _ _ e).2.1) hr hf hd, putD_nodup hd⟩, h3, h4⟩
    · rw [List.getElem?_set_ne hmn] at e1
      have q0 := F.cell m x q e1 e2
      cases x with
      | mu p =>
        obtain ⟨w', q1, q2, q3, q4⟩ := q0
        have hne : q ≠ a := fun z => by subst z; exact hmn (F.inj n m q _ p hn e1 ha e2)
        refine ⟨w', by rw [upd_ne hne]; exact q1, ?_, q3, q4⟩
        cases p with
        | lst l => exact q2
        | dct l => exact q2
        | dt l => exact q2
        | obj k2 gs =>
          obtain ⟨dx2, vs2, k1, k2', k3⟩ := q2
          refine ⟨dx2, vs2, k1, RepF.mono (Γ := Γ) (Γ' := { Γ with O := upO Γ.O b (a, f, ws') }) Ext.refl (fun b2 f2 ws2 e => ?_) k2', k3⟩
          have : b2 ≠ b := fun z => hne (hO q f2 ws2 (z ▸ e)).1
          exact (upO_ne this).trans e
      | fz l => exact q0
      | dead => trivial
  · obtain ⟨q1, r1⟩ := back m p e1
    obtain ⟨q2, r2⟩ := back j p' e2
    exact F.inj m j q q1 q2 r1 r2 e3 e4
  · by_cases hq : q = b
    · subst hq
      have e : upO Γ.O q (a, f, ws') q = some (a', g, ws) := e
      rw [upO_same] at e
      cases e
      refine ⟨by rw [upd_ne hba]; exact hH, hG, hL, fun m p e1 e2 => ?_⟩
      obtain ⟨q1, r1⟩ := back m p e1
      exact hm m q1 r1 e2
    · have e : upO Γ.O b (a, f, ws') q = some (a', g, ws) := e
      rw [upO_ne hq] at e
      obtain ⟨k1, k2, k3, k4⟩ := F.own q a' g ws e
      have hqa : q ≠ a := fun z => k4 n _ hn (by rw [z]; exact ha)
      refine ⟨by rw [upd_ne hqa]; exact k1, k2, k3, fun m p e1 e2 => ?_⟩
      obtain ⟨q1, r1⟩ := back m p e1
      exact k4 m q1 r1 e2
/-- an own list is written -/
theorem StOk.ownO {st : Store} {a b dx : Addr} {vs : List (Str × V)} {l' : List D} {ws ws' : List V} (F : StOk c Γ st H) (hn : st[n]? = some (.mu (.obj k fs))) (ha : Γ.ρ[n]? = some a) (hA : H a = some (.ins (c.cls k) dx vs)) (hO : Γ.O b = some (a, f, ws))
    (hb : vs.lookup f = some (.ref b)) (hr : RepL c Γ.G l' ws') (hf : RepF c Γ a fs vs) (hd : (fs.map (·.1)).Nodup) :
    StOk c { Γ with O := upO Γ.O b (a, f, ws') } (st.set n (.mu (.obj k (putD f (.ol l') fs)))) (upd H b (.lst ws')) := by
  obtain ⟨b1, b2, b3, b4⟩ := F.own b a f ws hO
  have hlt := (List.getElem?_eq_some_iff.mp hn).1
  have hab : a ≠ b := fun z => b4 n _ hn (by rw [← z]; exact ha)
  obtain ⟨w, h1, h2, h3, h4⟩ := F.cell n _ a hn ha
  have back : ∀ (m : Nat) (p : Con), (st.set n (.mu (.obj k (putD f (.ol l') fs))))[m]? = some (.mu p) → ∃ p', st[m]? = some (.mu p') := fun m p e => by
    by_cases hm : n = m
    · subst hm; exact ⟨_, hn⟩
    · rw [List.getElem?_set_ne hm] at e; exact ⟨p, e⟩
  refine ⟨fun q x e => ?_, fun q x e => ?_, F.gl, by simpa using F.len, fun m x q e1 e2 => ?_, fun m j q p p' e1 e2 e3 e4 => ?_, fun q a' g us e => ?_⟩
  · have : q ≠ b := fun z => by
      have e : Γ.G q = some x := e
      rw [z, b2] at e; cases e
    rw [upd_ne this]; exact F.g _ _ e
  · have : q ≠ b := fun z => by
      have e : Γ.L q = some x := e
      rw [z, b3] at e; cases e
    rw [upd_ne this]; exact F.l _ _ e
  · by_cases hmn : n = m
    · subst hmn
      rw [List.getElem?_set_self hlt] at e1
      cases e1
      have e2 : Γ.ρ[n]? = some q := e2
      rw [ha] at e2; cases e2
      have pf := RepF.putO (f := f) (fun g us e => by rw [hO] at e; cases e; rfl) hr hf hd
      rw [putF_id hb] at pf
      exact ⟨_, by rw [upd_ne hab]; exact hA, ⟨dx, _, rfl, pf, putD_nodup hd⟩, h3, h4⟩
    · rw [List.getElem?_set_ne hmn] at e1
      have q0 := F.cell m x q e1 e2
      cases x with
      | mu p =>
        obtain ⟨w', q1, q2, q3, q4⟩ := q0
        have hne : q ≠ b := fun z => b4 m p e1 (by rw [← z]; exact e2)
        have hqa : q ≠ a := fun z => by subst z; exact hmn (F.inj n m q _ p hn e1 ha e2)
        refine ⟨w', by rw [upd_ne hne]; exact q1, ?_, q3, q4⟩
        cases p with
        | lst l => exact q2
        | dct l => exact q2
        | dt l => exact q2
        | obj k2 gs =>
          obtain ⟨dx2, vs2, k1, k2', k3⟩ := q2
          refine ⟨dx2, vs2, k1, RepF.mono (Γ := Γ) (Γ' := { Γ with O := upO Γ.O b (a, f, ws') }) Ext.refl (fun c2 f2 ws2 e => ?_) k2', k3⟩
          have : c2 ≠ b := fun z => by
            rw [z, hO] at e
            cases e
            exact hqa rfl
          exact (upO_ne this).trans e
      | fz l => exact q0
      | dead => trivial
  · obtain ⟨q1, r1⟩ := back m p e1
    obtain ⟨q2, r2⟩ := back j p' e2
    exact F.inj m j q q1 q2 r1 r2 e3 e4
  · by_cases hq : q = b
    · subst hq
      have e : upO Γ.O q (a, f, ws') q = some (a', g, us) := e
      rw [upO_same] at e
      cases e
      refine ⟨upd_same, b2, b3, fun m p e1 e2 => ?_⟩
      obtain ⟨q1, r1⟩ := back m p e1
      exact b4 m q1 r1 e2
    · have e : upO Γ.O b (a, f, ws') q = some (a', g, us) := e
      rw [upO_ne hq] at e
      obtain ⟨k1, k2, k3, k4⟩ := F.own q a' g us e
      refine ⟨by rw [upd_ne hq]; exact k1, k2, k3, fun m p e1 e2 => ?_⟩
      obtain ⟨q1, r1⟩ := back m p e1
      exact k4 m q1 r1 e2
theorem FrOk.withO {O : Addr → Option (Addr × Str × List V)} {st' : Store} {H' : Hp} (F : FrOk c Γ S σ H) (F' : StOk c { Γ with O := O } st' H') : FrOk c { Γ with O := O } { S with st := st' } σ H' :=
  F.of ⟨Ext.refl, rfl, [], by simp⟩ F'
theorem le_O {O : Addr → Option (Addr × Str × List V)} : Γ.le { Γ with O := O } := ⟨Ext.refl, rfl, [], by simp⟩
/-- the slot's object: number of its cell, attributes, an own list -/
def olOf (k : Nat) (f : Str) (i : Nat) (S : Sg) : Option (Nat × List (Str × D) × List D) := match S.sl[i]? with
  | some (some x) => match objOf k x S with
    | some (n, fs) => match fs.lookup f with
      | some (.ol l) => some (n, fs, l)
      | _ => none
    | none => none
  | _ => none
theorem olOf_ok {i : Nat} (F : FrOk c Γ S σ H) (h : olOf k f i S = some (n, fs, l)) :
    ∃ a dx vs b ws, σ[i]? = some (some (.ref a)) ∧ Γ.ρ[n]? = some a ∧ S.st[n]? = some (.mu (.obj k fs)) ∧ H a = some (.ins (c.cls k) dx vs) ∧ RepF c Γ a fs vs ∧ (fs.map (·.1)).Nodup ∧ vs.lookup f = some (.ref b) ∧ Γ.O b = some (a, f, ws) ∧ RepL c Γ.G l ws ∧ H b = some (.lst ws) := by
  unfold olOf at h
  cases hi : S.sl[i]? with
  | none => rw [hi] at h; cases h
  | some o =>
    rw [hi] at h
    cases o with
    | none => cases h
    | some x =>
      simp only at h
      cases ho : objOf k x S with
      | none => rw [ho] at h; cases h
      | some nf =>
        obtain ⟨m, gs⟩ := nf
        rw [ho] at h
        simp only at h
        obtain ⟨v, hv, rv⟩ := F.sl i x hi
        obtain ⟨a, dx, vs, rfl, h1, h2, h3, h4, h5, _⟩ := objOf_ok F rv ho
        cases hl : gs.lookup f with
        | none => rw [hl] at h; cases h
        | some d =>
          rw [hl] at h
          cases d with
          | ol l' =>
            cases h
            obtain ⟨u, q1, b, ws, rfl, q3, q4⟩ := (h4.lookup f).2 _ hl
            exact ⟨a, dx, vs, b, ws, hv, h1, h2, h3, h4, h5, q1, q3, q4, (F.s.own _ _ _ _ q3).1⟩
          | _ => cases h
section
variable {e o : Expr} {s m : Str} {i : Nat} {pos pos' p1 p2 apos lpos : Pos}
/-- self.f = [] -/
def sFldN (k : Nat) (f : Str) (i : Nat) : M Fl := fun S => match S.sl[i]? with
  | some (some x) => match objOf k x S with
    | some (n, fs) => .ok .nx { S with st := S.st.set n (.mu (.obj k (putD f (.ol []) fs))) }
    | none => .bad
  | _ => .bad
theorem ss_fldN (hX : X.K = c.K) (ho : PE X o (tVar i)) (cl : Cls X.K (c.cls k)) (na : NoAttr X.K (c.cls k) f) (hs : swapsWith (.List [] lpos) (some (.Attribute o f pos')) pos.line X.env = pure false := by rfl) :
    PS X (.Assign [.Attribute o f pos'] (.List [] lpos) pos) (rdS c W (sFldN k f i)) :=
  ss_of (ps_fld ho (pe_lst pa_nil) hs) fun E σ H q => by
    obtain ⟨Γ, S, Fo, P⟩ := q
    show [].length ≤ sizeLine ∧ _
    refine ⟨by simp, fun p hp => ?_⟩
    unfold sFldN at P
    cases hi : S.sl[i]? with
    | none => rw [hi] at P; exact P.elim
    | some ox =>
      rw [hi] at P
      cases ox with
      | none => exact P.elim
      | some x =>
        simp only at P
        cases hob : objOf k x S with
        | none => rw [hob] at P; exact P.elim
        | some nf =>
          obtain ⟨n, fs⟩ := nf
          rw [hob] at P
          simp only at P
          obtain ⟨v, hv, rv⟩ := Fo.sl i x hi
          obtain ⟨a, dx, vs, rfl, h1, h2, h3, h4, h5, h6⟩ := objOf_ok Fo rv hob
          have hap : a ≠ p := ne_of_none h3 hp
          refine ⟨_, hv, a, _, dx, vs, rfl, by rw [upd_ne hap]; exact h3, cl, na, by rw [h4.length]; omega, ?_⟩
          have F1 := Fo.s.ext (Ext.upd (o := .lst []) hp)
          have F2 := F1.setO (b := p) (f := f) (l' := []) (ws' := []) (dx := dx) (C := c.cls k) h2 h1 upd_same (Ext.none Fo.s.g hp) (Ext.none Fo.s.l hp) (fun m q e1 e2 => by
            obtain ⟨w, q1, _⟩ := Fo.s.cell m _ p e1 e2
            rw [hp] at q1; cases q1) (fun a' g ws e => by
            obtain ⟨q1, _⟩ := Fo.s.own p a' g ws e
            rw [hp] at q1; cases q1) RepL.nil h4 h5
          exact P _ σ _ le_O (Fo.withO F2)
/-- self.f.append(e), e quietly read -/
def Quiet (c : Cg) (fa : M R) (t : TE) : Prop := ∀ (Γ : Gh) (S : Sg) (σ : L2.St) (H : Hp) (Q : VK) (d : D) (S' : Sg), FrOk c Γ S σ H → fa S = .ok (.p d) S' → (∀ v, Rep c Γ.G d v → Q v H) → t σ H Q
theorem quiet_var {j : Nat} : Quiet c (vr j) (tVar j) := by
  intro Γ S σ H Q d S' F h q
  unfold vr at h
  split at h
  · rename_i x hx
    cases h
    obtain ⟨v, h1, h2⟩ := F.sl j _ hx
    exact ⟨v, h1, q v h2⟩
  · cases h
theorem quiet_attr {j k2 : Nat} {f2 : Str} (hK : X.K = c.K) (cl : Cls X.K (c.cls k2)) (na : NoAttr X.K (c.cls k2) f2) : Quiet c (attrU k2 f2 (vr j)) (tFld X.K (tVar j) f2) := by
  intro Γ S σ H Q d S' F h q
  unfold attrU at h
  obtain ⟨y, hx⟩ : ∃ y, S.sl[j]? = some (some y) := by
    cases hx : S.sl[j]? with
    | none =>
      have : vr j S = .bad := by unfold vr; rw [hx]
      rw [bind_bad this] at h; cases h
    | some oy =>
      cases oy with
      | none =>
        have : vr j S = .bad := by unfold vr; rw [hx]
        rw [bind_bad this] at h; cases h
      | some y => exact ⟨y, rfl⟩
  rw [bind_ok (vr_ok hx)] at h
  obtain ⟨v, h1, h2⟩ := F.sl j _ hx
  cases hi : insOf y S with
  | none => rw [hi] at h; cases h
  | some kf =>
    obtain ⟨k', fs⟩ := kf
    rw [hi] at h
    simp only at h
    by_cases hk : k' = k2
    · rw [if_pos hk] at h
      subst hk
      obtain ⟨a, dx, vs, rfl, g1, g2⟩ := insOf_ok F h2 hi
      cases hd : fs.lookup f2 with
      | none => rw [hd] at h; cases h
      | some d0 =>
        rw [hd] at h
        obtain ⟨u, q1, q2⟩ := (g2.lookup f2).2 d0 hd
        cases hx2 : atD d0 with
        | none => simp only [Option.bind_some, hx2] at h; cases h
        | some e =>
          simp only [Option.bind_some, hx2] at h
          cases h
          obtain ⟨rfl, hr⟩ := atD_some (c := c) hx2
          exact ⟨_, h1, a, _, dx, vs, u, rfl, g1, cl, na, q1, q u (hr q2)⟩
    · rw [if_neg hk] at h; cases h
def ownApp (k : Nat) (f : Str) (i : Nat) (fa : M R) : M R := fun S => match fa S with
  | .ok (.p d) _ => match olOf k f i S with
    | some (n, fs, l) => if l.length < sizeLine then .ok (.p .non) { S with st := S.st.set n (.mu (.obj k (putD f (.ol (l ++ [d])) fs))) } else .bad
    | none => .bad
  | _ => .bad
theorem e_ownApp {cpos : Pos} {a : Expr} {fa : M R} {t : TE} (hK : X.K = c.K) (ho : PE X o (tVar i)) (cl : Cls X.K (c.cls k)) (na : NoAttr X.K (c.cls k) f) (ha : PE X a t) (hq : Quiet c fa t)
    (hab : attributeBase o f X.env (eval o X.env) = eval o X.env := by rfl)
    (hbase : attributeBase (.Attribute o f p1) "append" X.env (eval (.Attribute o f p1) X.env) = eval (.Attribute o f p1) X.env := by rfl)
    (hfew : ((backTo cpos (starEach [a] X.env)).all (fun x => !x.1) && (backToKw cpos (keywordEach [] X.env)).all (fun x => x.1.isSome) && decide (([a] : List Expr).length + ([] : List Keyword).length + (if ([] : List Keyword).isEmpty then 0 else 1) < 30)) = true := by rfl)
    (hline : (apos.endLine == cpos.line) = true := by rfl) (hs : starEach [a] X.env = (false, eval a X.env) :: starEach [] X.env := by rfl) (hplain : (backTo cpos (starEach [] X.env)).any (·.1) = false := by rfl) :
    PE X (.Call (.Attribute (.Attribute o f p1) "append" apos) [a] [] cpos) (rdE c W (ownApp k f i fa)) :=
  se_of (pe_bmG F.plainAttrs_list F.slot_list_append type_app tyOk_V mt_append (pe_fld ho hab) (pa_cons ha pa_nil hs) hbase hfew hline hs hplain) fun σ H Q q => by
    obtain ⟨Γ, S, Fo, P⟩ := q
    unfold ownApp at P
    split at P
    rotate_left
    · exact P.elim
    rename_i d S' hd
    split at P
    rotate_left
    · exact P.elim
    rename_i n fs l hl
    by_cases hz : l.length < sizeLine
    · rw [if_pos hz] at P
      obtain ⟨a', dx, vs, b, ws, h1, h2, h3, h4, h5, h6, h7, h8, h9, h10⟩ := olOf_ok Fo hl
      refine ⟨_, h1, a', _, dx, vs, _, rfl, h4, cl, na, h7, .inl ⟨rfl, ws, SqL.of h10⟩, ?_⟩
      refine hq Γ S σ H _ d S' Fo hd fun v rv => ?_
      refine ⟨b, ws, v, rfl, rfl, h10, by rw [h9.length]; exact hz, ?_⟩
      exact Post.ok (c := c) (W := W) P le_O (Fo.withO (Fo.s.ownO h3 h2 h4 h8 h7 (h9.append (RepL.one rv)) h5 h6)) _ ((Rep.non_iff (c := c) (G := Γ.G)).mpr rfl)
    · rw [if_neg hz] at P; exact P.elim
end
/-! how they work out -/
end
end Dd

set_option Elab.async false
set_option linter.all false
set_option maxRecDepth 100000
set_option maxHeartbeats 4000000
/-! methods with one name for all further arguments; written dicts with text keys -/
namespace Dd
open PySem PySem.Spec PyProof.Rows L2

/-! ### `def m(self, *rest)` -/
/-- how (self, *rest) is bound: the further arguments in one new tuple -/
def BindsV (fd : FuncData) (ps : List Str) : Prop := ∀ (u : Value) (us : List Value), ∃ p1 p2, ps = [p1, p2] ∧ bindArgs fd ⟨u :: us, []⟩ = (newTuple us >>= fun t => pure [(p1, u), (p2, t)])
structure FnV (P : Program) (w : World) (K : PySem.W.Frag) (mg : Str → Option Value) (base : Heap) (k : Nat) (f : Addr) (fd : FuncData) (ps : List Str) (sp : Sp) : Prop where
  len : ∀ vs H Q E, sp vs H Q E → vs.length = ps.length
  run : ∀ (A : Around) (outer : List Env) (s s1 : Shared) (H : Hp) (args : Args) (us : List Value) (vs : List V) (Q : VK) (E : XK), A.guards = some [] → Room k A → K.In s.heap → Env0 P w K mg base A outer s1 H →
    (∀ (M : Model) (A : Around) (E : Value → Shared → Prop) (Q : List (Str × Value) → Shared → Prop), Q (ps.zip us) s1 → wpAny M A (bindArgs fd args) Q E s) → Vals vs us → sp vs H Q E →
    codeAny (model P w) A (.call (.ref f) args) (CR (L2.CX P w) outer P w H s1 Q E) s
section
variable {P : Program} {w : World} {K : PySem.W.Frag} {mg : Str → Option Value} {base : Heap} {c : Cg}
theorem fn_okV {x qual : Str} {st : Stmt} {f : Addr} {fd : FuncData} {N ps : List Str} {k : Nat} {h : M Fl} (F : Fun K x qual st f fd) (S : FnScope N ps (defScope st))
    (hbody : ∀ (cdv : Value) (A : Around) (outer : List Env) (s : Shared) (H : Hp) (E : XK), (A.deeper (envOfC qual (defScope st) s.heap.objs.size f cdv)).guards = some [] → Room k (A.deeper (envOfC qual (defScope st) s.heap.objs.size f cdv)) →
      Takes (cxOf (L2.CX P w) P w K mg base N qual (defScope st) f cdv A outer s H E) (fun cls d _ H => E cls d H) →
      PSs (cxOf (L2.CX P w) P w K mg base N qual (defScope st) f cdv A outer s H E) (defBody st) (rdS c (fun cls d _ H => E cls d H) h)) :
    FnV P w K mg base (k + 1) f fd ps (spF c ps.length (runF N.length h)) := by
  obtain ⟨oc, od, kV, doc, pm, an, cdv, ct, osl, rfl, lk, hcd⟩ := F.ex
  refine ⟨fun vs H Q E ⟨_, _, _, h, _⟩ => h, fun A outer s0 s H args us vs Q E hG hr KX e0 hb r hsp => ?_⟩
  have keep : ∀ b o, base.get? b = some o → s.heap.get? b = some o := fun b o e => (e0.bs b o e).1
  obtain ⟨xs, Γ, st', hl, hx, F', hP⟩ := hsp
  have hall : ∀ y ∈ ps.zip us, (defScope st).names.lookup y.1 = some .local ∨ ((defScope st).names.lookup y.1 = some .cell ∧ ((cellsFrom (s.heap.objs.size + 1) (defScope st).names []).lookup y.1).isSome = true) := fun y hy =>
    (S.par y.1 (List.of_mem_zip (a := y.1) (b := y.2) hy).1).imp_right fun q => ⟨q, PySem.W.cellsFrom_some _ _ _ (.inl q)⟩
  have cr := PySem.W.codeRec_of KX hcd
  have lk' := KX _ _ lk
  refine codeAny_call_function hr.depth lk' rfl S.co S.gen rfl cr ?_
  refine hb _ _ _ _ ?_
  refine wpAny_newFunctionEnv_cells S.kind hall fun env he s1 z => ?_
  subst he
  refine ⟨(e0.mod.nolimit.keeps keep).keeps z.toInCall.keep, codeAny_func ?_⟩
  have B := hbody cdv A outer s H E hG (hr.deeper _) (takes_of rfl rfl rfl rfl)
  have I0 : Inv (cxOf (L2.CX P w) P w K mg base N qual (defScope st) f cdv A outer s H E) [] (L2.start N vs) H s1 := inv_start S hr.hd e0 hl r z
  have B2 := B.run [] s1 (L2.start N vs) H { nx := fun _ H' => Q .non H', rt := Q } I0 ⟨Γ, _, start_ok (ps := ps) hx F', finish_ok (S := startS N.length xs st') F'.len hP⟩
  refine wpAny_mono B2 (fun fl s' q => ?_) fun _ _ q => q
  have fin : ∀ {σ' : L2.St} {H' : Hp} {v : V} {u : Value}, L2.Inv (cxOf (L2.CX P w) P w K mg base N qual (defScope st) f cdv A outer s H E) [] σ' H' s' → RelV v u → Q v H' → CE outer P w H s Q u s' :=
    fun {σ' H' v u} J rv q => ⟨v, H', J.os, J.bare, J.base, J.hok, rv, q⟩
  cases fl with
  | ret u =>
    obtain ⟨v, σ', H', J, rv, q⟩ := q
    exact fin J rv q
  | next =>
    obtain ⟨σ', H', J, q⟩ := q
    exact fin (v := V.non) (u := Value.none) J rfl q
  | brk =>
    obtain ⟨_, _, _, q⟩ := q
    exact False.elim q
  | cont =>
    obtain ⟨_, _, _, q⟩ := q
    exact False.elim q
end
section
variable {X : Cx} {k : Nat} {f C : Addr} {fd : FuncData} {ps : List Str} {sp : Sp} {E : L2.St → XK} {x m : Str} {p pos apos : Pos} {e o : Expr} {es : List Expr} {ta : TE} {t : TA}
/-- the further arguments behind the receiver, in a new tuple -/
def goV (sp : Sp) (a : Addr) (E : XK) (Q : VK) : List V → Hp → Prop := fun vs H2 => vs.length ≤ sizeLine ∧ ∀ p o, H2 p = none → o.dict = none → sp [.ref a, .ref p] (upd H2 p (.frz o (.tup vs))) Q E
theorem run_fnV {pins : List (Addr × Obj)} {σ : L2.St} {H : Hp} {s : Shared} {Q : VK} {us : List Value} {vs : List V} {E : XK} {a : Addr} (F : FnV X.prog X.w X.K X.mg X.base k f fd ps sp) (hG : X.A.guards = some []) (hr : Room k X.A) (hb : BindsV fd ps)
    (hx : PassesAt (L2.CX X.prog X.w) X σ E) (I : L2.Inv X pins σ H s) (r : Vals vs us) (h : goV sp a E Q vs H) : wpAny (model X.prog X.w) X.A (call (.ref f) (.ref a :: us)) (EP X pins σ Q) X.xe s := by
  obtain ⟨z, h⟩ := h
  have z' : us.length ≤ sizeLine := by rw [← r.length]; exact z
  have hf : H s.heap.objs.size = none := I.hok.fresh (Nat.le_refl _)
  have I3 : L2.Inv X pins σ (upd H s.heap.objs.size (.frz { cls := .type "tuple", data := .seq us.toArray } (.tup vs))) { s with heap := s.heap.push { cls := .type "tuple", data := .seq us.toArray } } :=
    I.laid (t' := s.toks) (fun b u e => Heap.get?_push_of_some _ e) (Nat.le_refl _) ⟨Heap.get?_push_size _ rfl, z, us, r, ⟨_, Heap.get?_push_size _ rfl, rfl, _, rfl⟩⟩
  refine wpAny_call (codeAny_mono (F.run X.A X.stack s _ _ ⟨.ref a :: us, []⟩ [.ref a, .ref s.heap.objs.size] [.ref a, .ref s.heap.objs.size] Q E hG hr I.kIn I3.env0 (fun M A E Q q => ?_) (.cons rfl (.cons rfl .nil)) (h _ _ hf rfl)) fun r s' hq => ?_)
  · obtain ⟨p1, p2, rfl, e⟩ := hb (.ref a) us
    rw [e]
    exact wpAny_bind (wpAny_newTuple (wpAny_pure q) z')
  · rcases taken hx I3 hq with ⟨e, rfl, q⟩ | ⟨u, rfl, q⟩
    · exact q
    · exact q
def tMethV (C : Addr) (m : Str) (sp : Sp) (E : L2.St → XK) (ta : TE) (t : TA) : TE := fun σ H Q => ta σ H fun x H1 => ∃ a dx fs, x = .ref a ∧ H1 a = some (.ins C dx fs) ∧ fs.lookup m = none ∧ t σ H1 (goV sp a (E σ) Q)
theorem pe_methV {pl : Sem Bool} (he : PE X o ta) (c : Cls X.K C) (hm : Meth X.K C m f) (F : FnV X.prog X.w X.K X.mg X.base k f fd ps sp) (hG : X.A.guards = some []) (hr : Room k X.A) (hb : BindsV fd ps) (hx : ∀ σ, PassesAt (L2.CX X.prog X.w) X σ (E σ)) (ha : PA X (e :: es) t)
    (hst : starEach (e :: es) X.env = (false, eval e X.env) :: starEach es X.env := by rfl) (hpl : (backTo pos (starEach es X.env)).any (·.1) = false := by rfl)
    (ht : eval (.Call (.Attribute o m apos) (e :: es) [] pos) X.env = (do
      let ov ← eval o X.env
      standAt apos.atName
      let (f, first) ← holding [ov] (getMethod ov m pl)
      callWith pos f first (backTo pos (starEach (e :: es) X.env)) (backToKw pos (keywordEach [] X.env))) := by rfl) :
    PE X (.Call (.Attribute o m apos) (e :: es) [] pos) (tMethV C m sp E ta t) := by
  refine ⟨fun pins s σ H Q I h => ?_⟩
  refine PySem.W.methodCall_KW (pl := pl) (thn (he.run pins s σ H _ I h) fun u s1 ⟨x, H1, I1, rx, a, dx, fs, ex, ea, l, q⟩ => ?_) ht
  subst ex
  obtain rfl : u = Value.ref a := rx
  refine getmeth_ok I1 ea c hm l ?_
  refine PySem.W.callWith_K (first := [.ref a]) (h₀ := X.base) I.ok.mod.kin hm.kp (thn (ha.run pos pins s1 σ H1 _ I1 q) fun us s2 ⟨vs, H2, I2, r, q2⟩ => ⟨I2.kIn, ?_⟩) hst hpl
  exact run_fnV F hG hr hb (hx σ) I2 r q2
end
section
variable {X : Cx} {c : Cg} {W : WX} {e o : Expr} {es : List Expr} {f : M R} {g : M (List R)} {pos p apos : Pos} {F : Fn} {k K' : Nat} {fA : Addr} {fd : FuncData} {ps : List Str} {m : Str}
theorem methV_read {σ : L2.St} {H : Hp} {Q : VK} (q : rdE c W (methU k m F 2 f (aC (tupE g) aN)) σ H Q) : tMethV (c.cls k) m (spF c 2 F) (WE W) (rdE c W f) (rdA c W g) σ H Q := by
  have q : tMethS (c.cls k) m (spF c 2 F) (WE W) (rdE c W f) (rdA c W (aC (tupE g) aN)) σ H Q := methU_read q
  obtain ⟨Γ, S, Fo, P⟩ := q
  refine ⟨Γ, S, Fo, P.imp fun x S1 Γ1 H1 e1 F1 P1 v hv => ?_⟩
  obtain ⟨a, dx, fs, rfl, h1, h2, Γ1', S1', F1', P2⟩ := P1 v hv
  refine ⟨a, dx, fs, rfl, h1, h2, Γ1', S1', F1', ?_⟩
  have P3 := Post.bind (f := tupE g) (g := fun x => do let xs ← aN; pure (x :: xs)) P2
  have P4 := Post.bind (f := g) (g := fun xs => do let ds ← pureL xs; allocT ds) P3
  refine P4.imp fun xs S2 Γ2 H2 e2 F2 q5 vs hvs => ?_
  obtain ⟨_, P5⟩ := q5
  obtain ⟨ds, Γ3, S3, e3, F3, hds, _, P4⟩ := pureL_ok F2 hvs (Post.bind (f := pureL xs) (g := allocT) P5)
  unfold allocT at P4
  by_cases hz : ds.length ≤ sizeLine
  · rw [if_pos hz] at P4
    refine ⟨by rw [hds.length]; exact hz, fun p ob hp ho => ?_⟩
    obtain ⟨Γ4, e4, F4, r4⟩ := newT_ok F3 hds hp ho
    obtain ⟨_, P5⟩ := P4.ok e4 F4
    have P6 := Post.ok (c := c) (W := W) (Post.bind P5) Gh.le.refl F4
    obtain ⟨_, P7⟩ := P6
    exact Post.ok (c := c) (W := W) P7 Gh.le.refl F4 [.ref p] ⟨.ref p, [], rfl, r4, rfl⟩
  · rw [if_neg hz] at P4; exact P4.elim
theorem se_methV {pl : Sem Bool} (ho : PE X o (rdE c W f)) (cl : Cls X.K (c.cls k)) (hm : Meth X.K (c.cls k) m fA) (Fk : FnV X.prog X.w X.K X.mg X.base K' fA fd ps (spF c 2 F)) (hG : X.A.guards = some []) (hr : Room K' X.A) (hb : BindsV fd ps) (tk : Takes X W) (ha : PA X (e :: es) (rdA c W g))
    (hst : starEach (e :: es) X.env = (false, eval e X.env) :: starEach es X.env := by rfl) (hpl : (backTo pos (starEach es X.env)).any (·.1) = false := by rfl)
    (ht : eval (.Call (.Attribute o m apos) (e :: es) [] pos) X.env = (do
      let ov ← eval o X.env
      standAt apos.atName
      let (f, first) ← holding [ov] (getMethod ov m pl)
      callWith pos f first (backTo pos (starEach (e :: es) X.env)) (backToKw pos (keywordEach [] X.env))) := by rfl) :
    PE X (.Call (.Attribute o m apos) (e :: es) [] pos) (rdE c W (methU k m F 2 f (aC (tupE g) aN))) :=
  se_of (pe_methV ho cl hm Fk hG hr hb (fun σ => passAt tk σ) ha hst hpl ht) fun σ H Q q => methV_read q
end

/-! ### a written dict with text keys and ints -/
theorem find_none {w : World} {z : Str} : ∀ (l : List DictEntry) (ks : List Str), l.map He.keyOf = He.keysIn w.params ks → z ∉ ks → l.find? (fun d => d.key.isStr z) = none ∧ l.any (fun d => d.refKey) = false
  | [], _, _, _ => ⟨rfl, rfl⟩
  | d :: r, [], h, _ => by cases h
  | d :: r, k :: ks, h, hz => by
    have h1 : He.keyOf d :: r.map He.keyOf = some (k, PyData.keyHash w.params k) :: He.keysIn w.params ks := h
    injection h1 with h2 h3
    have hk : z ≠ k := fun e => hz (by rw [e]; exact List.mem_cons_self)
    obtain ⟨r1, r2⟩ := find_none r ks h3 (fun m => hz (List.mem_cons_of_mem _ m))
    obtain ⟨t, q⟩ : ∃ t, d.key = .str k t := by
      unfold He.keyOf at h2
      split at h2
      · rename_i x t q
        have h4 := Option.some.inj h2
        obtain ⟨h5, h6⟩ := Prod.mk.inj h4
        exact ⟨t, by rw [q, h5]⟩
      · cases h2
    have d0 : d.key.isStr z = false := by
      rw [q, PySem.W.isStr_of]
      unfold Value.isStrOf
      simp only [beq_eq_false_iff_ne, ne_eq]
      exact fun e => hk e.symm
    have d1 : d.refKey = false := by
      unfold DictEntry.refKey
      rw [q]
    refine ⟨?_, ?_⟩
    · rw [List.find?_cons, d0]
      exact r1
    · rw [List.any_cons, d1, r2]
      rfl
theorem nsIn_none {K : PySem.W.Frag} {w : World} {a : Addr} {ks : List Str} (h : He.dicW K a = some (He.keysIn w.params ks)) {z : Str} (hz : z ∉ ks) : PySem.W.nsIn K a z = some none := by
  unfold He.dicW at h
  split at h
  · rename_i c es n sl e
    split at h
    · have h := Option.some.inj h
      obtain ⟨r1, r2⟩ := find_none (w := w) (z := z) es.toList ks h hz
      unfold PySem.W.nsIn
      rw [e]
      simp only [r1, r2]
      rfl
    · cases h
  · cases h
/-- the module's name x is a dict with these items -/
structure DctS (K : PySem.W.Frag) (w : World) (mg : Str → Option Value) (x : Str) (kvs : List (Str × Int)) : Prop where
  ex : ∃ a es n, mg x = some (.ref a) ∧ KDict K w a es n ∧ (∀ z : Str, z ∉ kvs.map (·.1) → PySem.W.nsIn K a z = some none) ∧ ∀ p ∈ kvs, ∃ t, PySem.W.nsIn K a p.1 = some (some (.int p.2 t))
theorem DctS.of {K : PySem.W.Frag} {w : World} {mg : Str → Option Value} {x : Str} {kvs : List (Str × Int)} {a : Addr} (h1 : mg x = some (.ref a)) (h2 : He.dicW K a = some (He.keysIn w.params (kvs.map (·.1)))) (h3 : ∀ p ∈ kvs, ∃ t, PySem.W.nsIn K a p.1 = some (some (.int p.2 t))) : DctS K w mg x kvs := by
  obtain ⟨es, n, k⟩ := He.dicW_ok h2
  exact ⟨a, es, n, h1, k, fun z hz => nsIn_none h2 hz, h3⟩
theorem dicW_mk {K : PySem.W.Frag} {w : World} {a : Addr} {es : Array DictEntry} {n : Nat} {ks : List Str} (hl : K.lookup a = some ⟨.type "dict", none, .dict es n, #[]⟩) (hk : es.toList.map He.keyOf = He.keysIn w.params ks) (low : (a == sysModules) = false) : He.dicW K a = some (He.keysIn w.params ks) := by
  unfold He.dicW
  rw [hl]
  have e : (decide ("dict" = "dict") && ((#[] : Array (Option Value)).isEmpty && !(a == sysModules))) = true := by rw [low]; rfl
  show (match (decide ("dict" = "dict") && ((#[] : Array (Option Value)).isEmpty && !(a == sysModules))) with | true => some (es.toList.map He.keyOf) | false => none) = _
  rw [e, hk]
theorem lookup_none : ∀ {kvs : List (Str × Int)} {z : Str}, kvs.lookup z = none → z ∉ kvs.map (·.1)
  | [], z, _ => by simp
  | (k, i) :: r, z, h => by
    rw [List.lookup_cons] at h
    by_cases e : z = k
    · subst e; simp at h
    · rw [show (z == k) = false from beq_eq_false_iff_ne.mpr e] at h
      simp only [List.map_cons, List.mem_cons, not_or]
      exact ⟨e, lookup_none h⟩
theorem lookup_mem : ∀ {kvs : List (Str × Int)} {z : Str} {i : Int}, kvs.lookup z = some i → (z, i) ∈ kvs
  | [], z, _, h => by simp at h
  | (k, j) :: r, z, i, h => by
    rw [List.lookup_cons] at h
    by_cases e : z = k
    · subst e; simp at h; subst h; exact List.mem_cons_self
    · rw [show (z == k) = false from beq_eq_false_iff_ne.mpr e] at h
      exact List.mem_cons_of_mem _ (lookup_mem h)
/-- what is found at a key -/
def wgetK (kvs : List (Str × Int)) (y : R) (x : R) (S : Sg) : Res R := match y with
  | .p (.str z) => (match kvs.lookup z with
    | some i => .ok (.p (.int i)) S
    | none => .ok x S)
  | _ => .bad
/-- NAME.get(k, x) -/
def wgetE (kvs : List (Str × Int)) (fk fx : M R) : M R := do
  let k ← fk
  let x ← fx
  wgetK kvs k x
section
variable {X : Cx} {c : Cg} {W : WX} {e f : Expr} {fk fx : M R} {pos apos cpos : Pos} {x : Str} {kvs : List (Str × Int)} {ty tx : TE}
def tWGet (K : PySem.W.Frag) (a : Addr) (ty tx : TE) : TE := fun σ H Q => ty σ H fun y H2 => tx σ H2 fun z H3 => ∃ k, y = .str k ∧ ((PySem.W.nsIn K a k = some none ∧ Q z H3) ∨ ∃ u v, PySem.W.nsIn K a k = some (some u) ∧ RelV v u ∧ Q v H3)
theorem pe_wget2 {a : Addr} {es : Array DictEntry} {n : Nat} (D : KDict X.K X.w a es n) (hg : Gl X x) (hm : X.mg x = some (.ref a)) (he : PE X e ty) (hf : PE X f tx) (hdb : (x == ("__debug__" : Str)) = false) (m : M2 X (.Name x pos) "get" apos e f cpos) :
    PE X (.Call (.Attribute (.Name x pos) "get" apos) [e, f] [] cpos) (tWGet X.K a ty tx) := by
  refine ⟨fun pins s σ H Q I h => ?_⟩
  refine wpAny_Call_method m.base m.few m.line PySem.F.plainAttrs_dict PySem.F.slot_dict_get PySem.F.type_dict_get ?_
  have hn : PE X (.Name x pos) (fun σ H Q => Q (.ref a) H) := pe_glob (v := .ref a) hg hm rfl hdb
  refine thn (hn.run pins s σ H (fun v H1 => v = .ref a ∧ tWGet X.K a ty tx σ H1 Q) I ⟨rfl, h⟩) fun u s1 ⟨x', H1, I1, rx, ex, q1⟩ => ?_
  subst ex
  obtain rfl : u = Value.ref a := rx
  have hm1 := PySem.W.mapOf_K (prog := X.prog) I1.kIn D.at_ D.lit
  refine ⟨hm1.typeIs, hm1.noDict, ?_⟩
  rw [m.trees]
  refine Calls.callWith_builtin rfl (Calls.evalArgs_plain (Calls.spliced_cons (thn (he.run pins s1 σ H1 _ I1 q1) fun iv s2 ⟨y, H2, I2, ry, q2⟩ =>
    Calls.spliced_cons (thn (hf.run pins s2 σ H2 _ I2 q2) fun fv s3 ⟨z, H3, I3, rz, k, ey, q3⟩ => Calls.spliced_nil ?_))))
  subst ey
  obtain ⟨t, rfl⟩ := (show ∃ t, iv = Value.str k t from ry)
  have hm3 := PySem.W.mapOf_K (prog := X.prog) I3.kIn D.at_ D.lit
  refine call_meetsIn PySem.F.slot_dict_get hm3.typeIs PySem.F.entry_dict_get (PySem.F.args_dict_get_3 _ _ _) (meets_dict_get_default (strKind X.prog X.w) a (PySem.strKind_is X.prog X.w k t) D.low fv) ⟨_, hm3, ?_⟩
  rcases q3 with ⟨e1, q⟩ | ⟨u, v, e1, r, q⟩
  · rw [PySem.W.find_K D.at_ e1]
    exact ⟨z, H3, I3.tok _, rz, q⟩
  · rw [PySem.W.find_K D.at_ e1]
    exact ⟨v, H3, I3.tok _, r, q⟩
theorem repIN {Γ : Gh} {i : Int} : RepR c Γ (.p (.int i)) (.int i) := (Rep.int_iff (c := c) (G := Γ.G)).mpr rfl
theorem wgetK_ok {a : Addr} {σ : L2.St} {H3 : Hp} {Γ : Gh} {S : Sg} {y z : R} {wy wz : V} {Q : VK} (F : FrOk c Γ S σ H3) (hy : RepR c Γ y wy) (hz : RepR c Γ z wz)
    (h2 : ∀ z : Str, z ∉ kvs.map (·.1) → PySem.W.nsIn X.K a z = some none) (h3 : ∀ p ∈ kvs, ∃ t, PySem.W.nsIn X.K a p.1 = some (some (.int p.2 t)))
    (P : Post c W σ Γ (wgetK kvs y z S) fun x S' Γ' H' => ∀ v, RepR c Γ' x v → Q v H') :
    ∃ k, wy = .str k ∧ ((PySem.W.nsIn X.K a k = some none ∧ Q wz H3) ∨ ∃ u v, PySem.W.nsIn X.K a k = some (some u) ∧ RelV v u ∧ Q v H3) := by
  unfold wgetK at P
  cases y with
  | r n => exact P.elim
  | p d =>
    cases d with
    | str k =>
      refine ⟨k, Rep.str_iff.mp (show Rep c Γ.G (.str k) wy from hy), ?_⟩
      simp only at P
      cases e : kvs.lookup k with
      | none =>
        rw [e] at P
        exact .inl ⟨h2 k (lookup_none e), Post.ok (c := c) (W := W) P Gh.le.refl F _ hz⟩
      | some i =>
        rw [e] at P
        obtain ⟨t, q⟩ := h3 _ (lookup_mem e)
        exact .inr ⟨_, .int i, q, ⟨t, rfl⟩, Post.ok (c := c) (W := W) P Gh.le.refl F _ repIN⟩
    | _ => exact P.elim
theorem se_wget (D : DctS X.K X.w X.mg x kvs) (he : PE X e (rdE c W fk)) (hf : PE X f (rdE c W fx)) (hg : Gl X x := by rfl) (hd : (x == ("__debug__" : Str)) = false := by decide) (m : M2 X (.Name x pos) "get" apos e f cpos := by exact ⟨by rfl, by rfl, by rfl, by rfl⟩) :
    PE X (.Call (.Attribute (.Name x pos) "get" apos) [e, f] [] cpos) (rdE c W (wgetE kvs fk fx)) := by
  obtain ⟨a, es, n, h0, hK, h2, h3⟩ := D.ex
  exact se_of (pe_wget2 hK hg h0 he hf hd m) fun σ H Q q => by
    obtain ⟨Γ, S, F, P⟩ := q
    refine ⟨Γ, S, F, (Post.bind P).imp fun y S2 Γ2 H2 e2 F2 ⟨_, P3⟩ wy hy => ?_⟩
    refine ⟨Γ2, S2, F2, (Post.bind P3).imp fun z S3 Γ3 H3 e3 F3 ⟨_, P4⟩ wz hz => ?_⟩
    exact wgetK_ok F3 (hy.mono e3) hz h2 h3 P4
end
theorem wgetE_ap (kvs : List (Str × Int)) (fk fx : M R) (S : Sg) : wgetE kvs fk fx S = (fk S).bnd fun k S => (fx S).bnd fun x S => wgetK kvs k x S := Eq.trans rfl rfl
theorem wgetK_ap {kvs : List (Str × Int)} {z : Str} {x : R} {S : Sg} : wgetK kvs (.p (.str z)) x S = (match kvs.lookup z with
    | some i => .ok (.p (.int i)) S
    | none => .ok x S) := Eq.trans rfl rfl
/-! ### two names in parallel, some of them cells -/
section
variable {X : Cx} {c : Cg} {W : WX} {x y : Str} {a b : Expr} {g : M (List R)} {px py pt pos : Pos} {k2 pt2} {kt : Nat} {i j : Nat}
end
end Dd

set_option Elab.async false
set_option linter.all false
set_option maxRecDepth 100000
set_option maxHeartbeats 4000000
/-! isinstance where objects of several own classes stand -/
namespace Dd
open PySem PySem.Spec PyProof.Rows L2
section
variable {X : Cx} {c : Cg} {W : WX} {a b : Expr} {f : M R} {pos p : Pos}
end
/-! ### == of an own class, against objects of other own classes -/
section
variable {X : Cx} {c : Cg} {W : WX} {a b e o : Expr} {f fa fb : M R} {g : M (List R)} {pos p apos : Pos} {k n : Nat} {F : Fn} {fA : Addr} {fd : FuncData} {ps : List Str} {js : List Nat}
end
end Dd

set_option Elab.async false
set_option linter.all false
set_option maxRecDepth 100000
set_option maxHeartbeats 4000000
/-! own functions as values, called by a local name -/
namespace Dd
open PySem PySem.Spec PyProof.Rows L2
section
variable {X : Cx} {c : Cg} {W : WX} {e : Expr} {es : List Expr} {f : M R} {g : M (List R)} {pos p : Pos} {x : Str} {K' : Nat} {tbl : List (Nat × Nat × Fn)} {ta : TE} {t : TA}
end
end Dd

set_option Elab.async false
set_option linter.all false
set_option maxRecDepth 100000
set_option maxHeartbeats 4000000
/-! sorted(set(list of ints)) -/
namespace Dd
open PySem PySem.Spec PyProof.Rows L2
section
variable {prog : Program} {w : World} {B : Around} {E : Value → Shared → Prop} {t : Shared}
end
section
variable {X : Cx} {c : Cg} {W : WX} {a : Expr} {f : M R} {p p2 pos pos2 : Pos}
end
end Dd

set_option Elab.async false
set_option linter.all false
set_option maxRecDepth 100000
set_option maxHeartbeats 4000000
/-! slices of texts, a text within a text -/
namespace Dd
open PySem PySem.Spec PyProof.Rows L2
section
variable {X : Cx} {c : Cg} {W : WX} {e a b : Expr} {f fa fb : M R} {l h : M (Option Int)} {lo hi : Option Expr} {p2 pos : Pos}
end
end Dd

set_option Elab.async false
set_option linter.all false
set_option maxRecDepth 100000
set_option maxHeartbeats 4000000
/-! a call of what stands at a place of a list: own functions -/
namespace Dd
open PySem PySem.Spec PyProof.Rows L2
section
variable {X : Cx} {c : Cg} {W : WX} {o i e : Expr} {es : List Expr} {f : M R} {g : M (List R)} {pos p : Pos} {K' : Nat} {tbl : List (Nat × Nat × Fn)} {ta : TE} {t : TA}
end
end Dd

set_option Elab.async false
set_option linter.all false
set_option maxRecDepth 100000
set_option maxHeartbeats 4000000
/-! min and max of four whole numbers -/
namespace Dd
open PySem PySem.Spec PyProof.Rows L2
section
variable {prog : Program} {w : World} {A : Around} {E : Value → Shared → Prop} {s : Shared}

end
section
variable {X : Cx} {c : Cg} {W : WX} {a b d e : Expr} {fa fb fd fe : M R} {p pos : Pos}

end
end Dd

set_option Elab.async false
set_option linter.all false
set_option maxRecDepth 100000
set_option maxHeartbeats 4000000
/-! list.index of whole numbers -/
namespace Dd
open PySem PySem.Spec PyProof.Rows L2
section
variable {X : Cx} {c : Cg} {W : WX} {o a : Expr} {f fa : M R} {apos : Pos}
end
end Dd

set_option Elab.async false
set_option linter.all false
set_option maxRecDepth 100000
set_option maxHeartbeats 4000000
/-! range(0, j, k) of a positive step that divides j -/
namespace Dd
open PySem PySem.Spec PyProof.Rows L2
section
variable {X : Cx} {c : Cg} {W : WX} {tg a b : Expr} {g : M (List R)} {pos p : Pos}
end
end Dd

set_option Elab.async false
set_option linter.all false
set_option maxRecDepth 100000
set_option maxHeartbeats 4000000
/-! a def that ends in the return of a pair: an object of its own, and data -/
namespace Dd
open PySem PySem.Spec PyProof.Rows L2
inductive FRes2 where
  | ok (o : Con) (d : D) (st : Store) | exc (x : Xn) (st : Store) | bad
abbrev Fn2 := List R → Store → FRes2
def FPost2 (c : Cg) (Γ : Gh) (r : FRes2) (Q : VK) (E : XK) : Prop := match r with
  | .ok o d st => ∀ Γ' H' a v p ob, Γ.le Γ' → StOk c { Γ' with ρ := Γ'.ρ ++ [a] } (st ++ [.mu o]) H' → Rep c Γ'.G d v → H' p = some (.frz ob (.tup [.ref a, v])) → Q (.ref p) H'
  | .exc x st => ∀ Γ' H' cls dd, Γ.le Γ' → StOk c Γ' st H' → XRep c Γ' H' x cls dd → E cls dd H'
  | .bad => False
def spF2 (c : Cg) (n : Nat) (F : Fn2) : Sp := fun vs H Q E => ∃ xs Γ st, vs.length = n ∧ RepRL c Γ xs vs ∧ StOk c Γ st H ∧ FPost2 c Γ (F xs st) Q E
/-! ### bodies -/
inductive Fl2 where
  | rt (x y : R)
def PostS2 (c : Cg) (W : WX) (Γ : Gh) (r : Res Fl2) (E : Ends) : Prop := match r with
  | .ok (.rt x y) S' => ∀ Γ' σ' H' v u p ob, Γ.le Γ' → FrOk c Γ' S' σ' H' → RepR c Γ' x v → RepR c Γ' y u → H' p = some (.frz ob (.tup [v, u])) → E.rt (.ref p) H'
  | .exc x S' => ∀ Γ' σ' H' cls dd, Γ.le Γ' → FrOk c Γ' S' σ' H' → XRep c Γ' H' x cls dd → W cls dd σ' H'
  | .bad => False
def rdS2 (c : Cg) (W : WX) (f : M Fl2) : TS := fun E σ H => ∃ Γ S, FrOk c Γ S σ H ∧ PostS2 c W Γ (f S) E
def sSq2 (h1 : M Fl) (h2 : M Fl2) : M Fl2 := fun S => match h1 S with
  | .ok .nx S' => h2 S'
  | .exc x S' => .exc x S'
  | _ => .bad
def sRt2 (fa fb : M R) : M Fl2 := fun S => match fa S with
  | .ok x S1 => (match fb S1 with
    | .ok y S2 => .ok (.rt x y) S2
    | .exc x S2 => .exc x S2
    | .bad => .bad)
  | .exc x S1 => .exc x S1
  | .bad => .bad
section
variable {X : Cx} {c : Cg} {W : WX} {st : Stmt} {sts : List Stmt} {h1 : M Fl} {h2 : M Fl2} {fa fb : M R} {e1 e2 : Expr} {pos tp : Pos}
theorem PostS2.le {Γ Γ1 : Gh} {r : Res Fl2} {E : Ends} (h : PostS2 c W Γ r E) (e : Γ.le Γ1) : PostS2 c W Γ1 r E := by
  cases r with
  | ok a S =>
    cases a with
    | rt x y => exact fun Γ' σ' H' v u p ob e' => h Γ' σ' H' v u p ob (e.trans e')
  | exc x S => exact fun Γ' σ' H' cls dd e' => h Γ' σ' H' cls dd (e.trans e')
  | bad => exact h
theorem sss_of2 {t : TS} {h : M Fl2} (hp : PSs X sts t) (hi : ∀ E σ H, rdS2 c W h E σ H → t E σ H) : PSs X sts (rdS2 c W h) := ⟨fun pins s σ H E I q => hp.run pins s σ H E I (hi E σ H q)⟩
theorem sss_cons2 (hs : PS X st (rdS c W h1)) (ht : PSs X sts (rdS2 c W h2)) : PSs X (st :: sts) (rdS2 c W (sSq2 h1 h2)) := sss_of2 (pss_cons hs ht) fun E σ H q => by
  obtain ⟨Γ, S, F, P⟩ := q
  refine ⟨Γ, S, F, ?_⟩
  unfold sSq2 at P
  cases e : h1 S with
  | bad => rw [e] at P; exact P
  | exc x S' => rw [e] at P; exact P
  | ok a S' =>
    rw [e] at P
    cases a with
    | nx => exact fun Γ' σ' H' e' F' => ⟨Γ', S', F', PostS2.le (show PostS2 c W Γ (h2 S') E from P) e'⟩
    | bk => exact (show False from P).elim
    | ct => exact (show False from P).elim
    | rt x => exact (show False from P).elim
theorem ss_ret2 {k : Nat} (ha : PE X e1 (rdE c W fa)) (hb : PE X e2 (rdE c W fb)) (he : starEach [e1, e2] X.env = (false, eval e1 X.env) :: starEach [e2] X.env := by rfl) (he2 : starEach [e2] X.env = (false, eval e2 X.env) :: starEach [] X.env := by rfl) :
    PSs X [.Return (some (.Tuple [e1, e2] k tp)) pos] (rdS2 c W (sRt2 fa fb)) :=
  sss_of2 (pss_one (ps_ret (pe_tupF (sa_cons ha (sa_cons hb sa_nil he2) he)))) fun E σ H q => by
    obtain ⟨Γ, S, F, P⟩ := q
    refine ⟨Γ, S, F, ?_⟩
    unfold sRt2 at P
    show Post c W σ Γ (aC fa (aC fb aN) S) _
    cases ea : fa S with
    | bad => rw [ea] at P; exact (show False from P).elim
    | exc x S1 =>
      rw [ea] at P
      have e : aC fa (aC fb aN) S = .exc x S1 := by show (fa >>= _) S = _; exact bind_exc ea
      rw [e]
      exact fun Γ' H' cls dd e' F' X' => P Γ' σ H' cls dd e' F' X'
    | ok x S1 =>
      rw [ea] at P
      simp only at P
      cases eb : fb S1 with
      | bad => rw [eb] at P; exact (show False from P).elim
      | exc z S2 =>
        rw [eb] at P
        have e : aC fa (aC fb aN) S = .exc z S2 := by
          show (fa >>= _) S = _
          rw [bind_ok ea]
          show ((fb >>= _) >>= _) S1 = _
          rw [bind_exc (x := z) (S' := S2) (by exact bind_exc eb)]
        rw [e]
        exact fun Γ' H' cls dd e' F' X' => P Γ' σ H' cls dd e' F' X'
      | ok y S2 =>
        rw [eb] at P
        have e : aC fa (aC fb aN) S = .ok [x, y] S2 := by
          show (fa >>= _) S = _
          rw [bind_ok ea]
          show ((fb >>= _) >>= _) S1 = _
          rw [bind_ok (a := [y]) (S' := S2) (by rw [bind_ok eb]; rfl)]
          rfl
        rw [e]
        intro Γ' H' le F' vs hvs
        obtain ⟨v, r, rfl, k1, u, r', rfl, k2, k3⟩ := hvs
        rw [show r' = [] from k3]
        refine ⟨by rw [sizeLine_eq]; show 2 ≤ _; decide, fun p o hp ho => ?_⟩
        have hG : Γ'.G p = none := Ext.none F'.s.g hp
        have ex : Ext Γ'.G (upd Γ'.G p (.frz o (.tup [v, u]))) := Ext.upd hG
        have le2 : Γ'.le { Γ' with G := upd Γ'.G p (.frz o (.tup [v, u])) } := ⟨ex, rfl, [], by simp⟩
        exact P _ σ _ v u p o (le.trans le2) (F'.of le2 (F'.s.newG hp)) (k1.mono le2) (k2.mono le2) upd_same
end
/-! ### a def of this kind -/
def finish2 (base : Nat) : Res Fl2 → FRes2
  | .ok (.rt (.r n) (.p d)) S => if base ≤ n then (match S.st[n]? with
    | some (.mu o) => .ok o d (S.st.take base)
    | _ => .bad) else .bad
  | .exc x S => .exc x (S.st.take base)
  | _ => .bad
def runF2 (n : Nat) (h : M Fl2) : Fn2 := fun xs st => finish2 st.length (h (startS n xs st))
section
variable {P : Program} {w : World} {K : PySem.W.Frag} {mg : Str → Option Value} {base : Heap} {c : Cg}
theorem finish2_ok {Γ : Gh} {st : Store} {r : Res Fl2} {Q : VK} {E : XK} (hl : st.length = Γ.ρ.length) (h : FPost2 c Γ (finish2 st.length r) Q E) :
    PostS2 c (fun cls d _ H => E cls d H) Γ r { nx := fun _ H' => Q .non H', rt := Q } := by
  cases r with
  | bad => exact h
  | exc x S' =>
    intro Γ' σ' H' cls dd e F q
    have T := F.s.trunc e
    rw [← hl] at T
    exact h { Γ' with ρ := Γ.ρ } H' cls dd (le_trunc e) T q
  | ok a S' =>
    cases a with
    | rt x y =>
      cases x with
      | p d => exact (show False from h).elim
      | r n =>
        cases y with
        | r m => exact (show False from h).elim
        | p d =>
          have h : FPost2 c Γ (if st.length ≤ n then (match S'.st[n]? with | some (.mu o) => .ok o d (S'.st.take st.length) | _ => .bad) else .bad) Q E := h
          intro Γ' σ' H' v u p ob e F q1 q2 hp
          obtain ⟨a, k1, rfl⟩ := q1
          by_cases hb : st.length ≤ n
          · rw [if_pos hb] at h
            cases q3 : S'.st[n]? with
            | none => rw [q3] at h; exact h.elim
            | some y =>
              rw [q3] at h
              cases y with
              | dead => exact h.elim
              | fz l => exact h.elim
              | mu o =>
                have T1 := F.s.trunc1 e (by omega) q3 k1
                rw [← hl] at T1
                exact h { Γ' with ρ := Γ.ρ } H' a u p ob (le_trunc e) T1 q2 hp
          · rw [if_neg hb] at h; exact h.elim
/-- THE RULE of such a def -/
theorem fn_ok2 {x qual : Str} {st : Stmt} {f : Addr} {fd : FuncData} {N ps : List Str} {k : Nat} {h : M Fl2} (F : Fun K x qual st f fd) (S : FnScope N ps (defScope st))
    (hbody : ∀ (cdv : Value) (A : Around) (outer : List Env) (s : Shared) (H : Hp) (E : XK), (A.deeper (envOfC qual (defScope st) s.heap.objs.size f cdv)).guards = some [] → Room k (A.deeper (envOfC qual (defScope st) s.heap.objs.size f cdv)) →
      Takes (cxOf (L2.CX P w) P w K mg base N qual (defScope st) f cdv A outer s H E) (fun cls d _ H => E cls d H) →
      PSs (cxOf (L2.CX P w) P w K mg base N qual (defScope st) f cdv A outer s H E) (defBody st) (rdS2 c (fun cls d _ H => E cls d H) h)) :
    FnG P w K mg base (k + 1) f fd ps (spF2 c ps.length (runF2 N.length h)) := by
  obtain ⟨oc, od, kV, doc, pm, an, cdv, ct, osl, rfl, lk, hcd⟩ := F.ex
  refine ⟨fun vs H Q E ⟨_, _, _, h, _⟩ => h, fun A outer s H args us vs Q E hG hr e0 hb r hsp => ?_⟩
  have keep : ∀ b o, base.get? b = some o → s.heap.get? b = some o := fun b o e => (e0.bs b o e).1
  have KX : K.In s.heap := e0.mod.kin.keeps keep
  obtain ⟨xs, Γ, st', hl, hx, F', hP⟩ := hsp
  have hall : ∀ y ∈ ps.zip us, (defScope st).names.lookup y.1 = some .local ∨ ((defScope st).names.lookup y.1 = some .cell ∧ ((cellsFrom (s.heap.objs.size + 1) (defScope st).names []).lookup y.1).isSome = true) := fun y hy =>
    (S.par y.1 (List.of_mem_zip (a := y.1) (b := y.2) hy).1).imp_right fun q => ⟨q, PySem.W.cellsFrom_some _ _ _ (.inl q)⟩
  have cr := PySem.W.codeRec_of KX hcd
  have lk' := KX _ _ lk
  refine codeAny_call_function hr.depth lk' rfl S.co S.gen rfl cr ?_
  refine hb _ _ _ _ ?_
  refine wpAny_newFunctionEnv_cells S.kind hall fun env he s1 z => ?_
  subst he
  refine ⟨(e0.mod.nolimit.keeps keep).keeps z.toInCall.keep, codeAny_func ?_⟩
  have B := hbody cdv A outer s H E hG (hr.deeper _) (takes_of rfl rfl rfl rfl)
  have I0 : Inv (cxOf (L2.CX P w) P w K mg base N qual (defScope st) f cdv A outer s H E) [] (L2.start N vs) H s1 := inv_start S hr.hd e0 hl r z
  have B2 := B.run [] s1 (L2.start N vs) H { nx := fun _ H' => Q .non H', rt := Q } I0 ⟨Γ, _, start_ok (ps := ps) hx F', finish2_ok F'.len hP⟩
  refine wpAny_mono B2 (fun fl s' q => ?_) fun _ _ q => q
  have fin : ∀ {σ' : L2.St} {H' : Hp} {v : V} {u : Value}, L2.Inv (cxOf (L2.CX P w) P w K mg base N qual (defScope st) f cdv A outer s H E) [] σ' H' s' → RelV v u → Q v H' → CE outer P w H s Q u s' :=
    fun {σ' H' v u} J rv q => ⟨v, H', J.os, J.bare, J.base, J.hok, rv, q⟩
  cases fl with
  | ret u =>
    obtain ⟨v, σ', H', J, rv, q⟩ := q
    exact fin J rv q
  | next =>
    obtain ⟨σ', H', J, q⟩ := q
    exact fin (v := V.non) (u := Value.none) J rfl q
  | brk =>
    obtain ⟨_, _, _, q⟩ := q
    exact False.elim q
  | cont =>
    obtain ⟨_, _, _, q⟩ := q
    exact False.elim q
end
/-! ### x, y = f(..) -/
def applyF2 (i j : Nat) (S : Sg) : FRes2 → Res Fl
  | .ok o d st => .ok .nx ⟨(S.sl.set i (some (.r st.length))).set j (some (.p d)), st ++ [.mu o]⟩
  | .exc x st => .exc x { S with st := st }
  | .bad => .bad
def sAsg2 (F : Fn2) (n i j : Nat) (g : M (List R)) : M Fl := do
  let xs ← g
  fun S => if xs.length = n then applyF2 i j S (F xs S.st) else .bad
section
variable {X : Cx} {c : Cg} {W : WX} {e : Expr} {es : List Expr} {g : M (List R)} {pos p cpos : Pos} {F : Fn2} {n k i j q : Nat} {fA : Addr} {fd : FuncData} {ps : List Str} {x a b : Str} {pa pb tpos : Pos}
theorem ss_asg2 (Fk : FnG X.prog X.w X.K X.mg X.base k fA fd ps (spF2 c n F)) (hG : X.A.guards = some []) (hr : Room k X.A) (hg : Gl X x) (hm : X.mg x = some (.ref fA)) (hk : PySem.W.keepIn X.K (.ref fA) = true) (hb : Binds X.K fd ps []) (tk : Takes X W)
    (ha : PA X (e :: es) (rdA c W g)) (hc : X.calm = true) (hK : X.K = c.K) (hN : X.N.Nodup) (hi : X.N[i]? = some a) (hj : X.N[j]? = some b) (ia : Loc X.env.scope a) (ib : Loc X.env.scope b)
    (hfa : X.fn a = true ∨ X.env.scope.names.lookup a = some .local := by first | exact .inl rfl | exact .inr rfl | assumption) (hfb : X.fn b = true ∨ X.env.scope.names.lookup b = some .local := by first | exact .inl rfl | exact .inr rfl | assumption)
    (hdb : (x == ("__debug__" : Str)) = false := by decide) (he : starEach (e :: es) X.env = (false, eval e X.env) :: starEach es X.env := by rfl) (hpl : (backTo cpos (starEach es X.env)).any (·.1) = false := by rfl)
    (hs : swapsWithSole [.Tuple [.Name a pa, .Name b pb] q tpos] (.Call (.Name x p) (e :: es) [] cpos) pos.line X.env = pure false := by rfl) (hw : swappedStores [.Tuple [.Name a pa, .Name b pb] q tpos] (.Call (.Name x p) (e :: es) [] cpos) X.env = pure none := by rfl)
    (h1 : (assignEach [.Tuple [.Name a pa, .Name b pb] q tpos] X.env).map (·.2) = [assign (.Tuple [.Name a pa, .Name b pb] q tpos) X.env] := by rfl)
    (s1 : (assignEach [.Name a pa, .Name b pb] X.env).map (·.2) = assign (.Name a pa) X.env :: (assignEach [.Name b pb] X.env).map (·.2) := by rfl) (s2 : (assignEach [.Name b pb] X.env).map (·.2) = assign (.Name b pb) X.env :: (assignEach [] X.env).map (·.2) := by rfl)
    (hn : (assignEach [.Name a pa, .Name b pb] X.env).length = 2 := by rfl) (hst : (assignEach [.Name a pa, .Name b pb] X.env).findIdx? (·.1) = none := by rfl) :
    PS X (.Assign [.Tuple [.Name a pa, .Name b pb] q tpos] (.Call (.Name x p) (e :: es) [] cpos) pos) (rdS c W (sAsg2 F n i j g)) :=
  ss_of (ps_asg (pe_callG Fk hG hr hg hm hk hb tk ha hdb he hpl) (pg_tup hc (pgs_cons (pg_name hN hi ia hfa) (pgs_cons (pg_name hN hj ib hfb) pgs_nil s2) s1) hn hst) hs hw h1) fun E σ H qq => by
    obtain ⟨Γ, S, Fo, P⟩ := qq
    refine ⟨Γ, S, Fo, (PostS.bindE P).imp fun xs S1 Γ1 H1 e1 F1 ⟨_, P1⟩ vs hvs => ?_⟩
    by_cases h : xs.length = n
    · rw [if_pos h] at P1
      refine ⟨xs, Γ1, S1.st, by rw [hvs.length, h], hvs, F1.s, ?_⟩
      cases hF : F xs S1.st with
      | bad => rw [hF] at P1; exact P1.elim
      | exc z st => rw [hF] at P1; exact fun Γ' H' cls dd le s qx => P1 Γ' σ H' cls dd le (F1.of le s) qx
      | ok o d st =>
        rw [hF] at P1
        intro Γ' H' ad v pp ob le s rp hp
        have e' : Γ1.le { Γ' with ρ := Γ'.ρ ++ [ad] } := le.trans le_app
        have hl : st.length = Γ'.ρ.length := by have := s.len; simp at this; omega
        have ra : RepR c { Γ' with ρ := Γ'.ρ ++ [ad] } (.r st.length) (.ref ad) := ⟨ad, by show (Γ'.ρ ++ [ad])[st.length]? = _; rw [hl]; simp, rfl⟩
        have F2 := ((F1.of e' s).put i ra).put j (x := .p d) (v := v) rp
        exact ⟨pp, [.ref ad, v], rfl, .inl (.inr ⟨ob, hp⟩), rfl, .ref ad, [v], rfl, v, [], rfl, rfl, P1 _ _ _ e' F2⟩
    · rw [if_neg h] at P1; exact P1.elim
end
end Dd

set_option Elab.async false
set_option linter.all false
set_option maxRecDepth 100000
set_option maxHeartbeats 4000000
namespace Lib
open PySem PySem.Spec PyProof.Rows L2 Dd
noncomputable def b_is_int : M Fl :=
    (sRt (eAnd (isB "int" (vr 0)) (eNot (isB "bool" (vr 0)))))
noncomputable def s_is_int : Fn := runF 1 b_is_int

noncomputable def b_is_level : M Fl :=
    (sSq (sIf (mOr (mNot (tst (isB "tuple" (vr 0)))) (mOr (tst (bin opNeD (opA (op1 opLen) (aC (vr 0) aN)) (ci 4))) (mNot (tst (opA (op1 opAll) (aC (lcE [1] [1] unp1 (itL (vr 0)) tYesM (callM s_is_int 1 (aC (vr 1) aN))) aN)))))) (sRt (cb false)) sNx)
    (sRt (bin opEqD (opA (op1 opSort) (aC (vr 0) aN)) (lstE (aC (ci 0) (aC (ci 1) (aC (ci 2) (aC (ci 3) aN))))))))
noncomputable def s_is_level : Fn := runF 2 b_is_level

noncomputable def b_Screen___init : M Fl :=
    (sSq (sIf (mOr (mNot (tst (isB "list" (vr 1)))) (mNot (tst (eChain opLe opLe (ci 1) (opA (op1 opLen) (aC (vr 1) aN)) (cd (.int 50)))))) (sRaiseF 101 cn) sNx)
    (sSq (sFor (itE (vr 1)) (gsC (gN 2) (gsC (gN 3) gsN)) (sIf (mNot (tst (callM s_is_level 1 (aC (vr 3) aN)))) (sRaiseF 101 (vr 2)) sNx))
    (sFld 0 "own_levels" (vr 0) (opA (op1 opTuple) (aC (vr 1) aN)))))
noncomputable def s_Screen___init : Fn := runF 4 b_Screen___init

noncomputable def b_is_whole : M Fl :=
    (sRt (eAnd (callM s_is_int 1 (aC (vr 0) aN)) (eChain opLe opLe (vr 1) (vr 0) (vr 2))))
noncomputable def s_is_whole : Fn := runF 3 b_is_whole

noncomputable def b_z_law_bag : M Fl :=
    (sRt (lstE (aC (opA opMax2 (aC (ci 0) (aC (bin opSub (vr 0) (bin opPow (ci 10) (ci 18))) aN))) (aC (vr 0) (aC (ci 0) aN)))))
noncomputable def s_z_law_bag : Fn := runF 1 b_z_law_bag

noncomputable def b_z_law_pick : M Fl :=
    (sSq (sSub (bin opAdd (bin opIx (vr 0) (ci 2)) (ci 1)) (vr 0) (ci 2))
    (sSq (sIf (tst (bin opGt (bin opIx (vr 0) (ci 0)) (ci 0))) (sSq (sSet 2 (bin opMod (opA (op1 opInt) (aC (bin opIx (vr 0) (ci 0)) aN)) (vr 1)))
    (sSq (sSub (bin opDiv (opA (op1 opInt) (aC (bin opIx (vr 0) (ci 0)) aN)) (vr 1)) (vr 0) (ci 0))
    (sRt (vr 2)))) sNx)
    (sSq (sPar 3 4 (aC (opA (op1 opInt) (aC (bin opIx (vr 0) (ci 1)) aN)) (aC (opA (op1 opInt) (aC (bin opIx (vr 0) (ci 2)) aN)) aN)))
    (sSq (sSet 5 (bin opMod (opA (op1 opInt) (aC (bin opAdd (bin opAdd (bin opMul (bin opMod (vr 3) (ci 2147483629)) (ci 48271)) (bin opMul (vr 4) (ci 69621))) (ci 12345)) aN)) (ci 2147483647)))
    (sSq (sSet 6 (bin opMod (opA (op1 opInt) (aC (bin opAdd (bin opMul (vr 5) (vr 5)) (bin opMul (vr 4) (ci 40692))) aN)) (ci 2147483587)))
    (sSq (sSet 7 (bin opDiv (opA (op1 opInt) (aC (bin opAdd (bin opMul (vr 5) (ci 2147483587)) (vr 6)) aN)) (ci 32)))
    (sSq (sIf (tst (bin opGt (vr 1) (bin opPow (ci 10) (ci 15)))) (sSet 7 (bin opAdd (bin opPow (vr 7) (ci 8)) (vr 6))) sNx)
    (sRt (bin opMod (opA (op1 opInt) (aC (vr 7) aN)) (vr 1))))))))))
noncomputable def s_z_law_pick : Fn := runF 8 b_z_law_pick

noncomputable def b_Screen_levels : M Fl :=
    (sRt (opA (op1 opList) (aC (attrU 0 "own_levels" (vr 0)) aN)))
noncomputable def s_Screen_levels : Fn := runF 1 b_Screen_levels

noncomputable def b_Screen_depth : M Fl :=
    (sRt (opA (op1 opLen) (aC (attrU 0 "own_levels" (vr 0)) aN)))
noncomputable def s_Screen_depth : Fn := runF 1 b_Screen_depth

noncomputable def b_Screen_period : M Fl :=
    (sRt (bin opShl (ci 1) (opA (op1 opLen) (aC (attrU 0 "own_levels" (vr 0)) aN))))
noncomputable def s_Screen_period : Fn := runF 1 b_Screen_period

noncomputable def b_Screen_shades : M Fl :=
    (sRt (bin opShl (ci 1) (bin opMul (ci 2) (opA (op1 opLen) (aC (attrU 0 "own_levels" (vr 0)) aN)))))
noncomputable def s_Screen_shades : Fn := runF 1 b_Screen_shades

noncomputable def b_require_screen : M Fl :=
    (sIf (mNot (tst (isC 0 (vr 0)))) (sRaise 108) sNx)
noncomputable def s_require_screen : Fn := runF 1 b_require_screen

noncomputable def b_rearranged : M Fl :=
    (sRt (makeU 0 s_Screen___init 2 (aC (pur (lcE [2] [2] unp1 (itL (attrU 0 "own_levels" (vr 0))) tYesM (opA (op1 opTuple) (aC (lcE [3] [3] unp1 (itL (vr 1)) tYesM (bin opIx (vr 2) (vr 3))) aN)))) aN)))
noncomputable def s_rearranged : Fn := runF 4 b_rearranged

noncomputable def b_mirrored : M Fl :=
    (sSq (sEx (callM s_require_screen 1 (aC (vr 0) aN)))
    (sRt (callM s_rearranged 2 (aC (vr 0) (aC (tupE (aC (ci 1) (aC (ci 0) (aC (ci 3) (aC (ci 2) aN))))) aN)))))
noncomputable def s_mirrored : Fn := runF 1 b_mirrored

noncomputable def b_first_levels : M Fl :=
    (sSq (sEx (callM s_require_screen 1 (aC (vr 0) aN)))
    (sSq (sIf (mNot (tst (callM s_is_whole 3 (aC (vr 1) (aC (ci 1) (aC (opA (op1 opLen) (aC (attrU 0 "own_levels" (vr 0)) aN)) aN)))))) (sRaise 114) sNx)
    (sRt (makeU 0 s_Screen___init 2 (aC (pur (slE (propU 0 s_Screen_levels (vr 0)) opt0 (opt1 (vr 1)))) aN)))))
noncomputable def s_first_levels : Fn := runF 2 b_first_levels

noncomputable def b_is_shade : M Fl :=
    (sRt (callM s_is_whole 3 (aC (vr 1) (aC (ci 0) (aC (bin opShl (ci 1) (bin opMul (ci 2) (opA (op1 opLen) (aC (attrU 0 "own_levels" (vr 0)) aN)))) aN)))))
noncomputable def s_is_shade : Fn := runF 2 b_is_shade

noncomputable def b_require_shade : M Fl :=
    (sIf (mNot (tst (callM s_is_shade 2 (aC (vr 0) (aC (vr 1) aN))))) (sRaise 109) sNx)
noncomputable def s_require_shade : Fn := runF 2 b_require_shade

noncomputable def b_is_window : M Fl :=
    (sSq (sIf (mOr (mNot (tst (isB "tuple" (vr 0)))) (tst (bin opNeD (opA (op1 opLen) (aC (vr 0) aN)) (ci 4)))) (sRt (cb false)) sNx)
    (sSq (sAsg (vr 0) (gT 4 (gsC (gN 1) (gsC (gN 2) (gsC (gN 3) (gsC (gN 4) gsN))))))
    (sSq (sIf (mOr (mNot (tst (callM s_is_whole 3 (aC (vr 1) (aC (bin opSub (ci 0) (cd (.int 1000000000000000000000000000000))) (aC (cd (.int 1000000000000000000000000000000)) aN)))))) (mNot (tst (callM s_is_whole 3 (aC (vr 2) (aC (bin opSub (ci 0) (cd (.int 1000000000000000000000000000000))) (aC (cd (.int 1000000000000000000000000000000)) aN))))))) (sRt (cb false)) sNx)
    (sRt (eAnd (callM s_is_whole 3 (aC (vr 3) (aC (ci 1) (aC (cd (.int 1000000000000000000000000000000)) aN)))) (callM s_is_whole 3 (aC (vr 4) (aC (ci 1) (aC (cd (.int 1000000000000000000000000000000)) aN)))))))))
noncomputable def s_is_window : Fn := runF 5 b_is_window

noncomputable def b_require_window : M Fl :=
    (sIf (mNot (tst (callM s_is_window 1 (aC (vr 0) aN)))) (sRaise 110) sNx)
noncomputable def s_require_window : Fn := runF 1 b_require_window

noncomputable def b_residues : M Fl :=
    (sRt (bin opSub (bin opShr (bin opSub (bin opSub (bin opAdd (vr 0) (vr 1)) (ci 1)) (vr 2)) (vr 3)) (bin opShr (bin opSub (bin opSub (vr 0) (ci 1)) (vr 2)) (vr 3))))
noncomputable def s_residues : Fn := runF 4 b_residues

noncomputable def b_places_with : M Fl :=
    (sSq (sAsg (vr 0) (gT 4 (gsC (gN 4) (gsC (gN 5) (gsC (gN 6) (gsC (gN 7) gsN))))))
    (sRt (bin opMul (callM s_residues 4 (aC (vr 4) (aC (vr 6) (aC (vr 1) (aC (vr 3) aN))))) (callM s_residues 4 (aC (vr 5) (aC (vr 7) (aC (vr 2) (aC (vr 3) aN))))))))
noncomputable def s_places_with : Fn := runF 8 b_places_with

noncomputable def b_cells_below : M Fl :=
    (sSq (sSet 2 (opA (op1 opLen) (aC (vr 0) aN)))
    (sSq (sIf (tst (bin opEqD (vr 1) (bin opShl (ci 1) (bin opMul (ci 2) (vr 2))))) (sRt (lstE (aC (tupE (aC (ci 0) (aC (ci 0) (aC (ci 0) aN)))) aN))) sNx)
    (sSq (sPar3 3 4 5 (aC (lstE aN) (aC (ci 0) (aC (ci 0) aN))))
    (sSq (sFor (itE (vr 0)) (gsC (gN 6) (gsC (gN 7) gsN)) (sSq (sSet 8 (bin opBand (bin opShr (vr 1) (bin opMul (ci 2) (bin opSub (bin opSub (vr 2) (ci 1)) (vr 6)))) (ci 3)))
    (sSq (sFor (itE (vr 7)) (gsC (gN 9) (gsC (gN 10) gsN)) (sSq (sSet 11 (tupE (aC (bin opAdd (vr 4) (bin opShl (bin opBand (vr 9) (ci 1)) (vr 6))) (aC (bin opAdd (vr 5) (bin opShl (bin opShr (vr 9) (ci 1)) (vr 6))) aN))))
    (sIf (tst (bin opLt (vr 10) (vr 8))) (sEx (methM isLst opApp (vr 3) (aC (tupE (aC (bin opIx (vr 11) (ci 0)) (aC (bin opIx (vr 11) (ci 1)) (aC (bin opAdd (vr 6) (ci 1)) aN)))) aN))) (sIf (tst (bin opEqD (vr 10) (vr 8))) (sSet 12 (vr 11)) sNx))))
    (sAsg (vr 12) (gT 2 (gsC (gN 4) (gsC (gN 5) gsN)))))))
    (sRt (vr 3))))))
noncomputable def s_cells_below : Fn := runF 13 b_cells_below

noncomputable def b_count_of : M Fl :=
    (sRt (opA (op1 opSum) (aC (lcE [3, 4, 5] [3, 4, 5] unpT (itL (callM s_cells_below 2 (aC (vr 0) (aC (vr 1) aN)))) tYesM (callM s_places_with 4 (aC (vr 2) (aC (vr 3) (aC (vr 4) (aC (vr 5) aN)))))) aN)))
noncomputable def s_count_of : Fn := runF 6 b_count_of

noncomputable def b_dots_in : M Fl :=
    (sRt (callM s_count_of 3 (aC (attrU 0 "own_levels" (vr 0)) (aC (vr 1) (aC (vr 2) aN)))))
noncomputable def s_dots_in : Fn := runF 3 b_dots_in

noncomputable def b_dot_count : M Fl :=
    (sSq (sEx (callM s_require_screen 1 (aC (vr 0) aN)))
    (sSq (sEx (callM s_require_shade 2 (aC (vr 0) (aC (vr 1) aN))))
    (sSq (sEx (callM s_require_window 1 (aC (vr 2) aN)))
    (sRt (callM s_dots_in 3 (aC (vr 0) (aC (vr 1) (aC (vr 2) aN))))))))
noncomputable def s_dot_count : Fn := runF 3 b_dot_count

noncomputable def b_nth_of_window : M Fl :=
    (sSq (sAsg (tupE (aC (ci 0) (aC (vr 2) (aC (ci 0) (aC (ci 0) aN))))) (gT 4 (gsC (gN 3) (gsC (gN 4) (gsC (gN 5) (gsC (gN 6) gsN))))))
    (sSq (sFor (itE (attrU 0 "own_levels" (vr 0))) (gsC (gN 7) (gsC (gN 8) gsN)) (sSq (sFor (itR1 (aC (ci 4) aN)) (gN 9) (sSq (sSet 10 (methM isTup opTIdx (vr 8) (aC (vr 9) aN)))
    (sSq (sSet 11 (tupE (aC (bin opAdd (vr 5) (bin opShl (bin opBand (vr 10) (ci 1)) (vr 7))) (aC (bin opAdd (vr 6) (bin opShl (bin opShr (vr 10) (ci 1)) (vr 7))) aN))))
    (sSq (sSet 12 (callM s_places_with 4 (aC (vr 1) (aC (bin opIx (vr 11) (ci 0)) (aC (bin opIx (vr 11) (ci 1)) (aC (bin opAdd (vr 7) (ci 1)) aN))))))
    (sSq (sIf (tst (bin opLt (vr 4) (vr 12))) sBk sNx)
    (sAug (fun i j => i - j) 4 (vr 12)))))))
    (sPar3 3 5 6 (aC (bin opAdd (bin opMul (ci 4) (vr 3)) (vr 9)) (aC (bin opIx (vr 11) (ci 0)) (aC (bin opIx (vr 11) (ci 1)) aN))))))
    (sRt (vr 3))))
noncomputable def s_nth_of_window : Fn := runF 13 b_nth_of_window

noncomputable def b_places_of : M Fl :=
    (sRt (bin opMul (bin opIx (vr 0) (ci 2)) (bin opIx (vr 0) (ci 3))))
noncomputable def s_places_of : Fn := runF 1 b_places_of

noncomputable def b_require_number : M Fl :=
    (sIf (mNot (tst (callM s_is_whole 3 (aC (vr 0) (aC (vr 1) (aC (vr 2) aN)))))) (sRaise 114) sNx)
noncomputable def s_require_number : Fn := runF 3 b_require_number

noncomputable def b_least_with : M Fl :=
    (sRt (eIf (tst (bin opEqD (vr 2) (ci 0))) (ci 0) (bin opAdd (callM s_nth_of_window 3 (aC (vr 0) (aC (vr 1) (aC (bin opSub (vr 2) (ci 1)) aN)))) (ci 1))))
noncomputable def s_least_with : Fn := runF 3 b_least_with

noncomputable def b_least_shade : M Fl :=
    (sSq (sEx (callM s_require_screen 1 (aC (vr 0) aN)))
    (sSq (sEx (callM s_require_window 1 (aC (vr 1) aN)))
    (sSq (sEx (callM s_require_number 3 (aC (vr 2) (aC (ci 0) (aC (callM s_places_of 1 (aC (vr 1) aN)) aN)))))
    (sRt (callM s_least_with 3 (aC (vr 0) (aC (vr 1) (aC (vr 2) aN))))))))
noncomputable def s_least_shade : Fn := runF 3 b_least_shade

noncomputable def b_z_law_level : M Fl :=
    (sSq (sPar 1 2 (aC (lstE (aC (ci 0) (aC (ci 1) (aC (ci 2) (aC (ci 3) aN))))) (aC (lstE aN) aN)))
    (sSq (sFor (itR1 (aC (ci 4) aN)) (gN 3) (sEx (methM isLst opApp (vr 2) (aC (methM isLst opPopAt (vr 1) (aC (callM s_z_law_pick 2 (aC (vr 0) (aC (opA (op1 opLen) (aC (vr 1) aN)) aN))) aN)) aN))))
    (sRt (opA (op1 opTuple) (aC (vr 2) aN)))))
noncomputable def s_z_law_level : Fn := runF 4 b_z_law_level

noncomputable def b_z_law_levels_v2 : M Fl :=
    (sRt (lcE [2] [2] unp1 (itR1 (aC (bin opAdd (ci 1) (callM s_z_law_pick 2 (aC (vr 0) (aC (vr 1) aN)))) aN)) tYesM (callM s_z_law_level 1 (aC (vr 0) aN))))
noncomputable def s_z_law_levels_v2 : Fn := runF 3 b_z_law_levels_v2

noncomputable def b_Picture___init : M Fl :=
    (sSq (sEx (callM s_require_screen 1 (aC (vr 1) aN)))
    (sSq (sIf (mNot (tst (callM s_is_whole 3 (aC (vr 2) (aC (ci 1) (aC (cd (.int 1000000000000000000000000000000)) aN)))))) (sRaise 114) sNx)
    (sSq (sFld 1 "own_limit" (vr 0) cn)
    (sSq (sFld 1 "own_screen" (vr 0) (vr 1))
    (sSq (sFld 1 "own_width" (vr 0) (vr 2))
    (sSq (sFld 1 "own_bands" (vr 0) (tupE aN))
    (sSq (sFldN 1 "own_calls" 0)
    (sFldN 1 "own_past" 0))))))))
noncomputable def s_Picture___init : Fn := runF 3 b_Picture___init

noncomputable def b_ink_of : M Fl :=
    (sSq (sSet 4 (ci 0))
    (sSq (sFor (itL (vr 2)) (gT 2 (gsC (gN 5) (gsC (gN 6) gsN))) (sSq (sAug (fun i j => i + j) 4 (callM s_dots_in 3 (aC (vr 0) (aC (vr 6) (aC (tupE (aC (ci 0) (aC (vr 3) (aC (vr 1) (aC (vr 5) aN))))) aN)))))
    (sAug (fun i j => i + j) 3 (vr 5))))
    (sRt (vr 4))))
noncomputable def s_ink_of : Fn := runF 7 b_ink_of

noncomputable def b_Picture_ink : M Fl :=
    (sRt (callM s_ink_of 4 (aC (attrU 1 "own_screen" (vr 0)) (aC (attrU 1 "own_width" (vr 0)) (aC (attrU 1 "own_bands" (vr 0)) (aC (ci 0) aN))))))
noncomputable def s_Picture_ink : Fn := runF 1 b_Picture_ink

noncomputable def b_Picture_bands : M Fl :=
    (sRt (opA (op1 opList) (aC (attrU 1 "own_bands" (vr 0)) aN)))
noncomputable def s_Picture_bands : Fn := runF 1 b_Picture_bands

noncomputable def b_merged : M Fl :=
    (sSq (sSet 1 (lstE aN))
    (sSq (sFor (itL (vr 0)) (gT 2 (gsC (gN 2) (gsC (gN 3) gsN))) (sIf (mAnd (tst (bin opNeD (vr 1) (lstE aN))) (tst (bin opEqD (bin opIx (bin opIx (vr 1) (uNeg (ci 1))) (ci 1)) (vr 3)))) (sSub (tupE (aC (bin opAdd (bin opIx (bin opIx (vr 1) (uNeg (ci 1))) (ci 0)) (vr 2)) (aC (vr 3) aN))) (vr 1) (uNeg (ci 1))) (sEx (methM isLst opApp (vr 1) (aC (tupE (aC (vr 2) (aC (vr 3) aN))) aN)))))
    (sRt (opA (op1 opTuple) (aC (vr 1) aN)))))
noncomputable def s_merged : Fn := runF 4 b_merged

noncomputable def b_height_of : M Fl :=
    (sRt (opA (op1 opSum) (aC (lcE [1, 2] [1, 2] unpT (itL (vr 0)) tYesM (vr 1)) aN)))
noncomputable def s_height_of : Fn := runF 3 b_height_of

noncomputable def b_require_rows : M Fl :=
    (sSq (sSet 3 (callM s_height_of 1 (aC (vr 0) aN)))
    (sSq (sIf (mNot (tst (callM s_is_whole 3 (aC (vr 1) (aC (ci 0) (aC (bin opSub (vr 3) (ci 1)) aN)))))) (sRaise 115) sNx)
    (sIf (mNot (tst (callM s_is_whole 3 (aC (vr 2) (aC (ci 1) (aC (bin opSub (vr 3) (vr 1)) aN)))))) (sRaise 115) sNx)))
noncomputable def s_require_rows : Fn := runF 4 b_require_rows

noncomputable def b_part_of : M Fl :=
    (sSq (sPar 3 4 (aC (lstE aN) (aC (ci 0) aN)))
    (sSq (sFor (itL (vr 0)) (gT 2 (gsC (gN 5) (gsC (gN 6) gsN))) (sSq (sPar 7 8 (aC (opA opMax2 (aC (vr 1) (aC (vr 4) aN))) (aC (opA opMin2 (aC (vr 2) (aC (bin opAdd (vr 4) (vr 5)) aN))) aN)))
    (sSq (sIf (tst (bin opLt (vr 7) (vr 8))) (sEx (methM isLst opApp (vr 3) (aC (tupE (aC (bin opSub (vr 8) (vr 7)) (aC (vr 6) aN))) aN))) sNx)
    (sAug (fun i j => i + j) 4 (vr 5)))))
    (sRt (vr 3))))
noncomputable def s_part_of : Fn := runF 9 b_part_of

noncomputable def b_changed : M Fl :=
    (sSq (sPar3 3 4 5 (aC (bin opIx (vr 2) (ci 1)) (aC (bin opIx (vr 2) (ci 2)) (aC (callM s_height_of 1 (aC (vr 1) aN)) aN))))
    (sSq (sIf (tst (bin opEqD (bin opIx (vr 2) (ci 0)) (cs "insert"))) (sSq (sIf (mNot (tst (callM s_is_whole 3 (aC (vr 3) (aC (ci 0) (aC (vr 5) aN)))))) (sRaise 115) sNx)
    (sIf (mNot (tst (callM s_is_whole 3 (aC (vr 4) (aC (ci 1) (aC (cd (.int 1000000000000000000000000000000)) aN)))))) (sRaise 114) sNx)) (sEx (callM s_require_rows 3 (aC (vr 1) (aC (vr 3) (aC (vr 4) aN))))))
    (sSq (sSet 6 (pur (lstE aN)))
    (sSq (sIf (tst (bin opNeD (bin opIx (vr 2) (ci 0)) (cs "remove"))) (sSq (sIf (mNot (tst (callM s_is_shade 2 (aC (vr 0) (aC (bin opIx (vr 2) (ci 3)) aN))))) (sRaise 109) sNx)
    (sSet 6 (pur (lstE (aC (tupE (aC (vr 4) (aC (bin opIx (vr 2) (ci 3)) aN))) aN))))) sNx)
    (sSq (sSet 7 (eIf (tst (bin opEqD (bin opIx (vr 2) (ci 0)) (cs "insert"))) (vr 3) (bin opAdd (vr 3) (vr 4))))
    (sRt (callM s_merged 1 (aC (pur (lstE (aS (callM s_part_of 3 (aC (vr 1) (aC (ci 0) (aC (vr 3) aN)))) (aS (vr 6) (aS (callM s_part_of 3 (aC (vr 1) (aC (vr 7) (aC (vr 5) aN)))) aN))))) aN))))))))
noncomputable def s_changed : Fn := runF 8 b_changed

noncomputable def b_Picture_behind : M Fl :=
    (sSq (sSet 3 (pur (callM s_changed 3 (aC (attrU 1 "own_screen" (vr 0)) (aC (vr 1) (aC (vr 2) aN))))))
    (sSq (sIf (tst (notN (attrU 1 "own_limit" (vr 0)))) (sSq (sSet 4 (callM s_ink_of 4 (aC (attrU 1 "own_screen" (vr 0)) (aC (attrU 1 "own_width" (vr 0)) (aC (vr 3) (aC (ci 0) aN))))))
    (sIf (tst (bin opGt (vr 4) (attrU 1 "own_limit" (vr 0)))) (sRaiseF 107 (vr 4)) sNx)) sNx)
    (sRt (vr 3))))
noncomputable def s_Picture_behind : Fn := runF 5 b_Picture_behind

noncomputable def b_Picture_perform : M Fl :=
    (sSq (sSet 2 (pur (methU 1 "behind" s_Picture_behind 3 (vr 0) (aC (attrU 1 "own_bands" (vr 0)) (aC (vr 1) aN)))))
    (sSq (sEx (ownApp 1 "own_past" 0 (attrU 1 "own_bands" (vr 0))))
    (sSq (sEx (ownApp 1 "own_calls" 0 (vr 1)))
    (sFld 1 "own_bands" (vr 0) (vr 2)))))
noncomputable def s_Picture_perform : Fn := runF 3 b_Picture_perform

noncomputable def b_Picture_insert : M Fl :=
    (sEx (methU 1 "perform" s_Picture_perform 2 (vr 0) (aC (tupE (aC (cs "insert") (aC (vr 1) (aC (vr 2) (aC (vr 3) aN))))) aN)))
noncomputable def s_Picture_insert : Fn := runF 4 b_Picture_insert

noncomputable def b_Picture_height : M Fl :=
    (sRt (callM s_height_of 1 (aC (attrU 1 "own_bands" (vr 0)) aN)))
noncomputable def s_Picture_height : Fn := runF 1 b_Picture_height

end Lib

set_option Elab.async false
set_option linter.all false
set_option maxRecDepth 100000
set_option maxHeartbeats 4000000
namespace Lib
open PySem PySem.Spec PyProof.Rows L2 Dd
noncomputable def b_is_operation : M Fl :=
    (sSq (sIf (mOr (mNot (tst (isB "tuple" (vr 0)))) (mOr (tst (bin opEqD (vr 0) (tupE aN))) (mNot (tst (isB "str" (bin opIx (vr 0) (ci 0))))))) (sRt (cb false)) sNx)
    (sRt (bin opEqD (opA (op1 opLen) (aC (vr 0) aN)) (wgetE [("insert", 4), ("remove", 3), ("paint", 4)] (bin opIx (vr 0) (ci 0)) (ci 0)))))
noncomputable def s_is_operation : Fn := runF 1 b_is_operation

noncomputable def b_Picture_preview : M Fl :=
    (sSq (sIf (mNot (tst (opA (op1 opAll) (aC (lcE [3] [3] unp1 (itL (vr 1)) tYesM (callM s_is_operation 1 (aC (vr 3) aN))) aN)))) (sRaise 117) sNx)
    (sSq (sSet 2 (attrU 1 "own_bands" (vr 0)))
    (sSq (sFor (itL (vr 1)) (gN 3) (sSet 2 (pur (methU 1 "behind" s_Picture_behind 3 (vr 0) (aC (vr 2) (aC (vr 3) aN))))))
    (sRt (callM s_ink_of 4 (aC (attrU 1 "own_screen" (vr 0)) (aC (attrU 1 "own_width" (vr 0)) (aC (vr 2) (aC (ci 0) aN)))))))))
noncomputable def s_Picture_preview : Fn := runF 4 b_Picture_preview

end Lib

set_option Elab.async false
set_option linter.all false
set_option maxRecDepth 100000
namespace Lib
open PySem PySem.Spec PyProof.Rows L2 Dd
theorem is_int_i (i : Int) (st : Store) : s_is_int [.p (.int i)] st = .ok (.val (.bl true)) st := by
  unfold s_is_int b_is_int
  simp! []
theorem is_whole_i (i a b : Int) (st : Store) : s_is_whole [.p (.int i), .p (.int a), .p (.int b)] st = .ok (.val (.bl (decide (a ≤ i ∧ i ≤ b)))) st := by
  unfold s_is_whole b_is_whole
  simp! [is_int_i]
  by_cases h : a ≤ i <;> simp [h]
/-- a level: the four digits in some order -/
def Lv (d : D) : Prop := ∃ a b c e : Int, d = .tup [.int a, .int b, .int c, .int e] ∧ sortI [a, b, c, e] = [0, 1, 2, 3]
theorem is_level_ok {d : D} (st : Store) (h : Lv d) : s_is_level [.p d] st = .ok (.val (.bl true)) st := by
  obtain ⟨a, b, c, e, rfl, h⟩ := h
  unfold s_is_level b_is_level
  simp! []
  rw [lcL_map (g := fun _ => D.bl true) trivial _ _ (fun d hd => by
    simp only [List.mem_cons, List.not_mem_nil, or_false] at hd
    rcases hd with rfl | rfl | rfl | rfl <;> simp! [is_int_i]) (by simp)]
  simp! [lcFin_ok, allK, blsOf, List.all_cons, List.all_nil, id]
  have hs : intsOf [D.int a, D.int b, D.int c, D.int e] = some [a, b, c, e] := rfl
  simp! [sortK, hs, h]
  rw [opEqD_li (ns := [0, 1, 2, 3]) (ms := [0, 1, 2, 3]) (by rw [dataR_r]; simp! []; rfl) (by rw [dataR_r]; simp! []; rfl)]
  simp! []
theorem lv_of {l : List Int} (h : l.Perm [0, 1, 2, 3]) : Lv (.tup (l.map .int)) := by
  have hl := h.length_eq
  match l, hl with
  | [a, b, c, e], _ => exact ⟨a, b, c, e, rfl, (sortI_eq h.symm (by decide)).symm⟩
/-- levels as data -/
def lvD (ls : List (List Int)) : List D := ls.map fun l => .tup (l.map .int)
def LvOk (ls : List (List Int)) : Prop := 1 ≤ ls.length ∧ ls.length ≤ 50 ∧ ∀ l ∈ ls, l.Perm [0, 1, 2, 3]
theorem screen_init (ls : List (List Int)) (h : LvOk ls) (st : Store) :
    s_Screen___init [.r st.length, .p (.lst (lvD ls))] (st ++ [.mu (.obj 0 [])]) = .ok (.val .non) (st ++ [.mu (.obj 0 [("own_levels", .tup (lvD ls))])]) := by
  obtain ⟨h1, h2, h3⟩ := h
  have hl : (lvD ls).length = ls.length := List.length_map ..
  unfold s_Screen___init b_Screen___init
  have e1 : decide (1 ≤ ((ls.length : Nat) : Int)) = true := by simp; omega
  have e2 : decide (((ls.length : Nat) : Int) ≤ 50) = true := by simp; omega
  simp! [hl, e1, e2]
  obtain ⟨S', e, x, y, rfl⟩ := loop_inv (ok := fun _ => True) (body := fun d => (gsC (gN 2) (gsC (gN 3) gsN) d >>= fun _ => sIf (mNot (tst (callM s_is_level 1 (aC (vr 3) aN)))) (sRaiseF 101 (vr 2)) sNx : M Fl))
    (I := fun _ S => ∃ x y, S = ⟨[some (R.r st.length), some (R.p (D.lst (lvD ls))), x, y], st ++ [Cell.mu (Con.obj 0 [])]⟩) (numbered 0 (lvD ls)) 0 _ ⟨none, none, rfl⟩ (fun _ _ _ => trivial) (fun j d S hj ⟨x, y, hS⟩ => by
      subst hS
      obtain ⟨d', rfl, hd⟩ := numbered_at hj
      obtain ⟨l, hl, rfl⟩ := List.mem_map.mp (List.mem_of_getElem? hd)
      refine ⟨_, .inl (by rw [bind_bnd]; simp! [is_level_ok _ (lv_of (h3 l hl))]; rfl), _, _, rfl⟩)
  rw [e]
  simp! [fldK, putD]
theorem screen_make (ls : List (List Int)) (h : LvOk ls) (S : Sg) : makeK 0 s_Screen___init 2 [.p (.lst (lvD ls))] S = .ok (.r S.st.length) ⟨S.sl, S.st ++ [.mu (.obj 0 [("own_levels", .tup (lvD ls))])]⟩ := by
  unfold makeK
  simp only [List.length_cons, List.length_nil]
  rw [if_pos trivial, screen_init ls h]
theorem objD_scr {l : List D} : objD 0 [("own_levels", .tup l)] = some (.scr l) := rfl
theorem require_screen_ok (l : List D) (st : Store) : s_require_screen [.p (.scr l)] st = .ok (.val .non) st := by
  unfold s_require_screen b_require_screen
  simp! []
theorem two_len {n : Nat} (h : n ≤ 50) : CMulW 2 (n : Int) := cmulw (n := 2) (m := 10) (Bt.of (by omega)) (Bt.of (by omega))
theorem shl_four (n : Nat) : (1 : Int) * 2 ^ (2 * (n : Int)).toNat = 4 ^ n := by
  rw [Int.one_mul, show (2 * (n : Int)).toNat = 2 * n by omega, Int.pow_mul]; rfl
theorem is_shade_i (ls : List (List Int)) (h : ls.length ≤ 50) (v : Int) (st : Store) : s_is_shade [.p (.scr (lvD ls)), .p (.int v)] st = .ok (.val (.bl (decide (0 ≤ v ∧ v ≤ 4 ^ ls.length)))) st := by
  have hl : (lvD ls).length = ls.length := List.length_map ..
  unfold s_is_shade b_is_shade
  simp! [hl, opMul_i (two_len h), opShl_i (cshl1 (j := 2 * (ls.length : Int)) (by omega) (by omega)), is_whole_i, shl_four]
theorem require_shade_ok (ls : List (List Int)) (h : ls.length ≤ 50) (v : Int) (h0 : 0 ≤ v) (h1 : v ≤ 4 ^ ls.length) (st : Store) : s_require_shade [.p (.scr (lvD ls)), .p (.int v)] st = .ok (.val .non) st := by
  unfold s_require_shade b_require_shade
  simp! [is_shade_i ls h, h0, h1]
/-- a window -/
def WinOk (l t w h : Int) : Prop := -(1000000000000000000000000000000 : Int) ≤ l ∧ l ≤ (1000000000000000000000000000000 : Int) ∧ -(1000000000000000000000000000000 : Int) ≤ t ∧ t ≤ (1000000000000000000000000000000 : Int) ∧ 1 ≤ w ∧ w ≤ (1000000000000000000000000000000 : Int) ∧ 1 ≤ h ∧ h ≤ (1000000000000000000000000000000 : Int)
def winD (l t w h : Int) : D := .tup [.int l, .int t, .int w, .int h]
theorem is_window_ok {l t w h : Int} (k : WinOk l t w h) (st : Store) : s_is_window [.p (winD l t w h)] st = .ok (.val (.bl true)) st := by
  obtain ⟨k1, k2, k3, k4, k5, k6, k7, k8⟩ := k
  unfold s_is_window b_is_window winD
  simp! [is_whole_i, k1, k2, k3, k4, k5, k6, k7, k8]
theorem require_window_ok {l t w h : Int} (k : WinOk l t w h) (st : Store) : s_require_window [.p (winD l t w h)] st = .ok (.val .non) st := by
  unfold s_require_window b_require_window
  simp! [is_window_ok k]
/-- how many of the coordinates leave the residue -/
def resi (f m r : Int) (s : Nat) : Int := (f + m - 1 - r) / 2 ^ s - (f - 1 - r) / 2 ^ s
theorem residues_i (f m r : Int) (s : Nat) (st : Store) : s_residues [.p (.int f), .p (.int m), .p (.int r), .p (.int s)] st = .ok (.val (.int (resi f m r s))) st := by
  unfold s_residues b_residues
  simp! [opShr_i (i := f + m - 1 - r) (j := s) (by omega), opShr_i (i := f - 1 - r) (j := s) (by omega), Int.toNat_natCast, resi]
end Lib

set_option Elab.async false
set_option linter.all false
set_option maxRecDepth 100000
namespace Lib
open PySem PySem.Spec PyProof.Rows L2 Dd
theorem band1 (i : Int) : Builtin.bitAnd i 1 = i % 2 := PySem.W.kbt_mask i 1
theorem band3 (i : Int) : Builtin.bitAnd i 3 = i % 4 := PySem.W.kbt_mask i 2
theorem cshl_sm {i j : Int} (h : Bt 1000 i) (h0 : 0 ≤ j) (h1 : j ≤ 1000000) : CShl i j := ⟨h0, by
  have b : Builtin.Int.intBits i ≤ i.natAbs.log2 + 1 := by unfold Builtin.Int.intBits; split <;> omega
  have := h.log2
  omega⟩
/-- the cells below a shade: left of the digit at each level -/
def pl (c : Nat) (x y : Int) (s : Nat) : Int × Int := (x + ((c : Int) % 2) * 2 ^ s, y + ((c : Int) / 2) * 2 ^ s)
def below (g x y : Int) (s : Nat) : Nat → List Int → List (Int × Int × Nat)
  | _, [] => []
  | c, n :: r => if n < g then ((pl c x y s).1, (pl c x y s).2, s + 1) :: below g x y s (c + 1) r else below g x y s (c + 1) r
def furth (g x y : Int) (s : Nat) : Nat → List Int → Option (Int × Int) → Option (Int × Int)
  | _, [], o => o
  | c, n :: r, o => furth g x y s (c + 1) r (if n = g then some (pl c x y s) else o)
def cells (k : Int) : List (List Int) → Int → Int → Nat → List (Int × Int × Nat)
  | [], _, _, _ => []
  | lv :: r, x, y, s => below (k / 4 ^ r.length % 4) x y s 0 lv ++ match furth (k / 4 ^ r.length % 4) x y s 0 lv none with
    | some p => cells k r p.1 p.2 (s + 1)
    | none => []
def cD (t : Int × Int × Nat) : D := .tup [.int t.1, .int t.2.1, .int (t.2.2 : Int)]
def fD (o : Option (Int × Int)) (z : Option R) : Option R := match o with
  | some p => some (.p (.tup [.int p.1, .int p.2]))
  | none => z
noncomputable def inB : List D → M Fl := fun d => gsC (gN 9) (gsC (gN 10) gsN) d >>= fun _ => (sSq (sSet 11 (tupE (aC (bin opAdd (vr 4) (bin opShl (bin opBand (vr 9) (ci 1)) (vr 6))) (aC (bin opAdd (vr 5) (bin opShl (bin opShr (vr 9) (ci 1)) (vr 6))) aN))))
    (sIf (tst (bin opLt (vr 10) (vr 8))) (sEx (methM isLst opApp (vr 3) (aC (tupE (aC (bin opIx (vr 11) (ci 0)) (aC (bin opIx (vr 11) (ci 1)) (aC (bin opAdd (vr 6) (ci 1)) aN)))) aN))) (sIf (tst (bin opEqD (vr 10) (vr 8))) (sSet 12 (vr 11)) sNx)))
theorem inB_run {s0 s1 s2 z7 : Option R} {g x y : Int} {s : Nat} (hs : s ≤ 100) (st : Store) (z : Option R) : ∀ (l : List Int) (c : Nat) (acc : List D) (o : Option (Int × Int)) (j9 j10 j11 : Option R), c + l.length ≤ 4 → acc.length + l.length ≤ 1000 →
    ∃ k9 k10 k11, loopL (fun _ => True) inB (numbered c (l.map .int)) ⟨[s0, s1, s2, some (.r st.length), some (.p (.int x)), some (.p (.int y)), some (.p (.int s)), z7, some (.p (.int g)), j9, j10, j11, fD o z], st ++ [.mu (.lst acc)]⟩ =
      .ok .nx ⟨[s0, s1, s2, some (.r st.length), some (.p (.int x)), some (.p (.int y)), some (.p (.int s)), z7, some (.p (.int g)), k9, k10, k11, fD (furth g x y s c l o) z], st ++ [.mu (.lst (acc ++ (below g x y s c l).map cD))]⟩
  | [], c, acc, o, j9, j10, j11, hc, ha => ⟨j9, j10, j11, by
    rw [List.map_nil, Dd.numbered, loop_nil trivial]
    simp only [below, furth, List.map_nil, List.append_nil]⟩
  | n :: l, c, acc, o, j9, j10, j11, hc, ha => by
    rw [List.length_cons] at hc ha
    have e1 : ((c : Int) / 2 ^ (1 : Int).toNat) = (c : Int) / 2 := rfl
    have sh1 : CShl ((c : Int) % 2) (s : Int) := cshl_sm (Bt.mono (n := 8) (Bt.of (by omega)) (by decide)) (by omega) (by omega)
    have sh2 : CShl ((c : Int) / 2) (s : Int) := cshl_sm (Bt.mono (n := 8) (Bt.of (by omega)) (by decide)) (by omega) (by omega)
    have step : ∃ k9 k10 k11, inB [.int (c : Int), .int n] ⟨[s0, s1, s2, some (.r st.length), some (.p (.int x)), some (.p (.int y)), some (.p (.int s)), z7, some (.p (.int g)), j9, j10, j11, fD o z], st ++ [.mu (.lst acc)]⟩ =
        .ok .nx ⟨[s0, s1, s2, some (.r st.length), some (.p (.int x)), some (.p (.int y)), some (.p (.int s)), z7, some (.p (.int g)), k9, k10, k11, fD (if n = g then some (pl c x y s) else o) z], st ++ [.mu (.lst (acc ++ (if n < g then [cD ((pl c x y s).1, (pl c x y s).2, s + 1)] else [])))]⟩ := by
      refine ⟨some (.p (.int c)), some (.p (.int n)), some (.p (.tup [.int (pl c x y s).1, .int (pl c x y s).2])), ?_⟩
      unfold inB
      rw [bind_bnd]
      simp! [band1, e1, opShl_i sh1, opShl_i sh2, Int.toNat_natCast]
      by_cases h1 : n < g
      · have h2 : ¬ n = g := by omega
        simp! [h1, h2, appK_ap (show acc.length < 1000000 by omega), pl, cD, Int.natCast_add]
      · by_cases h2 : n = g
        · simp! [h1, h2, pl, List.append_nil, Int.lt_irrefl]
          rfl
        · simp! [h1, h2, pl, List.append_nil]
    obtain ⟨k9, k10, k11, e⟩ := step
    obtain ⟨q9, q10, q11, e2⟩ := inB_run hs st z l (c + 1) (acc ++ (if n < g then [cD ((pl c x y s).1, (pl c x y s).2, s + 1)] else [])) (if n = g then some (pl c x y s) else o) k9 k10 k11 (by omega) (by rw [List.length_append]; split <;> simp only [List.length_cons, List.length_nil] <;> omega)
    refine ⟨q9, q10, q11, ?_⟩
    rw [List.map_cons, Dd.numbered, loop_cons trivial, e, bnd_ok]
    show loopL _ _ _ _ = _
    rw [e2]
    simp only [below, furth]
    by_cases h1 : n < g
    · simp only [if_pos h1, List.map_cons, List.append_assoc, List.cons_append, List.nil_append]
    · simp only [if_neg h1, List.append_nil]
theorem furth_mem {g x y : Int} {s : Nat} : ∀ {l : List Int} {c : Nat}, g ∈ l → ∃ p, ∀ o, furth g x y s c l o = some p
  | [], c, h => absurd h (by simp)
  | n :: l, c, h => by
    by_cases hl : g ∈ l
    · obtain ⟨p, hp⟩ := furth_mem (c := c + 1) hl
      exact ⟨p, fun o => hp _⟩
    · have e : n = g := by
        rcases List.mem_cons.mp h with e | e
        · exact e.symm
        · exact (hl e).elim
      refine ⟨pl c x y s, fun o => ?_⟩
      have no : ∀ (l : List Int) (c : Nat) (o : Option (Int × Int)), g ∉ l → furth g x y s c l o = o := fun l => by
        induction l with
        | nil => intro c o _; rfl
        | cons m l ih =>
          intro c o hm
          have h1 : ¬ m = g := fun e => hm (by rw [e]; exact List.mem_cons_self)
          show furth g x y s (c + 1) l (if m = g then _ else o) = o
          rw [if_neg h1]
          exact ih _ _ fun q => hm (List.mem_cons_of_mem _ q)
      show furth g x y s (c + 1) l (if n = g then _ else o) = _
      rw [if_pos e]
      exact no l _ _ hl
theorem digit_mem {k : Int} {l : List Int} (h : l.Perm [0, 1, 2, 3]) : k % 4 ∈ l := by
  rw [h.mem_iff]
  have h0 : 0 ≤ k % 4 := Int.emod_nonneg _ (by decide)
  have h1 : k % 4 < 4 := Int.emod_lt_of_pos _ (by decide)
  simp only [List.mem_cons, List.not_mem_nil, or_false]
  omega
theorem shr_four (k : Int) (n : Nat) : k / 2 ^ (2 * (n : Int)).toNat = k / 4 ^ n := by
  rw [show (2 * (n : Int)).toNat = 2 * n by omega, Int.pow_mul]; rfl
theorem below_len {g x y : Int} {s : Nat} : ∀ {l : List Int} {c : Nat}, (below g x y s c l).length ≤ l.length
  | [], c => Nat.le_refl _
  | n :: l, c => by
    unfold below
    have := below_len (g := g) (x := x) (y := y) (s := s) (l := l) (c := c + 1)
    split
    · rw [List.length_cons, List.length_cons]; omega
    · rw [List.length_cons]; omega
noncomputable def outB : List D → M Fl := fun d => gsC (gN 6) (gsC (gN 7) gsN) d >>= fun _ => (sSq (sSet 8 (bin opBand (bin opShr (vr 1) (bin opMul (ci 2) (bin opSub (bin opSub (vr 2) (ci 1)) (vr 6)))) (ci 3)))
    (sSq (sFor (itE (vr 7)) (gsC (gN 9) (gsC (gN 10) gsN)) (sSq (sSet 11 (tupE (aC (bin opAdd (vr 4) (bin opShl (bin opBand (vr 9) (ci 1)) (vr 6))) (aC (bin opAdd (vr 5) (bin opShl (bin opShr (vr 9) (ci 1)) (vr 6))) aN))))
    (sIf (tst (bin opLt (vr 10) (vr 8))) (sEx (methM isLst opApp (vr 3) (aC (tupE (aC (bin opIx (vr 11) (ci 0)) (aC (bin opIx (vr 11) (ci 1)) (aC (bin opAdd (vr 6) (ci 1)) aN)))) aN))) (sIf (tst (bin opEqD (vr 10) (vr 8))) (sSet 12 (vr 11)) sNx))))
    (sAsg (vr 12) (gT 2 (gsC (gN 4) (gsC (gN 5) gsN))))))
theorem outB_run {s0 : Option R} {k : Int} {n : Nat} (hn : n ≤ 50) (st : Store) : ∀ (ls : List (List Int)) (s : Nat) (x y : Int) (acc : List D) (j6 j7 j8 j9 j10 j11 j12 : Option R), s + ls.length = n → (∀ l ∈ ls, l.Perm [0, 1, 2, 3]) → acc.length + 4 * ls.length ≤ 900 →
    ∃ x' y' k6 k7 k8 k9 k10 k11 k12, loopL (fun _ => True) outB (Dd.numbered s (lvD ls)) ⟨[s0, some (.p (.int k)), some (.p (.int n)), some (.r st.length), some (.p (.int x)), some (.p (.int y)), j6, j7, j8, j9, j10, j11, j12], st ++ [.mu (.lst acc)]⟩ =
      .ok .nx ⟨[s0, some (.p (.int k)), some (.p (.int n)), some (.r st.length), x', y', k6, k7, k8, k9, k10, k11, k12], st ++ [.mu (.lst (acc ++ (cells k ls x y s).map cD))]⟩
  | [], s, x, y, acc, j6, j7, j8, j9, j10, j11, j12, hs, hp, ha => ⟨some (.p (.int x)), some (.p (.int y)), j6, j7, j8, j9, j10, j11, j12, by
    show loopL _ _ [] _ = _
    rw [loop_nil trivial]
    simp only [cells, List.map_nil, List.append_nil]⟩
  | lv :: ls, s, x, y, acc, j6, j7, j8, j9, j10, j11, j12, hs, hp, ha => by
    rw [List.length_cons] at hs ha
    have hlv := hp lv List.mem_cons_self
    have l4 : lv.length = 4 := hlv.length_eq
    obtain ⟨p, hp4⟩ := furth_mem (x := x) (y := y) (s := s) (c := 0) (digit_mem (k := k / 4 ^ ls.length) hlv)
    have ed : ((n : Int) - 1 - (s : Int)) = (ls.length : Int) := by omega
    obtain ⟨k9, k10, k11, e1⟩ := inB_run (s0 := s0) (s1 := some (.p (.int k))) (s2 := some (.p (.int n))) (z7 := some (.p (.tup (lv.map .int)))) (g := k / 4 ^ ls.length % 4) (x := x) (y := y) (s := s) (by omega) st j12 lv 0 acc none j9 j10 j11 (by omega) (by omega)
    have step : outB [.int (s : Int), .tup (lv.map .int)] ⟨[s0, some (.p (.int k)), some (.p (.int n)), some (.r st.length), some (.p (.int x)), some (.p (.int y)), j6, j7, j8, j9, j10, j11, j12], st ++ [.mu (.lst acc)]⟩ =
        .ok .nx ⟨[s0, some (.p (.int k)), some (.p (.int n)), some (.r st.length), some (.p (.int p.1)), some (.p (.int p.2)), some (.p (.int s)), some (.p (.tup (lv.map .int))), some (.p (.int (k / 4 ^ ls.length % 4))), k9, k10, k11, some (.p (.tup [.int p.1, .int p.2]))], st ++ [.mu (.lst (acc ++ (below (k / 4 ^ ls.length % 4) x y s 0 lv).map cD))]⟩ := by
      unfold outB
      rw [bind_bnd]
      simp! [ed, opMul_i (two_len (n := ls.length) (by omega)), opShr_i (i := k) (j := 2 * (ls.length : Int)) (by omega), shr_four, band3]
      have e1' := e1
      rw [hp4] at e1'
      have e0 : fD none j12 = j12 := rfl
      rw [e0] at e1'
      unfold inB at e1'
      rw [e1']
      simp! [fD]
    obtain ⟨x', y', k6, k7, k8, q9, q10, q11, q12, e2⟩ := outB_run hn st ls (s + 1) p.1 p.2 (acc ++ (below (k / 4 ^ ls.length % 4) x y s 0 lv).map cD) (some (.p (.int s))) (some (.p (.tup (lv.map .int)))) (some (.p (.int (k / 4 ^ ls.length % 4)))) k9 k10 k11 (some (.p (.tup [.int p.1, .int p.2]))) (by omega) (fun l hl => hp l (List.mem_cons_of_mem _ hl)) (by
      have := below_len (g := k / 4 ^ ls.length % 4) (x := x) (y := y) (s := s) (l := lv) (c := 0)
      rw [List.length_append, List.length_map]; omega)
    refine ⟨x', y', k6, k7, k8, q9, q10, q11, q12, ?_⟩
    show loopL _ _ ([.int (s : Int), .tup (lv.map .int)] :: Dd.numbered (s + 1) (lvD ls)) _ = _
    rw [loop_cons trivial, step, bnd_ok]
    show loopL _ _ _ _ = _
    rw [e2]
    simp only [cells, hp4, List.map_append, List.append_assoc]
def cellsOf (k : Int) (ls : List (List Int)) : List (Int × Int × Nat) := if k = 4 ^ ls.length then [(0, 0, 0)] else cells k ls 0 0 0
theorem cells_below_i (ls : List (List Int)) (hl : ls.length ≤ 50) (hp : ∀ l ∈ ls, l.Perm [0, 1, 2, 3]) (k : Int) (st : Store) :
    s_cells_below [.p (.tup (lvD ls)), .p (.int k)] st = .ok (.new (.lst ((cellsOf k ls).map cD))) st := by
  have hlen : (lvD ls).length = ls.length := List.length_map ..
  unfold s_cells_below b_cells_below
  by_cases h : k = 4 ^ ls.length
  · simp! [hlen, opMul_i (two_len hl), opShl_i (cshl1 (j := 2 * (ls.length : Int)) (by omega) (by omega)), shl_four, h]
    rw [finishR_mu (o := .lst [.tup [.int 0, .int 0, .int 0]]) get_app0 (Nat.le_refl _), take_app]
    simp only [cellsOf, if_true, List.map_cons, List.map_nil, cD]
    rfl
  · simp! [hlen, opMul_i (two_len hl), opShl_i (cshl1 (j := 2 * (ls.length : Int)) (by omega) (by omega)), shl_four, h]
    obtain ⟨x', y', k6, k7, k8, k9, k10, k11, k12, e⟩ := outB_run (s0 := some (.p (.tup (lvD ls)))) (k := k) (n := ls.length) hl st ls 0 0 0 [] none none none none none none none (by omega) hp (by simp only [List.length_nil]; omega)
    have e' := e
    unfold outB at e'
    rw [e']
    simp! []
    rw [finishR_mu (o := .lst ((cells k ls 0 0 0).map cD)) get_app0 (Nat.le_refl _), take_app]
    simp only [cellsOf, if_neg h]
/-- how many places of a window a cell holds -/
def pwi (l t w h : Int) (c : Int × Int × Nat) : Int := resi l w c.1 c.2.2 * resi t h c.2.1 c.2.2
end Lib

set_option Elab.async false
set_option linter.all false
set_option maxRecDepth 100000
set_option exponentiation.threshold 2000
namespace Lib
open PySem PySem.Spec PyProof.Rows L2 Dd
theorem div_bd {x B : Int} {s : Nat} (h1 : -B ≤ x) (h2 : x ≤ B) : -B ≤ x / 2 ^ s ∧ x / 2 ^ s ≤ B := by
  have hd : (0 : Int) < 2 ^ s := Int.pow_pos (by decide)
  have hd1 : (1 : Int) ≤ 2 ^ s := hd
  by_cases hx : 0 ≤ x
  · have a := Int.ediv_nonneg hx (Int.le_of_lt hd)
    have b := Int.ediv_le_self (2 ^ s) hx
    omega
  · have a : x / 2 ^ s ≤ 0 := Int.le_of_lt (Int.ediv_neg_of_neg_of_pos (by omega) hd)
    have b : x ≤ x / 2 ^ s := by
      rw [Int.le_ediv_iff_mul_le hd]
      have : x * 2 ^ s ≤ x * 1 := Int.mul_le_mul_of_nonpos_left (by omega) hd1
      omega
    omega
theorem pow_bd {s n : Nat} (h : s ≤ n) : (2 : Int) ^ s ≤ 2 ^ n := by
  have : (2 : Nat) ^ s ≤ 2 ^ n := Nat.pow_le_pow_right (by decide) h
  exact_mod_cast this
theorem resi_bt {f m r : Int} {s : Nat} (h1 : -(1000000000000000000000000000000 : Int) ≤ f) (h2 : f ≤ 2 * (1000000000000000000000000000000 : Int)) (h3 : 0 ≤ m) (h4 : m ≤ (1000000000000000000000000000000 : Int)) (h5 : 0 ≤ r) (h6 : r ≤ (1000000000000000000000000000000 : Int)) : Bt 110 (resi f m r s) := by
  have a := div_bd (x := f + m - 1 - r) (B := 5 * (1000000000000000000000000000000 : Int)) (s := s) (by omega) (by omega)
  have b := div_bd (x := f - 1 - r) (B := 5 * (1000000000000000000000000000000 : Int)) (s := s) (by omega) (by omega)
  unfold resi
  apply Bt.of
  omega
def CellOk' (n : Nat) (c : Int × Int × Nat) : Prop := 0 ≤ c.1 ∧ c.1 < 2 ^ n ∧ 0 ≤ c.2.1 ∧ c.2.1 < 2 ^ n ∧ c.2.2 ≤ n
theorem places_with_i {l t w h : Int} (k : WinOk l t w h) {c : Int × Int × Nat} (hc : CellOk' 50 c) (st : Store) :
    s_places_with [.p (winD l t w h), .p (.int c.1), .p (.int c.2.1), .p (.int (c.2.2 : Int))] st = .ok (.val (.int (pwi l t w h c))) st := by
  obtain ⟨k1, k2, k3, k4, k5, k6, k7, k8⟩ := k
  obtain ⟨c1, c2, c3, c4, c5⟩ := hc
  have e : (2 : Int) ^ 50 ≤ (1000000000000000000000000000000 : Int) := by decide
  have b1 : Bt 110 (resi l w c.1 c.2.2) := resi_bt (by omega) (by omega) (by omega) (by omega) c1 (by omega)
  have b2 : Bt 110 (resi t h c.2.1 c.2.2) := resi_bt (by omega) (by omega) (by omega) (by omega) c3 (by omega)
  unfold s_places_with b_places_with winD
  simp! [residues_i, opMul_i (cmulw b1 b2), pwi]
theorem pl_bd {c : Nat} {x y : Int} {s : Nat} (hc : c < 4) (hx : 0 ≤ x) (hx' : x < 2 ^ s) (hy : 0 ≤ y) (hy' : y < 2 ^ s) : 0 ≤ (pl c x y s).1 ∧ (pl c x y s).1 < 2 ^ (s + 1) ∧ 0 ≤ (pl c x y s).2 ∧ (pl c x y s).2 < 2 ^ (s + 1) := by
  have e : (2 : Int) ^ (s + 1) = 2 * 2 ^ s := by rw [Int.pow_succ]; omega
  have c1 : (c : Int) % 2 = 0 ∨ (c : Int) % 2 = 1 := by omega
  have c2 : (c : Int) / 2 = 0 ∨ (c : Int) / 2 = 1 := by omega
  unfold pl
  simp only
  rw [e]
  rcases c1 with c1 | c1 <;> rcases c2 with c2 | c2 <;> rw [c1, c2] <;> simp only [Int.zero_mul, Int.one_mul] <;> omega
theorem below_ok {g x y : Int} {s : Nat} (hx : 0 ≤ x) (hx' : x < 2 ^ s) (hy : 0 ≤ y) (hy' : y < 2 ^ s) : ∀ {l : List Int} {c : Nat}, c + l.length ≤ 4 → ∀ z ∈ below g x y s c l, CellOk' (s + 1) z
  | [], c, hc, z, h => by simp [below] at h
  | n :: l, c, hc, z, h => by
    rw [List.length_cons] at hc
    unfold below at h
    split at h
    · rcases List.mem_cons.mp h with rfl | h
      · obtain ⟨a1, a2, a3, a4⟩ := pl_bd (c := c) (by omega) hx hx' hy hy'
        exact ⟨a1, a2, a3, a4, Nat.le_refl _⟩
      · exact below_ok hx hx' hy hy' (by omega) z h
    · exact below_ok hx hx' hy hy' (by omega) z h
theorem furth_ok {g x y : Int} {s : Nat} (hx : 0 ≤ x) (hx' : x < 2 ^ s) (hy : 0 ≤ y) (hy' : y < 2 ^ s) : ∀ {l : List Int} {c : Nat} {o : Option (Int × Int)}, c + l.length ≤ 4 → (∀ p, o = some p → 0 ≤ p.1 ∧ p.1 < 2 ^ (s + 1) ∧ 0 ≤ p.2 ∧ p.2 < 2 ^ (s + 1)) → ∀ p, furth g x y s c l o = some p → 0 ≤ p.1 ∧ p.1 < 2 ^ (s + 1) ∧ 0 ≤ p.2 ∧ p.2 < 2 ^ (s + 1)
  | [], c, o, hc, ho, p, h => ho p h
  | n :: l, c, o, hc, ho, p, h => by
    rw [List.length_cons] at hc
    refine furth_ok hx hx' hy hy' (l := l) (c := c + 1) (by omega) (fun q hq => ?_) p h
    split at hq
    · cases hq; exact pl_bd (by omega) hx hx' hy hy'
    · exact ho q hq
theorem CellOk'.mono {n m : Nat} {c : Int × Int × Nat} (h : CellOk' n c) (hm : n ≤ m) : CellOk' m c := by
  obtain ⟨h1, h2, h3, h4, h5⟩ := h
  have := pow_bd hm
  exact ⟨h1, by omega, h3, by omega, by omega⟩
theorem cells_ok {k : Int} : ∀ {ls : List (List Int)} {x y : Int} {s : Nat}, (∀ l ∈ ls, l.Perm [0, 1, 2, 3]) → 0 ≤ x → x < 2 ^ s → 0 ≤ y → y < 2 ^ s → ∀ z ∈ cells k ls x y s, CellOk' (s + ls.length) z
  | [], x, y, s, hp, hx, hx', hy, hy', z, h => by simp [cells] at h
  | lv :: ls, x, y, s, hp, hx, hx', hy, hy', z, h => by
    have l4 : lv.length = 4 := (hp lv List.mem_cons_self).length_eq
    unfold cells at h
    rw [List.length_cons]
    rcases List.mem_append.mp h with h | h
    · exact (below_ok hx hx' hy hy' (by omega) z h).mono (by omega)
    · cases q : furth (k / 4 ^ ls.length % 4) x y s 0 lv none with
      | none => rw [q] at h; simp at h
      | some p =>
        rw [q] at h
        obtain ⟨a1, a2, a3, a4⟩ := furth_ok hx hx' hy hy' (by omega) (fun p hp => by cases hp) p q
        exact (cells_ok (fun l hl => hp l (List.mem_cons_of_mem _ hl)) a1 a2 a3 a4 z h).mono (by omega)
theorem cellsOf_ok {k : Int} {ls : List (List Int)} (hl : ls.length ≤ 50) (hp : ∀ l ∈ ls, l.Perm [0, 1, 2, 3]) : ∀ z ∈ cellsOf k ls, CellOk' ls.length z := by
  intro z h
  unfold cellsOf at h
  split at h
  · simp only [List.mem_cons, List.not_mem_nil, or_false] at h
    subst h
    have : (0 : Int) < 2 ^ ls.length := Int.pow_pos (by decide)
    exact ⟨Int.le_refl _, this, Int.le_refl _, this, Nat.zero_le _⟩
  · have := cells_ok (s := 0) hp (Int.le_refl 0) (by decide) (Int.le_refl 0) (by decide) z h
    rwa [Nat.zero_add] at this
theorem cells_len {k : Int} : ∀ {ls : List (List Int)} {x y : Int} {s : Nat}, (∀ l ∈ ls, l.Perm [0, 1, 2, 3]) → (cells k ls x y s).length ≤ 4 * ls.length
  | [], x, y, s, hp => by simp [cells]
  | lv :: ls, x, y, s, hp => by
    have l4 : lv.length = 4 := (hp lv List.mem_cons_self).length_eq
    unfold cells
    rw [List.length_append, List.length_cons]
    have a := below_len (g := k / 4 ^ ls.length % 4) (x := x) (y := y) (s := s) (l := lv) (c := 0)
    split
    · rename_i p _
      have b := cells_len (k := k) (ls := ls) (x := p.1) (y := p.2) (s := s + 1) fun l hl => hp l (List.mem_cons_of_mem _ hl)
      omega
    · rw [List.length_nil]; omega
theorem cellsOf_len {k : Int} {ls : List (List Int)} (hl : ls.length ≤ 50) (hp : ∀ l ∈ ls, l.Perm [0, 1, 2, 3]) : (cellsOf k ls).length ≤ 200 := by
  unfold cellsOf
  split
  · simp
  · have := cells_len (k := k) (x := 0) (y := 0) (s := 0) hp
    omega
/-- THE COUNT -/
def cnt (ls : List (List Int)) (k l t w h : Int) : Int := ((cellsOf k ls).map (pwi l t w h)).sum
theorem count_of_i (ls : List (List Int)) (hl : ls.length ≤ 50) (hp : ∀ l ∈ ls, l.Perm [0, 1, 2, 3]) {k l t w h : Int} (hw : WinOk l t w h) (st : Store) :
    s_count_of [.p (.tup (lvD ls)), .p (.int k), .p (winD l t w h)] st = .ok (.val (.int (cnt ls k l t w h))) st := by
  have hlen := cellsOf_len (k := k) hl hp
  unfold s_count_of b_count_of
  simp! [cells_below_i ls hl hp k]
  rw [lcL_mapf (g := fun c => D.int (pwi l t w h c)) (by simp! []) _ _ (fun c hc => by
    have ok := (cellsOf_ok hl hp c hc).mono hl
    unfold cD
    simp! [places_with_i hw ok]) (by rw [List.length_nil]; omega)]
  simp! []
  rw [lcFin_ok (by rw [List.length_map]; omega)]
  have e : (cellsOf k ls).map (fun c => D.int (pwi l t w h c)) = ((cellsOf k ls).map (pwi l t w h)).map D.int := by rw [List.map_map]; rfl
  simp! [e, cnt]
theorem dots_in_i (ls : List (List Int)) (hl : ls.length ≤ 50) (hp : ∀ l ∈ ls, l.Perm [0, 1, 2, 3]) {k l t w h : Int} (hw : WinOk l t w h) (st : Store) :
    s_dots_in [.p (.scr (lvD ls)), .p (.int k), .p (winD l t w h)] st = .ok (.val (.int (cnt ls k l t w h))) st := by
  unfold s_dots_in b_dots_in
  simp! [count_of_i ls hl hp hw]
theorem dot_count_i (ls : List (List Int)) (hl : ls.length ≤ 50) (hp : ∀ l ∈ ls, l.Perm [0, 1, 2, 3]) {k l t w h : Int} (h0 : 0 ≤ k) (h1 : k ≤ 4 ^ ls.length) (hw : WinOk l t w h) (st : Store) :
    s_dot_count [.p (.scr (lvD ls)), .p (.int k), .p (winD l t w h)] st = .ok (.val (.int (cnt ls k l t w h))) st := by
  unfold s_dot_count b_dot_count
  simp! [require_screen_ok, require_shade_ok ls hl k h0 h1, require_window_ok hw, dots_in_i ls hl hp hw]
end Lib


set_option Elab.async false
set_option linter.all false
set_option maxRecDepth 100000
set_option exponentiation.threshold 2000
namespace Lib
open PySem PySem.Spec PyProof.Rows L2 Dd
/-- the bag of a script's cell: at n, no more than C draws out of it -/
def Bag (st : Store) (n C : Nat) : Prop := ∃ a b c : Int, st[n]? = some (.mu (.lst [.int a, .int b, .int c])) ∧ 0 ≤ c ∧ c ≤ C
theorem Bag.lt {st : Store} {n C : Nat} (h : Bag st n C) : n < st.length := by obtain ⟨a, b, c, e, _⟩ := h; exact (List.getElem?_eq_some_iff.mp e).1
theorem Bag.app {st l : Store} {n C : Nat} (h : Bag st n C) : Bag (st ++ l) n C := by obtain ⟨a, b, c, e, k⟩ := h; exact ⟨a, b, c, get_old e, k⟩
theorem Bag.mono {st : Store} {n C C' : Nat} (h : Bag st n C) (k : C ≤ C') : Bag st n C' := by obtain ⟨a, b, c, e, k1, k2⟩ := h; exact ⟨a, b, c, e, k1, by omega⟩
theorem bag_i (i : Int) (st : Store) : s_z_law_bag [.p (.int i)] st = .ok (.new (.lst [.int (max 0 (i - 1000000000000000000)), .int i, .int 0])) st := by
  unfold s_z_law_bag b_z_law_bag
  simp! [opPow_i (i := 10) (j := 18) (by decide)]
  rw [finishR_mu (o := .lst [.int (max 0 (i - 1000000000000000000)), .int i, .int 0]) get_app0 (Nat.le_refl _), take_app]
theorem pick_ok {st : Store} {n C : Nat} {m : Int} (hb : Bag st n C) (hC : C ≤ 1000000) (h0 : 0 < m) (h1 : m < 2 ^ 200) :
    ∃ v cell, s_z_law_pick [.r n, .p (.int m)] st = .ok (.val (.int v)) (st.set n cell) ∧ 0 ≤ v ∧ v < m ∧ Bag (st.set n cell) n (C + 1) := by
  obtain ⟨a, b, c, e, c0, c1⟩ := hb
  have hn := (List.getElem?_eq_some_iff.mp e).1
  have hs : ∀ x : Cell, (st.set n x)[n]? = some x := fun x => List.getElem?_set_self hn
  have dm : CDivW a m := cdivw h0 (Int.lt_of_lt_of_le h1 (by decide))
  by_cases ha : 0 < a
  · refine ⟨a % m, .mu (.lst [.int (a / m), .int b, .int (c + 1)]), ?_, Int.emod_nonneg _ (by omega), Int.emod_lt_of_pos _ h0, ⟨a / m, b, c + 1, hs _, by omega, by omega⟩⟩
    unfold s_z_law_pick b_z_law_pick
    simp! [e, hs, ha, opMod_i h0, opDiv_i dm, List.set_set]
  · have f1 : 0 < (2147483629 : Int) := by decide
    have x0 := Int.emod_nonneg b (b := 2147483629) (by decide)
    have x1 := Int.emod_lt_of_pos b f1
    have m1 : CMulW (b % 2147483629) 48271 := cmulw (Bt.of (n := 40) (by omega)) (Bt.of (n := 40) (by omega))
    have m2 : CMulW (c + 1) 69621 := cmulw (Bt.of (n := 40) (by omega)) (Bt.of (n := 40) (by omega))
    generalize hf : (b % 2147483629 * 48271 + (c + 1) * 69621 + 12345) % 2147483647 = f
    have f0 : 0 ≤ f := hf ▸ Int.emod_nonneg _ (by decide)
    have f2 : f < 2147483647 := hf ▸ Int.emod_lt_of_pos _ (by decide)
    have m3 : CMulW f f := cmulw (Bt.of (n := 40) (by omega)) (Bt.of (n := 40) (by omega))
    have m4 : CMulW (c + 1) 40692 := cmulw (Bt.of (n := 40) (by omega)) (Bt.of (n := 40) (by omega))
    generalize hg : (f * f + (c + 1) * 40692) % 2147483587 = g
    have g0 : 0 ≤ g := hg ▸ Int.emod_nonneg _ (by decide)
    have g1 : g < 2147483587 := hg ▸ Int.emod_lt_of_pos _ (by decide)
    have m5 : CMulW f 2147483587 := cmulw (Bt.of (n := 40) (by omega)) (Bt.of (n := 40) (by omega))
    generalize hd : (f * 2147483587 + g) / 32 = d
    have d0 : 0 ≤ d ∧ d < 2 ^ 60 := by omega
    have m6 : CPowW d 8 := cpoww (Bt.of (n := 60) (by omega)) (by decide) (by decide)
    refine ⟨(if 1000000000000000 < m then d ^ 8 + g else d) % m, .mu (.lst [.int a, .int b, .int (c + 1)]), ?_, Int.emod_nonneg _ (by omega), Int.emod_lt_of_pos _ h0, ⟨a, b, c + 1, hs _, by omega, by omega⟩⟩
    unfold s_z_law_pick b_z_law_pick
    simp! [e, hs, ha, opMod_i h0, opMul_i m1, opMul_i m2, opMul_i m3, opMul_i m4, opMul_i m5, hf, hg, hd, opDiv_i (cdivw (i := f * 2147483587 + g) (j := 32) (by decide) (by decide)), opPow_i (i := 10) (j := 15) (by decide), opPow_i m6]
    split <;> rfl
/-- a bag's cell -/
def BagC (c : Cell) (C : Nat) : Prop := ∃ a b k : Int, c = .mu (.lst [.int a, .int b, .int k]) ∧ 0 ≤ k ∧ k ≤ C
/-- F draws from the bag at n and answers a value of P -/
def Dr (B : Cell → Nat → Prop) (F : Fn) (xs : Nat → List R) (P : D → Prop) (k : Nat) : Prop := ∀ (st : Store) (n : Nat) (c : Cell) (C : Nat), n < st.length → B c C → C + k ≤ 1000000 → ∃ v c', F (xs n) (st.set n c) = .ok (.val v) (st.set n c') ∧ P v ∧ B c' (C + k)
def DrL (B : Cell → Nat → Prop) (F : Fn) (xs : Nat → List R) (P : List D → Prop) (k : Nat) : Prop := ∀ (st : Store) (n : Nat) (c : Cell) (C : Nat), n < st.length → B c C → C + k ≤ 1000000 → ∃ v c', F (xs n) (st.set n c) = .ok (.new (.lst v)) (st.set n c') ∧ P v ∧ B c' (C + k)
abbrev Draws := Dr BagC
abbrev DrawsL := DrL BagC
theorem Dr.a {BagC : Cell → Nat → Prop} {F : Fn} {xs : Nat → List R} {P : D → Prop} {k : Nat} (h : Dr BagC F xs P k) (l : Store) {st : Store} {n : Nat} {c : Cell} {C : Nat} (hn : n < st.length) (hb : BagC c C) (hC : C + k ≤ 1000000) :
    ∃ v c', F (xs n) (st.set n c ++ l) = .ok (.val v) (st.set n c' ++ l) ∧ P v ∧ BagC c' (C + k) := by
  obtain ⟨v, c', e, p, b⟩ := h (st ++ l) n c C (by rw [List.length_append]; omega) hb hC
  rw [set_old hn, set_old hn] at e
  exact ⟨v, c', e, p, b⟩
theorem DrL.a {BagC : Cell → Nat → Prop} {F : Fn} {xs : Nat → List R} {P : List D → Prop} {k : Nat} (h : DrL BagC F xs P k) (l : Store) {st : Store} {n : Nat} {c : Cell} {C : Nat} (hn : n < st.length) (hb : BagC c C) (hC : C + k ≤ 1000000) :
    ∃ v c', F (xs n) (st.set n c ++ l) = .ok (.new (.lst v)) (st.set n c' ++ l) ∧ P v ∧ BagC c' (C + k) := by
  obtain ⟨v, c', e, p, b⟩ := h (st ++ l) n c C (by rw [List.length_append]; omega) hb hC
  rw [set_old hn, set_old hn] at e
  exact ⟨v, c', e, p, b⟩
theorem Dr.mono {B : Cell → Nat → Prop} {F : Fn} {xs : Nat → List R} {P Q : D → Prop} {k k' : Nat} (h : Dr B F xs P k) (hB : ∀ c n m, n ≤ m → B c n → B c m) (hk : k ≤ k') (hP : ∀ v, P v → Q v) : Dr B F xs Q k' := by
  intro st n c C hn hb hC
  obtain ⟨v, c', e, p, b⟩ := h st n c C hn hb (by omega)
  exact ⟨v, c', e, hP v p, hB _ _ _ (by omega) b⟩
/-- a draw, behind it -/
theorem wp_draw {B : Cell → Nat → Prop} {F : Fn} {xs : Nat → List R} {P : D → Prop} {k : Nat} (h : Dr B F xs P k) {sl : List (Option R)} {st l : Store} {n : Nat} {c : Cell} {C : Nat} {Q : R → Sg → Prop} (hn : n < st.length) (hb : B c C) (hC : C + k ≤ 1000000)
    (q : ∀ v c', P v → B c' (C + k) → Q (.p v) ⟨sl, st.set n c' ++ l⟩) : Wp (applyF ⟨sl, st.set n c ++ l⟩ (F (xs n) (st.set n c ++ l))) Q := by
  obtain ⟨v, c', e, p, b⟩ := h.a l hn hb hC
  rw [e]; exact ⟨_, _, rfl, q v c' p b⟩
theorem wp_draw0 {B : Cell → Nat → Prop} {F : Fn} {xs : Nat → List R} {P : D → Prop} {k : Nat} (h : Dr B F xs P k) {sl : List (Option R)} {st : Store} {n : Nat} {c : Cell} {C : Nat} {Q : R → Sg → Prop} (hn : n < st.length) (hb : B c C) (hC : C + k ≤ 1000000)
    (q : ∀ v c', P v → B c' (C + k) → Q (.p v) ⟨sl, st.set n c'⟩) : Wp (applyF ⟨sl, st.set n c⟩ (F (xs n) (st.set n c))) Q := by
  obtain ⟨v, c', e, p, b⟩ := h st n c C hn hb hC
  rw [e]; exact ⟨_, _, rfl, q v c' p b⟩
theorem wp_drawL0 {B : Cell → Nat → Prop} {F : Fn} {xs : Nat → List R} {P : List D → Prop} {k : Nat} (h : DrL B F xs P k) {sl : List (Option R)} {st : Store} {n : Nat} {c : Cell} {C : Nat} {Q : R → Sg → Prop} (hn : n < st.length) (hb : B c C) (hC : C + k ≤ 1000000)
    (q : ∀ v c', P v → B c' (C + k) → Q (.r st.length) ⟨sl, st.set n c' ++ [.mu (.lst v)]⟩) : Wp (applyF ⟨sl, st.set n c⟩ (F (xs n) (st.set n c))) Q := by
  obtain ⟨v, c', e, p, b⟩ := h st n c C hn hb hC
  rw [e]
  refine ⟨_, _, rfl, ?_⟩
  have := q v c' p b
  rw [show (st.set n c').length = st.length by simp]
  exact this
theorem dr_of {B : Cell → Nat → Prop} {F : Fn} {xs : Nat → List R} {P : D → Prop} {k : Nat} (h : ∀ (st : Store) (n : Nat) (c : Cell) (C : Nat), n < st.length → B c C → C + k ≤ 1000000 → WpF (F (xs n) (st.set n c)) fun a st' => ∃ v c', a = .val v ∧ st' = st.set n c' ∧ P v ∧ B c' (C + k)) : Dr B F xs P k := by
  intro st n c C hn hb hC
  obtain ⟨_, _, e, v, c', rfl, rfl, p, b⟩ := h st n c C hn hb hC
  exact ⟨v, c', e, p, b⟩
theorem drL_of {B : Cell → Nat → Prop} {F : Fn} {xs : Nat → List R} {P : List D → Prop} {k : Nat} (h : ∀ (st : Store) (n : Nat) (c : Cell) (C : Nat), n < st.length → B c C → C + k ≤ 1000000 → WpF (F (xs n) (st.set n c)) fun a st' => ∃ v c', a = .new (.lst v) ∧ st' = st.set n c' ∧ P v ∧ B c' (C + k)) : DrL B F xs P k := by
  intro st n c C hn hb hC
  obtain ⟨_, _, e, v, c', rfl, rfl, p, b⟩ := h st n c C hn hb hC
  exact ⟨v, c', e, p, b⟩
def InR (lo hi : Int) : D → Prop := fun v => ∃ z, v = .int z ∧ lo ≤ z ∧ z < hi
theorem pick_d {m : Int} (h0 : 0 < m) (h1 : m < 2 ^ 200) : Draws s_z_law_pick (fun n => [.r n, .p (.int m)]) (InR 0 m) 1 := by
  intro st n c C hn hb hC
  obtain ⟨a, b, k, rfl, k0, k1⟩ := hb
  obtain ⟨v, cell, e, v0, v1, a', b', k', e', q0, q1⟩ := pick_ok (st := st.set n (.mu (.lst [.int a, .int b, .int k]))) (n := n) (C := C) (m := m) ⟨a, b, k, List.getElem?_set_self hn, k0, k1⟩ (by omega) h0 h1
  rw [List.set_set] at e e'
  rw [List.getElem?_set_self hn] at e'
  cases e'
  exact ⟨_, _, e, ⟨v, rfl, v0, v1⟩, a', b', k', rfl, q0, q1⟩
theorem ix2 {a b i : Int} (h0 : 0 ≤ i) (h1 : i < 2) : ∃ z, (∀ S, ixK [.int a, .int b] i S = .ok (.p (.int z)) S) ∧ (z = a ∨ z = b) := by
  have h : i = 0 ∨ i = 1 := by omega
  rcases h with rfl | rfl
  · exact ⟨a, fun S => ixK_0, .inl rfl⟩
  · exact ⟨b, fun S => ixK_1, .inr rfl⟩
theorem ix3 {a b c i : Int} (h0 : 0 ≤ i) (h1 : i < 3) : ∃ z, (∀ S, ixK [.int a, .int b, .int c] i S = .ok (.p (.int z)) S) ∧ (z = a ∨ z = b ∨ z = c) := by
  have h : i = 0 ∨ i = 1 ∨ i = 2 := by omega
  rcases h with rfl | rfl | rfl
  · exact ⟨a, fun S => ixK_0, .inl rfl⟩
  · exact ⟨b, fun S => ixK_1, .inr (.inl rfl)⟩
  · exact ⟨c, fun S => ixK_2, .inr (.inr rfl)⟩
theorem four_bd {d : Nat} (h : d ≤ 50) : 1 ≤ (4 : Int) ^ d ∧ (4 : Int) ^ d ≤ 2 ^ 100 := by
  refine ⟨Int.pow_pos (by decide), ?_⟩
  have : (4 : Nat) ^ d ≤ 4 ^ 50 := Nat.pow_le_pow_right (by decide) h
  exact_mod_cast this
theorem map_erase {l : List Int} {k : Nat} : (l.map D.int).eraseIdx k = (l.eraseIdx k).map D.int := by
  induction l generalizing k with
  | nil => rfl
  | cons a l ih => cases k with
    | zero => rfl
    | succ k => simp only [List.map_cons, List.eraseIdx_cons_succ, ih]
theorem perm_getE : ∀ {l : List Int} {k : Nat} (h : k < l.length), (l[k] :: l.eraseIdx k).Perm l
  | [], k, h => absurd h (by simp)
  | a :: l, 0, h => List.Perm.refl _
  | a :: l, k + 1, h => by
    have h' : k < l.length := by simpa using h
    show (l[k] :: a :: l.eraseIdx k).Perm (a :: l)
    exact (List.Perm.swap _ _ _).trans ((perm_getE h').cons a)
end Lib

set_option Elab.async false
set_option linter.all false
set_option maxRecDepth 100000
namespace Lib
open PySem PySem.Spec PyProof.Rows L2 Dd
/-- the sum of what stands at the cells -/
def csum (l t w h : Int) (cs : List (Int × Int × Nat)) : Int := (cs.map (pwi l t w h)).sum
theorem csum_app {l t w h : Int} (a b : List (Int × Int × Nat)) : csum l t w h (a ++ b) = csum l t w h a + csum l t w h b := by
  unfold csum; rw [List.map_append, List.sum_append]
def fs (g x y : Int) (s : Nat) (F : Int × Int → Int) : Nat → List Int → Int
  | _, [] => 0
  | c, n :: r => (if n = g then F (pl c x y s) else 0) + fs g x y s F (c + 1) r
theorem fs_no {g x y : Int} {s : Nat} {F : Int × Int → Int} : ∀ {l : List Int} {c : Nat}, g ∉ l → fs g x y s F c l = 0
  | [], c, h => rfl
  | n :: r, c, h => by
    have h1 : ¬ n = g := fun e => h (by rw [e]; exact List.mem_cons_self)
    have h2 : g ∉ r := fun e => h (List.mem_cons_of_mem _ e)
    simp only [fs, if_neg h1, fs_no h2, Int.zero_add]
def oF (F : Int × Int → Int) : Option (Int × Int) → Int
  | some p => F p
  | none => 0
theorem fs_furth {g x y : Int} {s : Nat} {F : Int × Int → Int} : ∀ {l : List Int} {c : Nat} {o : Option (Int × Int)}, l.Nodup → oF F (furth g x y s c l o) = if g ∈ l then fs g x y s F c l else oF F o
  | [], c, o, h => by simp [furth]
  | n :: r, c, o, h => by
    have hr := (List.nodup_cons.mp h)
    unfold furth
    rw [fs_furth hr.2]
    by_cases e : n = g
    · subst e
      rw [if_neg hr.1, if_pos List.mem_cons_self]
      simp only [fs, if_true, fs_no hr.1, Int.add_zero, oF]
    · by_cases q : g ∈ r
      · rw [if_pos q, if_pos (List.mem_cons_of_mem _ q)]
        simp only [fs, if_neg e, Int.zero_add]
      · have : ¬ g ∈ n :: r := fun z => by
          rcases List.mem_cons.mp z with z | z
          · exact e z.symm
          · exact q z
        rw [if_neg q, if_neg this, if_neg e]
def bs (g x y : Int) (s : Nat) (F : Int × Int → Int) : Nat → List Int → Int
  | _, [] => 0
  | c, n :: r => (if n < g then F (pl c x y s) else 0) + bs g x y s F (c + 1) r
theorem csum_below {g x y l t w h : Int} {s : Nat} : ∀ {lv : List Int} {c : Nat}, csum l t w h (below g x y s c lv) = bs g x y s (fun p => pwi l t w h (p.1, p.2, s + 1)) c lv
  | [], c => rfl
  | n :: r, c => by
    unfold below bs
    by_cases e : n < g
    · rw [if_pos e, if_pos e]
      show csum l t w h ([((pl c x y s).1, (pl c x y s).2, s + 1)] ++ below g x y s (c + 1) r) = _
      rw [csum_app, csum_below]
      simp [csum]
    · rw [if_neg e, if_neg e, csum_below, Int.zero_add]
theorem nodup4 {l : List Int} (h : l.Perm [0, 1, 2, 3]) : l.Nodup := h.nodup_iff.mpr (by decide)
theorem csum_cells {k l t w h x y : Int} {s : Nat} {lv : List Int} {r : List (List Int)} (hp : lv.Perm [0, 1, 2, 3]) :
    csum l t w h (cells k (lv :: r) x y s) = bs (k / 4 ^ r.length % 4) x y s (fun p => pwi l t w h (p.1, p.2, s + 1)) 0 lv + fs (k / 4 ^ r.length % 4) x y s (fun p => csum l t w h (cells k r p.1 p.2 (s + 1))) 0 lv := by
  rw [cells, csum_app, csum_below]
  congr 1
  have e := fs_furth (g := k / 4 ^ r.length % 4) (x := x) (y := y) (s := s) (F := fun p => csum l t w h (cells k r p.1 p.2 (s + 1))) (c := 0) (o := none) (nodup4 hp)
  rw [if_pos (digit_mem hp)] at e
  rw [← e]
  cases furth (k / 4 ^ r.length % 4) x y s 0 lv none <;> rfl
theorem cells_congr {k k' : Int} : ∀ {r : List (List Int)} {x y : Int} {s : Nat}, (∀ j, j < r.length → k / 4 ^ j % 4 = k' / 4 ^ j % 4) → cells k r x y s = cells k' r x y s
  | [], x, y, s, h => rfl
  | lv :: r, x, y, s, h => by
    rw [cells, cells, h r.length (by rw [List.length_cons]; omega)]
    congr 1
    cases furth (k' / 4 ^ r.length % 4) x y s 0 lv none with
    | none => rfl
    | some p => exact cells_congr fun j hj => h j (by rw [List.length_cons]; omega)
theorem four_pos (n : Nat) : (0 : Int) < 4 ^ n := Int.pow_pos (by decide)
theorem digit_mod {k : Int} {n j : Nat} (hj : j < n) : (k - k / 4 ^ n * 4 ^ n) / 4 ^ j % 4 = k / 4 ^ j % 4 := by
  obtain ⟨m, rfl⟩ : ∃ m, n = j + (m + 1) := ⟨n - j - 1, by omega⟩
  have e : k / 4 ^ (j + (m + 1)) * 4 ^ (j + (m + 1)) = (4 * (k / 4 ^ (j + (m + 1)) * 4 ^ m)) * 4 ^ j := by
    rw [show (4 : Int) ^ (j + (m + 1)) = 4 ^ j * (4 * 4 ^ m) by rw [Int.pow_add, Int.pow_succ, Int.mul_comm 4]]
    generalize k / (4 ^ j * (4 * 4 ^ m)) = q
    simp only [Int.mul_comm, Int.mul_left_comm]
  rw [e, Int.sub_mul_ediv_right _ _ (Int.ne_of_gt (four_pos j))]
  omega
/-! one bit further -/
def LO (f r : Int) (s : Nat) : Int := (f - 1 - r) / 2 ^ s + 1
theorem two_pos (s : Nat) : (0 : Int) < 2 ^ s := Int.pow_pos (by decide)
theorem div_succ (a b : Int) (s : Nat) : (a - b * 2 ^ s) / 2 ^ (s + 1) = (a / 2 ^ s - b) / 2 := by
  rw [Int.pow_succ, ← Int.ediv_ediv_of_nonneg (Int.le_of_lt (two_pos s)), Int.sub_mul_ediv_right _ _ (Int.ne_of_gt (two_pos s))]
theorem resi_succ (f m r b : Int) (s : Nat) : resi f m (r + b * 2 ^ s) (s + 1) = resi (LO f r s) (resi f m r s) b 1 := by
  unfold resi LO
  rw [show f + m - 1 - (r + b * 2 ^ s) = (f + m - 1 - r) - b * 2 ^ s by omega, show f - 1 - (r + b * 2 ^ s) = (f - 1 - r) - b * 2 ^ s by omega, div_succ, div_succ]
  generalize (f + m - 1 - r) / 2 ^ s = A
  generalize (f - 1 - r) / 2 ^ s = B
  rw [Int.pow_one] <;> omega
theorem LO_succ (f r b : Int) (s : Nat) : LO f (r + b * 2 ^ s) (s + 1) = LO (LO f r s) b 1 := by
  unfold LO
  rw [show f - 1 - (r + b * 2 ^ s) = (f - 1 - r) - b * 2 ^ s by omega, div_succ]
  generalize (f - 1 - r) / 2 ^ s = B
  rw [Int.pow_one] <;> omega
theorem resi_0 (f r : Int) (s : Nat) : resi f 0 r s = 0 := by
  unfold resi
  rw [show f + 0 - 1 - r = f - 1 - r by omega, Int.sub_self]
theorem resi_nn {f m r : Int} {s : Nat} (h : 0 ≤ m) : 0 ≤ resi f m r s := by
  unfold resi
  have := Int.ediv_le_ediv (two_pos s) (show f - 1 - r ≤ f + m - 1 - r by omega)
  omega
theorem resi_both (f m : Int) : resi f m 0 1 + resi f m 1 1 = m := by
  unfold resi; rw [Int.pow_one]; omega
theorem resi_one (f m : Int) : resi f m 0 0 = m := by
  unfold resi; rw [Int.pow_zero]; omega
theorem LO_one (f : Int) : LO f 0 0 = f := by
  unfold LO; rw [Int.pow_zero]; omega
theorem resi_add (f m n r : Int) (s : Nat) : resi f m r s + resi (f + m) n r s = resi f (m + n) r s := by
  unfold resi
  rw [show f + m + n - 1 - r = f + (m + n) - 1 - r by omega, show f + m - 1 - r = f + m - 1 - r from rfl]
  omega
theorem resi_shift (f m r q : Int) {s n : Nat} (h : s ≤ n) : resi (f + q * 2 ^ n) m r s = resi f m r s := by
  obtain ⟨d, rfl⟩ : ∃ d, n = d + s := ⟨n - s, by omega⟩
  unfold resi
  rw [show f + q * 2 ^ (d + s) + m - 1 - r = (f + m - 1 - r) + q * 2 ^ (d + s) by omega, show f + q * 2 ^ (d + s) - 1 - r = (f - 1 - r) + q * 2 ^ (d + s) by omega, Int.pow_add, ← Int.mul_assoc, Int.add_mul_ediv_right _ _ (Int.ne_of_gt (two_pos s)), Int.add_mul_ediv_right _ _ (Int.ne_of_gt (two_pos s))]
  omega
end Lib

set_option Elab.async false
set_option linter.all false
set_option maxRecDepth 100000
set_option exponentiation.threshold 2000
namespace Lib
open PySem PySem.Spec PyProof.Rows L2 Dd
def lo (f b : Int) : Int := 0 - (b - f) / 2
def ct (f m b : Int) : Int := (f + m - 1 - b) / 2 - lo f b + 1
theorem slE_ap (f : M R) (l h : M (Option Int)) (S : Sg) : slE f l h S = (f S).bnd fun x S => (l S).bnd fun lo S => (h S).bnd fun hi S => opSl x lo hi S := by unfold slE; simp only [bind_bnd]; rfl
theorem opt0_ap (S : Sg) : opt0 S = .ok none S := Eq.trans rfl rfl
theorem opt1_ci (i : Int) (S : Sg) : opt1 (ci i) S = .ok (some i) S := Eq.trans rfl rfl
theorem d2 (i : Int) : CDivW i 2 := cdivw (by decide) (by decide)
end Lib

set_option Elab.async false
set_option linter.all false
set_option maxRecDepth 100000
namespace Lib
open PySem PySem.Spec PyProof.Rows L2 Dd
theorem perm4 {l : List Int} (h : l.Perm [0, 1, 2, 3]) : ∃ a b c d, l = [a, b, c, d] ∧ 0 ≤ a ∧ a < 4 ∧ 0 ≤ b ∧ b < 4 ∧ 0 ≤ c ∧ c < 4 ∧ 0 ≤ d ∧ d < 4 := by
  have hl : l.length = 4 := h.length_eq
  have hm : ∀ x ∈ l, 0 ≤ x ∧ x < 4 := fun x hx => by
    have := h.mem_iff.mp hx
    simp only [List.mem_cons, List.not_mem_nil, or_false] at this
    omega
  match l, hl with
  | [a, b, c, d], _ =>
    have h1 := hm a (by simp)
    have h2 := hm b (by simp)
    have h3 := hm c (by simp)
    have h4 := hm d (by simp)
    exact ⟨a, b, c, d, rfl, h1.1, h1.2, h2.1, h2.2, h3.1, h3.2, h4.1, h4.2⟩
/-- the count, without ways out ahead of time -/
def rs (F : Int → Int → Int → Int → Int) (g l t w h : Int) : Nat → List Int → Int
  | _, [] => 0
  | c, n :: r => (if n < g then resi l w ((c : Int) % 2) 1 * resi t h ((c : Int) / 2) 1 else 0)
      + (if n = g then F (LO l ((c : Int) % 2) 1) (LO t ((c : Int) / 2) 1) (resi l w ((c : Int) % 2) 1) (resi t h ((c : Int) / 2) 1) else 0) + rs F g l t w h (c + 1) r
def rc : List (List Int) → Int → Int → Int → Int → Int → Int
  | [], k, l, t, w, h => if k < 1 then 0 else w * h
  | lv :: r, k, l, t, w, h => rs (rc r (k - k / 4 ^ r.length * 4 ^ r.length)) (k / 4 ^ r.length) l t w h 0 lv
theorem rs_zero {F : Int → Int → Int → Int → Int} {g l t w h : Int} (hF : ∀ l t w h, w = 0 ∨ h = 0 → F l t w h = 0) (h0 : w = 0 ∨ h = 0) : ∀ (lv : List Int) (c : Nat), rs F g l t w h c lv = 0
  | [], c => rfl
  | n :: r, c => by
    unfold rs
    rw [rs_zero hF h0 r]
    rcases h0 with h0 | h0 <;> subst h0
    · rw [resi_0, hF _ _ _ _ (.inl rfl)]; simp
    · rw [resi_0, hF _ _ _ _ (.inr rfl)]; simp
theorem rc_zero : ∀ (ls : List (List Int)) (k l t w h : Int), w = 0 ∨ h = 0 → rc ls k l t w h = 0
  | [], k, l, t, w, h, h0 => by unfold rc; rcases h0 with h0 | h0 <;> subst h0 <;> simp
  | lv :: r, k, l, t, w, h, h0 => by
    unfold rc
    exact rs_zero (fun l t w h h0 => rc_zero r _ l t w h h0) h0 lv 0
theorem rc_cells : ∀ (ls : List (List Int)) (k l t w h x y : Int) (s : Nat), (∀ l ∈ ls, l.Perm [0, 1, 2, 3]) → 0 ≤ k → k < 4 ^ ls.length → rc ls k (LO l x s) (LO t y s) (resi l w x s) (resi t h y s) = csum l t w h (cells k ls x y s)
  | [], k, l, t, w, h, x, y, s, hp, k0, k1 => by
    unfold rc
    rw [if_pos (by simpa using k1)]
    rfl
  | lv :: r, k, l, t, w, h, x, y, s, hp, k0, k1 => by
    have hlv := hp lv List.mem_cons_self
    have fp := four_pos r.length
    have g4 : k / 4 ^ r.length % 4 = k / 4 ^ r.length := by
      have g0 : 0 ≤ k / 4 ^ r.length := Int.ediv_nonneg k0 (Int.le_of_lt fp)
      have g1 : k / 4 ^ r.length < 4 := Int.ediv_lt_of_lt_mul fp (by rw [List.length_cons, Int.pow_succ] at k1; omega)
      omega
    have m0 : 0 ≤ k - k / 4 ^ r.length * 4 ^ r.length := by
      have := Int.emod_nonneg k (Int.ne_of_gt fp)
      rwa [Int.emod_def, Int.mul_comm] at this
    have m1 : k - k / 4 ^ r.length * 4 ^ r.length < 4 ^ r.length := by
      have := Int.emod_lt_of_pos k fp
      rwa [Int.emod_def, Int.mul_comm] at this
    rw [csum_cells hlv, g4]
    unfold rc
    obtain ⟨a, b, c, d, rfl, -⟩ := perm4 hlv
    have ih := fun x y => rc_cells r (k - k / 4 ^ r.length * 4 ^ r.length) l t w h x y (s + 1) (fun z hz => hp z (List.mem_cons_of_mem _ hz)) m0 m1
    have cc := fun x y s => cells_congr (k := k - k / 4 ^ r.length * 4 ^ r.length) (k' := k) (r := r) (x := x) (y := y) (s := s) fun j hj => digit_mod hj
    simp only [rs, bs, fs, pwi, pl, ← resi_succ, ← LO_succ, ih, cc]
    omega
/-! the count of parts, of moved windows, of whole periods -/
theorem cnt_wide (ls : List (List Int)) (k l t w w' h : Int) : cnt ls k l t w h + cnt ls k (l + w) t w' h = cnt ls k l t (w + w') h := by
  unfold cnt
  induction cellsOf k ls with
  | nil => rfl
  | cons c cs ih =>
    simp only [List.map_cons, List.sum_cons]
    have : pwi l t w h c + pwi (l + w) t w' h c = pwi l t (w + w') h c := by
      unfold pwi; rw [← Int.add_mul, resi_add]
    omega
theorem cnt_high (ls : List (List Int)) (k l t w h h' : Int) : cnt ls k l t w h + cnt ls k l (t + h) w h' = cnt ls k l t w (h + h') := by
  unfold cnt
  induction cellsOf k ls with
  | nil => rfl
  | cons c cs ih =>
    simp only [List.map_cons, List.sum_cons]
    have : pwi l t w h c + pwi l (t + h) w h' c = pwi l t w (h + h') c := by
      unfold pwi; rw [← Int.mul_add, resi_add]
    omega
theorem cnt_0w (ls : List (List Int)) (k l t h : Int) : cnt ls k l t 0 h = 0 := by
  unfold cnt
  induction cellsOf k ls with
  | nil => rfl
  | cons c cs ih => simp only [List.map_cons, List.sum_cons, ih, pwi, resi_0, Int.zero_mul, Int.add_zero]
theorem cnt_0h (ls : List (List Int)) (k l t w : Int) : cnt ls k l t w 0 = 0 := by
  unfold cnt
  induction cellsOf k ls with
  | nil => rfl
  | cons c cs ih => simp only [List.map_cons, List.sum_cons, ih, pwi, resi_0, Int.mul_zero, Int.add_zero]
theorem cnt_shift {ls : List (List Int)} (hl : ls.length ≤ 50) (hp : ∀ l ∈ ls, l.Perm [0, 1, 2, 3]) (k l t w h q r : Int) : cnt ls k (l + q * 2 ^ ls.length) (t + r * 2 ^ ls.length) w h = cnt ls k l t w h := by
  unfold cnt
  congr 1
  refine List.map_congr_left fun c hc => ?_
  obtain ⟨_, _, _, _, h5⟩ := cellsOf_ok hl hp c hc
  unfold pwi
  rw [resi_shift _ _ _ _ h5, resi_shift _ _ _ _ h5]
/-- how many places of a period a cell holds -/
def par (n : Nat) (c : Int × Int × Nat) : Int := 2 ^ (n - c.2.2) * 2 ^ (n - c.2.2)
end Lib

set_option Elab.async false
set_option linter.all false
set_option maxRecDepth 100000
set_option exponentiation.threshold 2000
namespace Lib
open PySem PySem.Spec PyProof.Rows L2 Dd
theorem eqv_str (a b : Str) : PyData.eqv (.str a) (.str b) = decide (a = b) := by
  first | rfl | (show (a == b) = _; exact Bool.eq_iff_iff.mpr (by simp))
theorem period_i (ls : List (List Int)) (h : ls.length ≤ 50) (st : Store) : s_Screen_period [.p (.scr (lvD ls))] st = .ok (.val (.int (2 ^ ls.length))) st := by
  have hl : (lvD ls).length = ls.length := List.length_map ..
  unfold s_Screen_period b_Screen_period
  simp! [hl, opShl_i (cshl1 (j := (ls.length : Int)) (by omega) (by omega)), Int.toNat_natCast, Int.one_mul]
theorem period_p (ls : List (List Int)) (h : ls.length ≤ 50) (S : Sg) : propK 0 s_Screen_period (.p (.scr (lvD ls))) S = .ok (.p (.int (2 ^ ls.length))) S := propK_scr (period_i ls h S.st)
theorem opSl_scp {l : List D} {lo hi : Option Int} {S : Sg} (h : l.length ≤ 1000) : opSl (.p (.scp l)) lo hi S = .ok (.r S.st.length) ⟨S.sl, S.st ++ [.mu (.lst (Dd.cutD l lo hi))]⟩ := if_pos (Nat.le_trans h (by rw [sizeLine_eq]; decide))
theorem cutD_to {α : Type} {l : List α} {n : Nat} : Dd.cutD l none (some (n : Int)) = l.take n := by
  unfold Dd.cutD HT.sIx
  simp only [List.drop_zero, Nat.sub_zero]
  rw [if_neg (show ¬ ((n : Int) < 0) by omega), Int.toNat_natCast]
  by_cases h : n ≤ l.length
  · rw [Nat.min_eq_left h]
  · rw [Nat.min_eq_right (show l.length ≤ n by omega), List.take_of_length_le (show l.length ≤ n by omega), List.take_of_length_le (show l.length ≤ l.length by omega)]
def catK : Option (List D) → Option (List D) → Sg → Res R
  | some a, some b, S => if a.length + b.length ≤ sizeLine then .ok (.r S.st.length) ⟨S.sl, S.st ++ [.mu (.lst (a ++ b))]⟩ else .bad
  | _, _, _ => .bad
theorem opAdd_rr {n m : Nat} {S : Sg} : opAdd (.r n) (.r m) S = catK (getLK S.st[n]?) (getLK S.st[m]?) S := by
  unfold opAdd
  simp only [asI, getM_r]
  cases getLK S.st[n]? <;> cases getLK S.st[m]? <;> rfl
theorem catK_ap {a b : List D} {S : Sg} (h : a.length + b.length ≤ 1000) : catK (some a) (some b) S = .ok (.r S.st.length) ⟨S.sl, S.st ++ [.mu (.lst (a ++ b))]⟩ := if_pos (Nat.le_trans h (by rw [sizeLine_eq]; decide))
end Lib

set_option Elab.async false
set_option linter.all false
set_option maxRecDepth 100000
set_option exponentiation.threshold 2000
namespace Lib
open PySem PySem.Spec PyProof.Rows L2 Dd
/-- the digit of a level at a place -/
def dg (lv : List Int) (x y : Int) : Int := lv.getD (x % 2 + 2 * (y % 2)).toNat 0
def thr : List (List Int) → Int → Int → Int
  | [], _, _ => 0
  | lv :: r, x, y => dg lv x y * 4 ^ r.length + thr r (x / 2) (y / 2)
def Lvs (ls : List (List Int)) : Prop := ∀ l ∈ ls, l.Perm [0, 1, 2, 3]
theorem Lvs.tail {l : List Int} {ls : List (List Int)} (h : Lvs (l :: ls)) : Lvs ls := fun z hz => h z (List.mem_cons_of_mem _ hz)
theorem cellix (x y : Int) : 0 ≤ x % 2 + 2 * (y % 2) ∧ x % 2 + 2 * (y % 2) < 4 := by omega
theorem dg_get {lv : List Int} (h : lv.Perm [0, 1, 2, 3]) (x y : Int) : lv[(x % 2 + 2 * (y % 2)).toNat]? = some (dg lv x y) := by
  have := cellix x y
  have hl : lv.length = 4 := h.length_eq
  unfold dg
  rw [List.getD_eq_getElem?_getD, List.getElem?_eq_getElem (by omega)]
  rfl
theorem dg_bd {lv : List Int} (h : lv.Perm [0, 1, 2, 3]) (x y : Int) : 0 ≤ dg lv x y ∧ dg lv x y < 4 := by
  have hm := h.mem_iff.mp (List.mem_of_getElem? (dg_get h x y))
  simp only [List.mem_cons, List.not_mem_nil, or_false] at hm
  omega
theorem thr_bd : ∀ {ls : List (List Int)} (x y : Int), Lvs ls → 0 ≤ thr ls x y ∧ thr ls x y < 4 ^ ls.length
  | [], x, y, h => by simp [thr]
  | lv :: r, x, y, h => by
    obtain ⟨a, b⟩ := thr_bd (x / 2) (y / 2) h.tail
    obtain ⟨c, d⟩ := dg_bd (h lv List.mem_cons_self) x y
    unfold thr
    rw [List.length_cons, Int.pow_succ]
    have p := four_pos r.length
    have e : dg lv x y = 0 ∨ dg lv x y = 1 ∨ dg lv x y = 2 ∨ dg lv x y = 3 := by omega
    rcases e with e | e | e | e <;> rw [e] <;> omega
theorem lvD_get {ls : List (List Int)} {i : Nat} {d : D} (h : (lvD ls)[i]? = some d) : ∃ lv, ls[i]? = some lv ∧ d = .tup (lv.map .int) ∧ lv ∈ ls := by
  unfold lvD at h
  rw [List.getElem?_map] at h
  cases q : ls[i]? with
  | none => rw [q] at h; cases h
  | some lv => rw [q] at h; cases h; exact ⟨lv, rfl, rfl, List.mem_of_getElem? q⟩
theorem lvD_len (ls : List (List Int)) : (lvD ls).length = ls.length := List.length_map ..
theorem fin_eq {r : FRes} {a : FR} {st : Store} (h : WpF r fun a' st' => a' = a ∧ st' = st) : r = .ok a st := by
  obtain ⟨_, _, e, rfl, rfl⟩ := h
  exact e
theorem Lvs.take {ls : List (List Int)} (h : Lvs ls) (i : Nat) : Lvs (ls.take i) := fun z hz => h z (List.mem_of_mem_take hz)
/-- one place's count is whether it has a dot -/
theorem rc_one : ∀ (ls : List (List Int)) (k l t : Int), Lvs ls → 0 ≤ k → k < 4 ^ ls.length → rc ls k l t 1 1 = if thr ls l t < k then 1 else 0
  | [], k, l, t, h, k0, k1 => by
    unfold rc thr
    have : k = 0 := by simp at k1; omega
    subst this; rfl
  | lv :: r, k, l, t, h, k0, k1 => by
    have hlv := h lv List.mem_cons_self
    have fp := four_pos r.length
    have g0 : 0 ≤ k / 4 ^ r.length := Int.ediv_nonneg k0 (Int.le_of_lt fp)
    have g1 : k / 4 ^ r.length < 4 := Int.ediv_lt_of_lt_mul fp (by rw [List.length_cons, Int.pow_succ] at k1; omega)
    have m0 : 0 ≤ k - k / 4 ^ r.length * 4 ^ r.length := by
      have := Int.emod_nonneg k (Int.ne_of_gt fp)
      rwa [Int.emod_def, Int.mul_comm] at this
    have m1 : k - k / 4 ^ r.length * 4 ^ r.length < 4 ^ r.length := by
      have := Int.emod_lt_of_pos k fp
      rwa [Int.emod_def, Int.mul_comm] at this
    obtain ⟨a, b, c, d, rfl, -⟩ := perm4 hlv
    have z : ∀ (F : Int → Int → Int → Int → Int) (l t w h : Int), (w = 0 ∨ h = 0) → F = rc r (k - k / 4 ^ r.length * 4 ^ r.length) → F l t w h = 0 := fun F l t w h h0 e => by rw [e]; exact rc_zero _ _ _ _ _ _ h0
    have ih := rc_one r (k - k / 4 ^ r.length * 4 ^ r.length) (l / 2) (t / 2) h.tail m0 m1
    obtain ⟨t0, t1⟩ := thr_bd (l / 2) (t / 2) h.tail
    have dl : l % 2 = 0 ∨ l % 2 = 1 := by omega
    have dt : t % 2 = 0 ∨ t % 2 = 1 := by omega
    have r00 : ∀ z : Int, z % 2 = 0 → resi z 1 0 1 = 1 ∧ resi z 1 1 1 = 0 ∧ LO z 0 1 = z / 2 := fun z hz => by
      unfold resi LO; rw [Int.pow_one]; omega
    have r11 : ∀ z : Int, z % 2 = 1 → resi z 1 0 1 = 0 ∧ resi z 1 1 1 = 1 ∧ LO z 1 1 = z / 2 := fun z hz => by
      unfold resi LO; rw [Int.pow_one]; omega
    -- the digit decides
    have key : ∀ n : Int, 0 ≤ n → n < 4 → ((if n < k / 4 ^ r.length then 1 else 0) + (if n = k / 4 ^ r.length then (if thr r (l / 2) (t / 2) < k - k / 4 ^ r.length * 4 ^ r.length then 1 else 0) else 0) : Int) = if n * 4 ^ r.length + thr r (l / 2) (t / 2) < k then 1 else 0 := by
      intro n n0 n4
      have hk : k = k / 4 ^ r.length * 4 ^ r.length + (k - k / 4 ^ r.length * 4 ^ r.length) := by omega
      generalize k / 4 ^ r.length = q at *
      generalize hM : k - q * 4 ^ r.length = M at *
      by_cases c1 : n < q
      · have : (n + 1) * 4 ^ r.length ≤ q * 4 ^ r.length := Int.mul_le_mul_of_nonneg_right (by omega) (by omega)
        rw [Int.add_mul, Int.one_mul] at this
        rw [if_pos c1, if_neg (by omega), if_pos (by omega)]; rfl
      · by_cases c2 : n = q
        · subst c2
          rw [if_neg c1, if_pos rfl]
          by_cases c3 : thr r (l / 2) (t / 2) < M
          · rw [if_pos c3, if_pos (by omega)]; rfl
          · rw [if_neg c3, if_neg (by omega)]; rfl
        · have : (q + 1) * 4 ^ r.length ≤ n * 4 ^ r.length := Int.mul_le_mul_of_nonneg_right (by omega) (by omega)
          rw [Int.add_mul, Int.one_mul] at this
          rw [if_neg c1, if_neg c2, if_neg (by omega)]; rfl
    obtain ⟨b1, b2⟩ := dg_bd hlv l t
    have kk := key (dg [a, b, c, d] l t) b1 b2
    unfold rc thr
    rw [← kk]
    simp only [rs]
    rcases dl with dl | dl <;> rcases dt with dt | dt
    · obtain ⟨e1, e2, e3⟩ := r00 l dl
      obtain ⟨f1, f2, f3⟩ := r00 t dt
      have hd : dg [a, b, c, d] l t = a := by unfold dg; rw [dl, dt]; rfl
      simp [e1, e2, e3, f1, f2, f3, rc_zero, ih, hd]
    · obtain ⟨e1, e2, e3⟩ := r00 l dl
      obtain ⟨f1, f2, f3⟩ := r11 t dt
      have hd : dg [a, b, c, d] l t = c := by unfold dg; rw [dl, dt]; rfl
      simp [e1, e2, e3, f1, f2, f3, rc_zero, ih, hd]
    · obtain ⟨e1, e2, e3⟩ := r11 l dl
      obtain ⟨f1, f2, f3⟩ := r00 t dt
      have hd : dg [a, b, c, d] l t = b := by unfold dg; rw [dl, dt]; rfl
      simp [e1, e2, e3, f1, f2, f3, rc_zero, ih, hd]
    · obtain ⟨e1, e2, e3⟩ := r11 l dl
      obtain ⟨f1, f2, f3⟩ := r11 t dt
      have hd : dg [a, b, c, d] l t = d := by unfold dg; rw [dl, dt]; rfl
      simp [e1, e2, e3, f1, f2, f3, rc_zero, ih, hd]
theorem cnt_rc {ls : List (List Int)} (hp : Lvs ls) {k l t w h : Int} (k0 : 0 ≤ k) (k1 : k < 4 ^ ls.length) : rc ls k l t w h = cnt ls k l t w h := by
  have := rc_cells ls k l t w h 0 0 0 hp k0 k1
  rw [LO_one, LO_one, resi_one, resi_one] at this
  unfold cnt cellsOf
  rw [if_neg (by omega)]
  exact this
theorem cnt_one {ls : List (List Int)} (hp : Lvs ls) {k : Int} (k0 : 0 ≤ k) (k1 : k ≤ 4 ^ ls.length) (l t : Int) : cnt ls k l t 1 1 = if thr ls l t < k then 1 else 0 := by
  by_cases e : k = 4 ^ ls.length
  · have := (thr_bd l t hp).2
    rw [if_pos (by omega)]
    unfold cnt cellsOf
    rw [if_pos e]
    simp [pwi, resi_one]
  · rw [← cnt_rc hp k0 (by omega)]
    exact rc_one ls k l t hp k0 (by omega)
end Lib

set_option Elab.async false
set_option linter.all false
set_option maxRecDepth 100000
set_option exponentiation.threshold 2000
namespace Lib
open PySem PySem.Spec PyProof.Rows L2 Dd
theorem intsFrom_at {a : Int} {n j : Nat} {d : D} (h : (Dd.intsFrom a n)[j]? = some d) : d = .int (a + (j : Int)) ∧ j < n := intsFrom_get h
theorem BagC.mono {c : Cell} {C C' : Nat} (h : BagC c C) (k : C ≤ C') : BagC c C' := by
  obtain ⟨a, b, i, e, h0, h1⟩ := h
  exact ⟨a, b, i, e, h0, by omega⟩
/-- a draw, the bag the last but l -/
theorem wp_drawE {B : Cell → Nat → Prop} {F : Fn} {xs : Nat → List R} {P : D → Prop} {k : Nat} (h : Dr B F xs P k) {sl : List (Option R)} {X l : Store} {c : Cell} {C : Nat} {Q : R → Sg → Prop} (hb : B c C) (hC : C + k ≤ 1000000)
    (q : ∀ v c', P v → B c' (C + k) → Q (.p v) ⟨sl, X ++ (c' :: l)⟩) : Wp (applyF ⟨sl, X ++ (c :: l)⟩ (F (xs X.length) (X ++ (c :: l)))) Q := by
  have e : ∀ c', X ++ (c' :: l) = (X ++ [c]).set X.length c' ++ l := fun c' => by rw [set_app0]; simp
  rw [e c]
  refine wp_draw h (by simp) hb hC fun v c' p b => ?_
  rw [← e c']
  exact q v c' p b
theorem bag0 (i : Int) : BagC (.mu (.lst [.int (max 0 (i - 1000000000000000000)), .int i, .int 0])) 0 := ⟨_, _, _, rfl, by decide, by decide⟩
/-- the well-known screen of two levels -/
def four : List (List Int) := [[0, 2, 3, 1], [0, 2, 3, 1]]
end Lib

set_option Elab.async false
set_option linter.all false
set_option maxRecDepth 100000
set_option exponentiation.threshold 2000
namespace Lib
open PySem PySem.Spec PyProof.Rows L2 Dd
/-- where a digit stands in a level -/
def ci4 (lv : List Int) (d : Int) : Nat := (Dd.idxOf lv d).getD 0
theorem idxOf_mem {lv : List Int} {d : Int} (h : d ∈ lv) : ∃ j, Dd.idxOf lv d = some j := by
  cases q : Dd.idxOf lv d with
  | some j => exact ⟨j, rfl⟩
  | none =>
    unfold Dd.idxOf at q
    rw [List.findIdx?_eq_none_iff] at q
    have := q d h
    simp at this
theorem ci4_get {lv : List Int} (hp : lv.Perm [0, 1, 2, 3]) {d : Int} (h0 : 0 ≤ d) (h1 : d < 4) : Dd.idxOf lv d = some (ci4 lv d) ∧ lv[ci4 lv d]? = some d ∧ ci4 lv d < 4 := by
  have hm : d ∈ lv := by
    rw [hp.mem_iff]
    simp only [List.mem_cons, List.not_mem_nil, or_false]
    omega
  obtain ⟨j, hj⟩ := idxOf_mem hm
  have e : ci4 lv d = j := by unfold ci4; rw [hj]; rfl
  rw [e]
  obtain ⟨a, b⟩ := Dd.idxOf_spec hj
  have := (List.getElem?_eq_some_iff.mp a).1
  have hl : lv.length = 4 := hp.length_eq
  exact ⟨hj, a, by omega⟩
theorem opTIdx_i {lv : List Int} (hp : lv.Perm [0, 1, 2, 3]) {d : Int} (h0 : 0 ≤ d) (h1 : d < 4) {S : Sg} : opTIdx (.p (.tup (lv.map .int))) [.p (.int d)] S = .ok (.p (.int (ci4 lv d : Nat))) S := by
  show opIdx (.p (.tup (lv.map .int))) [.p (.int d)] S = _
  unfold opIdx
  simp only [asI1, asI, getL_tup, intsOf_map, (ci4_get hp h0 h1).1]
theorem isTup_t {l : List D} {S : Sg} : isTup (.p (.tup l)) S = true := rfl
theorem fs_at {g x y : Int} {s : Nat} {F : Int × Int → Int} : ∀ {l : List Int} {c j : Nat}, l.Nodup → l[j]? = some g → fs g x y s F c l = F (pl (c + j) x y s)
  | [], c, j, h, e => by simp at e
  | n :: r, c, j, h, e => by
    have hr := List.nodup_cons.mp h
    cases j with
    | zero =>
      simp at e; subst e
      simp only [fs, if_true, fs_no hr.1, Int.add_zero]
      rfl
    | succ j =>
      have e' : r[j]? = some g := by simpa using e
      have ne : ¬ n = g := fun q => hr.1 (by rw [q]; exact List.mem_of_getElem? e')
      simp only [fs, if_neg ne, Int.zero_add]
      rw [fs_at hr.2 e', show c + 1 + j = c + (j + 1) by omega]
theorem fs_ci {g x y : Int} {s : Nat} {F : Int × Int → Int} {l : List Int} (hp : l.Perm [0, 1, 2, 3]) (h0 : 0 ≤ g) (h1 : g < 4) : fs g x y s F 0 l = F (pl (ci4 l g) x y s) := by
  have := fs_at (x := x) (y := y) (s := s) (F := F) (c := 0) (nodup4 hp) (ci4_get hp h0 h1).2.1
  rwa [Nat.zero_add] at this
theorem bs_succ {g x y : Int} {s : Nat} {F : Int × Int → Int} : ∀ {l : List Int} {c : Nat}, bs (g + 1) x y s F c l = bs g x y s F c l + fs g x y s F c l
  | [], c => rfl
  | n :: r, c => by
    simp only [bs, fs]
    rw [bs_succ]
    by_cases h1 : n < g
    · rw [if_pos h1, if_pos (by omega), if_neg (by omega)]; omega
    · by_cases h2 : n = g
      · rw [if_neg h1, if_pos (by omega), if_pos h2]; omega
      · rw [if_neg h1, if_neg (by omega), if_neg h2]; omega
theorem bs_zero {x y : Int} {s : Nat} {F : Int × Int → Int} {l : List Int} (hp : l.Perm [0, 1, 2, 3]) : bs 0 x y s F 0 l = 0 := by
  obtain ⟨a, b, c, d, rfl, h1, -, h2, -, h3, -, h4, -⟩ := perm4 hp
  simp only [bs, if_neg (show ¬ a < 0 by omega), if_neg (show ¬ b < 0 by omega), if_neg (show ¬ c < 0 by omega), if_neg (show ¬ d < 0 by omega), Int.add_zero]
section
variable {l t w h : Int}
/-- the places of a class with dots by the levels that are left -/
def cx (l t w h : Int) (ls : List (List Int)) (k x y : Int) (s : Nat) : Int := if k = 4 ^ ls.length then pwi l t w h (x, y, s) else csum l t w h (cells k ls x y s)
theorem cx_cnt (ls : List (List Int)) (k : Int) : cnt ls k l t w h = cx l t w h ls k 0 0 0 := by
  unfold cnt cx cellsOf csum
  by_cases e : k = 4 ^ ls.length
  · rw [if_pos e, if_pos e]; simp
  · rw [if_neg e, if_neg e]
def Fp (l t w h : Int) (s : Nat) : Int × Int → Int := fun p => pwi l t w h (p.1, p.2, s + 1)
theorem bs_all {x y : Int} {s : Nat} {lv : List Int} (hp : lv.Perm [0, 1, 2, 3]) : bs 4 x y s (Fp l t w h s) 0 lv = pwi l t w h (x, y, s) := by
  obtain ⟨a, b, c, d, rfl, -, h1, -, h2, -, h3, -, h4⟩ := perm4 hp
  simp only [bs, if_pos h1, if_pos h2, if_pos h3, if_pos h4, Fp, pwi, pl, resi_succ]
  have e1 := resi_both (LO l x s) (resi l w x s)
  have e2 := resi_both (LO t y s) (resi t h y s)
  show resi (LO l x s) (resi l w x s) 0 1 * resi (LO t y s) (resi t h y s) 0 1 + (resi (LO l x s) (resi l w x s) 1 1 * resi (LO t y s) (resi t h y s) 0 1 + (resi (LO l x s) (resi l w x s) 0 1 * resi (LO t y s) (resi t h y s) 1 1 + (resi (LO l x s) (resi l w x s) 1 1 * resi (LO t y s) (resi t h y s) 1 1 + 0))) = _
  have key : ∀ A B A' B' W H : Int, A + B = W → A' + B' = H → A * A' + (B * A' + (A * B' + (B * B' + 0))) = W * H := by
    intro A B A' B' W H e1 e2
    rw [← e1, ← e2, Int.add_mul, Int.mul_add, Int.mul_add]
    omega
  exact key _ _ _ _ _ _ e1 e2
theorem csum_zero : ∀ (ls : List (List Int)) (x y : Int) (s : Nat), Lvs ls → csum l t w h (cells 0 ls x y s) = 0
  | [], x, y, s, hp => rfl
  | lv :: r, x, y, s, hp => by
    rw [csum_cells (hp lv List.mem_cons_self)]
    simp only [Int.zero_ediv, Int.zero_emod]
    rw [bs_zero (hp lv List.mem_cons_self), fs_ci (hp lv List.mem_cons_self) (by decide) (by decide), csum_zero r _ _ _ hp.tail]
    rfl
theorem digit_of {g m : Int} {n : Nat} (m0 : 0 ≤ m) (m1 : m < 4 ^ n) : (g * 4 ^ n + m) / 4 ^ n = g := by
  have fp := four_pos n
  rw [Int.add_comm, Int.add_mul_ediv_right _ _ (Int.ne_of_gt fp), Int.ediv_eq_zero_of_lt m0 m1, Int.zero_add]
theorem cx_step {lv : List Int} {r : List (List Int)} {g m x y : Int} {s : Nat} (hp : Lvs (lv :: r)) (g0 : 0 ≤ g) (g1 : g < 4) (m0 : 0 ≤ m) (m1 : m ≤ 4 ^ r.length) :
    cx l t w h (lv :: r) (g * 4 ^ r.length + m) x y s = bs g x y s (Fp l t w h s) 0 lv + cx l t w h r m (pl (ci4 lv g) x y s).1 (pl (ci4 lv g) x y s).2 (s + 1) := by
  have hlv := hp lv List.mem_cons_self
  have fp := four_pos r.length
  by_cases e : m = 4 ^ r.length
  · have ek : g * 4 ^ r.length + m = (g + 1) * 4 ^ r.length := by rw [e, Int.add_mul, Int.one_mul]
    rw [ek]
    have er : cx l t w h r m (pl (ci4 lv g) x y s).1 (pl (ci4 lv g) x y s).2 (s + 1) = fs g x y s (Fp l t w h s) 0 lv := by
      unfold cx; rw [if_pos e, fs_ci hlv g0 g1]; rfl
    rw [er, ← bs_succ]
    by_cases g3 : g = 3
    · subst g3
      unfold cx
      rw [if_pos (by rw [List.length_cons, Int.pow_succ]; omega)]
      exact (bs_all hlv).symm
    · have lt : (g + 1) * 4 ^ r.length < 4 ^ (lv :: r).length := by
        rw [List.length_cons, Int.pow_succ, Int.mul_comm]
        exact Int.mul_lt_mul_of_pos_left (by omega) fp
      unfold cx
      rw [if_neg (by omega), csum_cells hlv]
      have d1 := digit_of (g := g + 1) (m := 0) (n := r.length) (by decide) fp
      rw [Int.add_zero] at d1
      rw [d1, Int.emod_eq_of_lt (by omega) (by omega), fs_ci hlv (by omega) (by omega)]
      have cz : cells ((g + 1) * 4 ^ r.length) r (pl (ci4 lv (g + 1)) x y s).1 (pl (ci4 lv (g + 1)) x y s).2 (s + 1) = cells 0 r (pl (ci4 lv (g + 1)) x y s).1 (pl (ci4 lv (g + 1)) x y s).2 (s + 1) := by
        have := cells_congr (k := (g + 1) * 4 ^ r.length - (g + 1) * 4 ^ r.length / 4 ^ r.length * 4 ^ r.length) (k' := (g + 1) * 4 ^ r.length) (r := r) (x := (pl (ci4 lv (g + 1)) x y s).1) (y := (pl (ci4 lv (g + 1)) x y s).2) (s := s + 1) fun j hj => digit_mod hj
        rw [d1, Int.sub_self] at this
        exact this.symm
      rw [cz, csum_zero r _ _ _ hp.tail]
      show _ + 0 = _
      rw [Int.add_zero]; rfl
  · have m2 : m < 4 ^ r.length := by omega
    have lt : g * 4 ^ r.length + m < 4 ^ (lv :: r).length := by
      rw [List.length_cons, Int.pow_succ]
      have : g * 4 ^ r.length ≤ 3 * 4 ^ r.length := Int.mul_le_mul_of_nonneg_right (by omega) (by omega)
      omega
    unfold cx
    rw [if_neg (by omega), if_neg e, csum_cells hlv, digit_of m0 m2, Int.emod_eq_of_lt g0 g1, fs_ci hlv g0 g1]
    have cz := cells_congr (k := (g * 4 ^ r.length + m) - (g * 4 ^ r.length + m) / 4 ^ r.length * 4 ^ r.length) (k' := g * 4 ^ r.length + m) (r := r) (x := (pl (ci4 lv g) x y s).1) (y := (pl (ci4 lv g) x y s).2) (s := s + 1) fun j hj => digit_mod hj
    rw [digit_of m0 m2, show g * 4 ^ r.length + m - g * 4 ^ r.length = m by omega] at cz
    rw [cz]; rfl
/-- the place with a threshold -/
def plc : List (List Int) → Int → Int → Int → Nat → Int × Int
  | [], _, x, y, _ => (x, y)
  | lv :: r, k, x, y, s => plc r (k - k / 4 ^ r.length * 4 ^ r.length) (pl (ci4 lv (k / 4 ^ r.length)) x y s).1 (pl (ci4 lv (k / 4 ^ r.length)) x y s).2 (s + 1)
theorem k_parts {k : Int} {n : Nat} (k0 : 0 ≤ k) (k1 : k < 4 ^ (n + 1)) : 0 ≤ k / 4 ^ n ∧ k / 4 ^ n < 4 ∧ 0 ≤ k - k / 4 ^ n * 4 ^ n ∧ k - k / 4 ^ n * 4 ^ n < 4 ^ n := by
  have fp := four_pos n
  refine ⟨Int.ediv_nonneg k0 (Int.le_of_lt fp), Int.ediv_lt_of_lt_mul fp (by rw [Int.pow_succ] at k1; omega), ?_, ?_⟩
  · have := Int.emod_nonneg k (Int.ne_of_gt fp)
    rwa [Int.emod_def, Int.mul_comm] at this
  · have := Int.emod_lt_of_pos k fp
    rwa [Int.emod_def, Int.mul_comm] at this
/-- one shade more adds the places of the threshold -/
theorem cx_next : ∀ (ls : List (List Int)) (k x y : Int) (s : Nat), Lvs ls → 0 ≤ k → k < 4 ^ ls.length → cx l t w h ls (k + 1) x y s = cx l t w h ls k x y s + pwi l t w h ((plc ls k x y s).1, (plc ls k x y s).2, s + ls.length)
  | [], k, x, y, s, hp, k0, k1 => by
    have : k = 0 := by simp at k1; omega
    subst this
    simp [cx, plc, cells, csum]
  | lv :: r, k, x, y, s, hp, k0, k1 => by
    obtain ⟨g0, g1, m0, m1⟩ := k_parts (n := r.length) k0 (by rwa [List.length_cons] at k1)
    have ek : k = k / 4 ^ r.length * 4 ^ r.length + (k - k / 4 ^ r.length * 4 ^ r.length) := by omega
    have ih := cx_next r (k - k / 4 ^ r.length * 4 ^ r.length) (pl (ci4 lv (k / 4 ^ r.length)) x y s).1 (pl (ci4 lv (k / 4 ^ r.length)) x y s).2 (s + 1) hp.tail m0 m1
    have a := cx_step (l := l) (t := t) (w := w) (h := h) (x := x) (y := y) (s := s) hp g0 g1 m0 (Int.le_of_lt m1)
    have b := cx_step (l := l) (t := t) (w := w) (h := h) (x := x) (y := y) (s := s) (m := k - k / 4 ^ r.length * 4 ^ r.length + 1) hp g0 g1 (by omega) (by omega)
    rw [← ek] at a
    rw [show k / 4 ^ r.length * 4 ^ r.length + (k - k / 4 ^ r.length * 4 ^ r.length + 1) = k + 1 by omega] at b
    rw [a, b, ih, List.length_cons, show s + (r.length + 1) = s + 1 + r.length by omega]
    simp only [plc]
    omega
end
end Lib

set_option Elab.async false
set_option linter.all false
set_option maxRecDepth 100000
set_option exponentiation.threshold 2000
namespace Lib
open PySem PySem.Spec PyProof.Rows L2 Dd
theorem pwi_nn {l t w h : Int} (hw : 0 ≤ w) (hh : 0 ≤ h) (c : Int × Int × Nat) : 0 ≤ pwi l t w h c := Int.mul_nonneg (resi_nn hw) (resi_nn hh)
theorem cnt_next {ls : List (List Int)} (hp : Lvs ls) {k l t w h : Int} (k0 : 0 ≤ k) (k1 : k < 4 ^ ls.length) : cnt ls (k + 1) l t w h = cnt ls k l t w h + pwi l t w h ((plc ls k 0 0 0).1, (plc ls k 0 0 0).2, ls.length) := by
  rw [cx_cnt, cx_cnt, cx_next ls k 0 0 0 hp k0 k1, Nat.zero_add]
theorem cnt_mono {ls : List (List Int)} (hp : Lvs ls) {l t w h : Int} (hw : 0 ≤ w) (hh : 0 ≤ h) {a b : Int} (h0 : 0 ≤ a) (hab : a ≤ b) (hb : b ≤ 4 ^ ls.length) : cnt ls a l t w h ≤ cnt ls b l t w h := by
  obtain ⟨n, rfl⟩ : ∃ n : Nat, b = a + n := ⟨(b - a).toNat, by omega⟩
  induction n with
  | zero => simp
  | succ n ih =>
    have := ih (by omega) (by omega)
    have e := cnt_next hp (k := a + n) (l := l) (t := t) (w := w) (h := h) (by omega) (by omega)
    have p := pwi_nn (l := l) (t := t) hw hh ((plc ls (a + n) 0 0 0).1, (plc ls (a + n) 0 0 0).2, ls.length)
    rw [show a + ((n + 1 : Nat) : Int) = a + n + 1 by omega, e]
    omega
theorem cnt_none {ls : List (List Int)} (hp : Lvs ls) (l t w h : Int) : cnt ls 0 l t w h = 0 := by
  have e : (0 : Int) ≠ 4 ^ ls.length := Int.ne_of_lt (four_pos _)
  rw [cx_cnt]
  unfold cx
  rw [if_neg e]
  exact csum_zero ls 0 0 0 hp
/-- the threshold with a number -/
def IsNth (ls : List (List Int)) (l t w h n T : Int) : Prop := 0 ≤ T ∧ T < 4 ^ ls.length ∧ cnt ls T l t w h ≤ n ∧ n < cnt ls (T + 1) l t w h
theorem IsNth.uniq {ls : List (List Int)} (hp : Lvs ls) {l t w h n T U : Int} (hw : 0 ≤ w) (hh : 0 ≤ h) (a : IsNth ls l t w h n T) (b : IsNth ls l t w h n U) : T = U := by
  obtain ⟨a0, a1, a2, a3⟩ := a
  obtain ⟨b0, b1, b2, b3⟩ := b
  rcases Int.lt_trichotomy T U with h1 | h1 | h1
  · have := cnt_mono hp (l := l) (t := t) hw hh (a := T + 1) (b := U) (by omega) (by omega) (by omega); omega
  · exact h1
  · have := cnt_mono hp (l := l) (t := t) hw hh (a := U + 1) (b := T) (by omega) (by omega) (by omega); omega
open Classical in
noncomputable def nthT (ls : List (List Int)) (l t w h n : Int) : Int := if q : ∃ T, IsNth ls l t w h n T then q.choose else 0
theorem nthT_of {ls : List (List Int)} (hp : Lvs ls) {l t w h n T : Int} (hw : 0 ≤ w) (hh : 0 ≤ h) (a : IsNth ls l t w h n T) : nthT ls l t w h n = T := by
  have q : ∃ T, IsNth ls l t w h n T := ⟨T, a⟩
  unfold nthT
  rw [dif_pos q]
  exact IsNth.uniq hp hw hh q.choose_spec a
theorem places_with_s {l t w h : Int} (k : WinOk l t w h) {x y : Int} {s : Nat} (hc : CellOk' 50 (x, y, s + 1)) (st : Store) :
    s_places_with [.p (winD l t w h), .p (.int x), .p (.int y), .p (.int ((s : Int) + 1))] st = .ok (.val (.int (pwi l t w h (x, y, s + 1)))) st := by
  have := places_with_i k hc st
  simp only [Int.natCast_add, Int.natCast_one] at this
  exact this
theorem shl_bit {c : Nat} (hc : c < 4) {s : Nat} (hs : s ≤ 100) : CShl ((c : Int) % 2) (s : Int) ∧ CShl ((c : Int) / 2) (s : Int) := ⟨cshl_sm (Bt.of (n := 1000) (by omega)) (by omega) (by omega), cshl_sm (Bt.of (n := 1000) (by omega)) (by omega) (by omega)⟩
theorem shr_one' (c : Nat) (S : Sg) : opShr (.p (.int (c : Int))) (.p (.int 1)) S = .ok (.p (.int ((c : Int) / 2))) S := by
  rw [opShr_i (by decide)]; rfl
theorem pl_ok {c : Nat} {x y : Int} {s : Nat} (hc : c < 4) (hx : 0 ≤ x) (hx' : x < 2 ^ s) (hy : 0 ≤ y) (hy' : y < 2 ^ s) (hs : s + 1 ≤ 50) : CellOk' 50 ((pl c x y s).1, (pl c x y s).2, s + 1) := by
  obtain ⟨a1, a2, a3, a4⟩ := pl_bd hc hx hx' hy hy'
  have := pow_bd hs
  exact ⟨a1, Int.lt_of_lt_of_le a2 this, a3, Int.lt_of_lt_of_le a4 this, hs⟩
theorem nth_of_window_i {ls : List (List Int)} (h50 : ls.length ≤ 50) (hp : Lvs ls) {l t w h N : Int} (hw : WinOk l t w h) (n0 : 0 ≤ N) (n1 : N < w * h) :
    IsNth ls l t w h N (nthT ls l t w h N) ∧ ∀ st, s_nth_of_window [.p (.scr (lvD ls)), .p (winD l t w h), .p (.int N)] st = .ok (.val (.int (nthT ls l t w h N))) st := by
  have hw' := hw
  obtain ⟨w1, w2, w3, w4, w5, w6, w7, w8⟩ := hw'
  suffices H : ∀ st, WpF (s_nth_of_window [.p (.scr (lvD ls)), .p (winD l t w h), .p (.int N)] st) fun a st' => st' = st ∧ ∃ T, a = .val (.int T) ∧ IsNth ls l t w h N T by
    obtain ⟨_, _, _, _, T, _, hT⟩ := H []
    refine ⟨(nthT_of hp (by omega) (by omega) hT).symm ▸ hT, fun st => ?_⟩
    obtain ⟨_, _, e, rfl, U, rfl, hU⟩ := H st
    rw [nthT_of hp (by omega) (by omega) hU]
    exact e
  intro st
  unfold s_nth_of_window b_nth_of_window
  simp! [bnd_bnd]
  refine wpf_bnd (wp_loop (I := fun j S => ∃ F n x y s7 s8 s9 s10 s11 s12, S = ⟨[some (.p (.scr (lvD ls))), some (.p (winD l t w h)), some (.p (.int N)), some (.p (.int F)), some (.p (.int n)), some (.p (.int x)), some (.p (.int y)), s7, s8, s9, s10, s11, s12], st⟩ ∧
      0 ≤ F ∧ F < 4 ^ j ∧ 0 ≤ x ∧ x < 2 ^ j ∧ 0 ≤ y ∧ y < 2 ^ j ∧ 0 ≤ n ∧ n < pwi l t w h (x, y, j) ∧ j ≤ ls.length ∧ ∀ m, 0 ≤ m → m ≤ 4 ^ (ls.drop j).length → cnt ls (F * 4 ^ (ls.drop j).length + m) l t w h = N - n + cx l t w h (ls.drop j) m x y j) ?_ ?_ ?_ ?_)
  · refine ⟨0, N, 0, 0, none, none, none, none, none, none, rfl, by decide, by decide, by decide, by decide, by decide, by decide, n0, ?_, Nat.zero_le _, fun m m0 m1 => ?_⟩
    · simp only [pwi, resi_one]; exact n1
    · rw [List.drop_zero, Int.zero_mul, Int.zero_add, cx_cnt]; omega
  · intros; trivial
  · rintro j d S hj ⟨F, n, x, y, s7, s8, s9, s10, s11, s12, rfl, F0, F1, x0, x1, y0, y1, nn0, nn1, hjl, hm⟩
    obtain ⟨d', rfl, hd⟩ := numbered_at hj
    obtain ⟨lv, hlv, rfl, hmem⟩ := lvD_get hd
    have hpl := hp lv hmem
    have hj' := (List.getElem?_eq_some_iff.mp hlv).1
    have edrop : ls.drop j = lv :: ls.drop (j + 1) := by
      rw [List.drop_eq_getElem_cons hj']
      congr 1
      exact (List.getElem?_eq_some_iff.mp hlv).2
    have hdr : (ls.drop j).length = (ls.drop (j + 1)).length + 1 := by rw [edrop]; rfl
    have e0 : ((0 + j : Nat) : Int) = (j : Int) := by omega
    rw [bind_bnd]
    simp! [bnd_bnd, e0]
    refine wp_bnd (wp_loop (I := fun i S => ∃ s9 s10 s11 s12, S = ⟨[some (.p (.scr (lvD ls))), some (.p (winD l t w h)), some (.p (.int N)), some (.p (.int F)), some (.p (.int (n - bs (i : Int) x y j (Fp l t w h j) 0 lv))), some (.p (.int x)), some (.p (.int y)), some (.p (.int j)), some (.p (.tup (lv.map .int))), s9, s10, s11, s12], st⟩ ∧ 0 ≤ n - bs (i : Int) x y j (Fp l t w h j) 0 lv ∧ i ≤ 4) ?_ ?_ ?_ ?_)
    · refine ⟨s9, s10, s11, s12, ?_, ?_, by decide⟩
      · show _ = (⟨[_, _, _, _, some (.p (.int (n - bs 0 x y j (Fp l t w h j) 0 lv))), _, _, _, _, _, _, _, _], st⟩ : Sg)
        rw [bs_zero hpl, Int.sub_zero]
      · show 0 ≤ n - bs 0 x y j (Fp l t w h j) 0 lv
        rw [bs_zero hpl]; omega
    · intros; trivial
    · rintro i q S hi ⟨s9, s10, s11, s12, rfl, b0, hi4⟩
      obtain ⟨rfl, hi'⟩ := intsFrom_at (show (Dd.intsFrom 0 4)[i]? = some q from hi)
      obtain ⟨ix1, ix2, ix3⟩ := ci4_get hpl (d := 0 + (i : Int)) (by omega) (by omega)
      obtain ⟨sh1, sh2⟩ := shl_bit ix3 (s := j) (by omega)
      have pk := fun st => places_with_s hw (pl_ok ix3 x0 x1 y0 y1 (by omega)) st
      have fe : fs (i : Int) x y j (Fp l t w h j) 0 lv = pwi l t w h ((pl (ci4 lv (0 + (i : Int))) x y j).1, (pl (ci4 lv (0 + (i : Int))) x y j).2, j + 1) := by
        rw [fs_ci hpl (by omega) (by omega), Int.zero_add]; rfl
      rw [bind_bnd]
      have pe : ∀ z : Nat, pl z x y j = (x + (z : Int) % 2 * 2 ^ j, y + (z : Int) / 2 * 2 ^ j) := fun z => rfl
      rw [pe] at pk fe
      simp only at pk fe
      simp! [bnd_bnd, isTup_t, opTIdx_i hpl (show 0 ≤ 0 + (i : Int) by omega) (show 0 + (i : Int) < 4 by omega), band1, opShl_i sh1, opShl_i sh2, shr_one', Int.toNat_natCast, pk]
      refine wp_if (fun hlt => ?_) fun hge => ?_
      · refine wp_ok ?_
        have mF : CMulW 4 F := by
          have q := four_bd (d := j) (by omega)
          have e : (2 : Int) ^ 100 < ((2 ^ 300 : Nat) : Int) := by decide
          exact cmulw (n := 3) (m := 300) (Bt.of (by decide)) (Bt.of ⟨by omega, by omega⟩)
        simp! [bnd_bnd, opMul_i mF]
        have hx : pl (ci4 lv (0 + (i : Int))) x y j = (x + (ci4 lv (0 + (i : Int)) : Int) % 2 * 2 ^ j, y + (ci4 lv (0 + (i : Int)) : Int) / 2 * 2 ^ j) := rfl
        obtain ⟨a1, a2, a3, a4⟩ := pl_bd (c := ci4 lv (0 + (i : Int))) (s := j) ix3 x0 x1 y0 y1
        rw [hx] at a1 a2 a3 a4
        refine wp_ok ⟨_, _, _, _, _, _, _, _, _, _, rfl, by omega, by rw [Int.pow_succ]; omega, a1, a2, a3, a4, b0, hlt, by omega, fun m m0 m1 => ?_⟩
        have fp := four_pos (ls.drop (j + 1)).length
        have mm : 0 ≤ (i : Int) * 4 ^ (ls.drop (j + 1)).length := Int.mul_nonneg (by omega) (by omega)
        have mm2 : (i : Int) * 4 ^ (ls.drop (j + 1)).length ≤ 3 * 4 ^ (ls.drop (j + 1)).length := Int.mul_le_mul_of_nonneg_right (by omega) (by omega)
        have h1 := hm ((i : Int) * 4 ^ (ls.drop (j + 1)).length + m) (by omega) (by rw [hdr, Int.pow_succ]; omega)
        have hst := cx_step (l := l) (t := t) (w := w) (h := h) (lv := lv) (r := ls.drop (j + 1)) (g := (i : Int)) (m := m) (x := x) (y := y) (s := j) (by rw [← edrop]; exact fun z hz => hp z (List.mem_of_mem_drop hz)) (by omega) (by omega) m0 m1
        rw [hdr, Int.pow_succ, edrop, hst] at h1
        rw [show (4 * F + (0 + (i : Int))) * 4 ^ (ls.drop (j + 1)).length + m = F * (4 ^ (ls.drop (j + 1)).length * 4) + ((i : Int) * 4 ^ (ls.drop (j + 1)).length + m) by
          rw [Int.add_mul, Int.zero_add, Int.mul_comm 4 F, Int.mul_assoc F, Int.mul_comm 4]; omega]
        rw [h1]
        have hx' := hx
        rw [Int.zero_add] at hx' ⊢
        rw [hx']
        have kk : ∀ A B : Int, N - n + (A + B) = N - (n - A) + B := fun A B => by omega
        exact kk _ _
      · have eb : n - bs (i : Int) x y j (Fp l t w h j) 0 lv - pwi l t w h (x + (ci4 lv (0 + (i : Int)) : Int) % 2 * 2 ^ j, y + (ci4 lv (0 + (i : Int)) : Int) / 2 * 2 ^ j, j + 1) = n - bs ((i + 1 : Nat) : Int) x y j (Fp l t w h j) 0 lv := by
          rw [show ((i + 1 : Nat) : Int) = (i : Int) + 1 by omega, bs_succ, fe, Int.sub_sub]
        rw [eb]
        exact wp_ok ⟨_, _, _, _, rfl, by rw [← eb]; omega, hi'⟩
    · rintro S ⟨s9, s10, s11, s12, rfl, b0, hi4⟩
      exfalso
      have e4 : (([D.int 0, D.int 1, D.int 2, D.int 3].length : Nat) : Int) = 4 := rfl
      rw [e4, bs_all hpl] at b0
      omega
  · rintro S ⟨F, n, x, y, s7, s8, s9, s10, s11, s12, rfl, F0, F1, x0, x1, y0, y1, nn0, nn1, hjl, hm⟩
    rw [numbered_len, lvD_len] at *
    have ed : ls.drop ls.length = [] := List.drop_length
    rw [ed] at hm
    simp! []
    refine wpf_ok ⟨rfl, F, rfl, F0, F1, ?_, ?_⟩
    · have := hm 0 (by decide) (by decide)
      simp [cx, cells, csum] at this
      omega
    · have := hm 1 (by decide) (by decide)
      simp [cx] at this
      omega
end Lib

set_option Elab.async false
set_option linter.all false
set_option maxRecDepth 100000
set_option exponentiation.threshold 2000
namespace Lib
open PySem PySem.Spec PyProof.Rows L2 Dd
theorem shades_i (ls : List (List Int)) (h : ls.length ≤ 50) (st : Store) : s_Screen_shades [.p (.scr (lvD ls))] st = .ok (.val (.int (4 ^ ls.length))) st := by
  unfold s_Screen_shades b_Screen_shades
  simp! [lvD_len, opMul_i (two_len h), opShl_i (cshl1 (j := 2 * (ls.length : Int)) (by omega) (by omega)), shl_four]
theorem shades_p (ls : List (List Int)) (h : ls.length ≤ 50) (S : Sg) : propK 0 s_Screen_shades (.p (.scr (lvD ls))) S = .ok (.p (.int (4 ^ ls.length))) S := propK_scr (shades_i ls h S.st)
theorem depth_i (ls : List (List Int)) (st : Store) : s_Screen_depth [.p (.scr (lvD ls))] st = .ok (.val (.int (ls.length : Nat))) st := by
  unfold s_Screen_depth b_Screen_depth
  simp! [lvD_len]
theorem depth_p (ls : List (List Int)) (S : Sg) : propK 0 s_Screen_depth (.p (.scr (lvD ls))) S = .ok (.p (.int (ls.length : Nat))) S := propK_scr (depth_i ls S.st)
/-- the place with a threshold, told by the digits -/
def plcD : List (List Int) → Int → Int → Int → Nat → Int × Int
  | [], _, x, y, _ => (x, y)
  | lv :: r, k, x, y, s => plcD r k (pl (ci4 lv (k / 4 ^ r.length % 4)) x y s).1 (pl (ci4 lv (k / 4 ^ r.length % 4)) x y s).2 (s + 1)
theorem places_of_i {l t w h : Int} (k : WinOk l t w h) (st : Store) : s_places_of [.p (winD l t w h)] st = .ok (.val (.int (w * h))) st := by
  obtain ⟨w1, w2, w3, w4, w5, w6, w7, w8⟩ := k
  unfold s_places_of b_places_of winD
  simp! [opMul_i (cmulw (i := w) (j := h) (n := 110) (m := 110) (Bt.of (by omega)) (Bt.of (by omega)))]
theorem require_number_ok {n a b : Int} (h0 : a ≤ n) (h1 : n ≤ b) (st : Store) : s_require_number [.p (.int n), .p (.int a), .p (.int b)] st = .ok (.val .non) st := by
  unfold s_require_number b_require_number
  simp! [is_whole_i, h0, h1]
section
variable {ls : List (List Int)} {l t w h : Int}
/-- the least shade with so many dots -/
noncomputable def lst (ls : List (List Int)) (l t w h n : Int) : Int := if n = 0 then 0 else nthT ls l t w h (n - 1) + 1
theorem least_with_i (h50 : ls.length ≤ 50) (hp : Lvs ls) (hw : WinOk l t w h) {n : Int} (n0 : 0 ≤ n) (n1 : n ≤ w * h) (st : Store) :
    s_least_with [.p (.scr (lvD ls)), .p (winD l t w h), .p (.int n)] st = .ok (.val (.int (lst ls l t w h n))) st := by
  unfold s_least_with b_least_with lst
  by_cases e : n = 0
  · simp! [e]
  · simp! [e, (nth_of_window_i h50 hp hw (N := n - 1) (by omega) (by omega)).2]
theorem least_shade_i (h50 : ls.length ≤ 50) (hp : Lvs ls) (hw : WinOk l t w h) {n : Int} (n0 : 0 ≤ n) (n1 : n ≤ w * h) (st : Store) :
    s_least_shade [.p (.scr (lvD ls)), .p (winD l t w h), .p (.int n)] st = .ok (.val (.int (lst ls l t w h n))) st := by
  unfold s_least_shade b_least_shade
  simp! [require_screen_ok, require_window_ok hw, places_of_i hw, require_number_ok n0 n1, least_with_i h50 hp hw n0 n1]
/-- what these are -/
theorem nth_is (h50 : ls.length ≤ 50) (hp : Lvs ls) (hw : WinOk l t w h) {n : Int} (n0 : 0 ≤ n) (n1 : n < w * h) : IsNth ls l t w h n (nthT ls l t w h n) := (nth_of_window_i h50 hp hw n0 n1).1
theorem lst_is (h50 : ls.length ≤ 50) (hp : Lvs ls) (hw : WinOk l t w h) {n : Int} (n0 : 0 ≤ n) (n1 : n ≤ w * h) : 0 ≤ lst ls l t w h n ∧ lst ls l t w h n ≤ 4 ^ ls.length ∧ n ≤ cnt ls (lst ls l t w h n) l t w h ∧ (0 < lst ls l t w h n → cnt ls (lst ls l t w h n - 1) l t w h < n) := by
  unfold lst
  by_cases e : n = 0
  · rw [if_pos e, cnt_none hp]
    exact ⟨by omega, Int.le_of_lt (four_pos _), by omega, fun z => by omega⟩
  · rw [if_neg e]
    obtain ⟨a, b, c, d⟩ := nth_is h50 hp hw (n := n - 1) (by omega) (by omega)
    exact ⟨by omega, by omega, by omega, fun _ => by rw [show nthT ls l t w h (n - 1) + 1 - 1 = nthT ls l t w h (n - 1) by omega]; omega⟩
end
end Lib

set_option Elab.async false
set_option linter.all false
set_option maxRecDepth 100000
set_option exponentiation.threshold 2000
namespace Lib
open PySem PySem.Spec PyProof.Rows L2 Dd
theorem thr_app : ∀ (A B : List (List Int)) (x y : Int), thr (A ++ B) x y = thr A x y * 4 ^ B.length + thr B (x / 2 ^ A.length) (y / 2 ^ A.length)
  | [], B, x, y => by simp [thr]
  | lv :: A, B, x, y => by
    have e1 : ∀ z : Int, z / 2 / 2 ^ A.length = z / 2 ^ (lv :: A).length := fun z => by
      rw [List.length_cons, Int.pow_succ, Int.mul_comm, Int.ediv_ediv_of_nonneg (by decide)]
    show dg lv x y * 4 ^ (A ++ B).length + thr (A ++ B) (x / 2) (y / 2) = (dg lv x y * 4 ^ A.length + thr A (x / 2) (y / 2)) * 4 ^ B.length + _
    rw [thr_app A B, e1, e1, List.length_append, Int.pow_add, Int.add_mul, Int.mul_assoc]
    omega
/-- whether the square at a place has a dot more -/
def full (ls : List (List Int)) (k : Int) (j : Nat) (x y : Int) : Prop := k % 4 ^ (ls.length - j) ≠ 0 ∧
  thr ls ((plcD (ls.take j) (k / 4 ^ (ls.length - j)) 0 0 0).1 + LO x (plcD (ls.take j) (k / 4 ^ (ls.length - j)) 0 0 0).1 j * 2 ^ j) ((plcD (ls.take j) (k / 4 ^ (ls.length - j)) 0 0 0).2 + LO y (plcD (ls.take j) (k / 4 ^ (ls.length - j)) 0 0 0).2 j * 2 ^ j) < k
instance (ls : List (List Int)) (k : Int) (j : Nat) (x y : Int) : Decidable (full ls k j x y) := inferInstanceAs (Decidable (_ ∧ _))
end Lib

set_option Elab.async false
set_option linter.all false
set_option maxRecDepth 100000
set_option exponentiation.threshold 2000
namespace Lib
open PySem PySem.Spec PyProof.Rows L2 Dd
/-- the other laws' bag -/
def ReelC (c : Cell) (C : Nat) : Prop := ∃ a b k : Int, c = .mu (.lst [.int a, .int b, .int k]) ∧ 0 ≤ b ∧ b < 2 ^ 150 ∧ 0 ≤ k ∧ k ≤ C
theorem ReelC.mono {c : Cell} {C C' : Nat} (h : ReelC c C) (k : C ≤ C') : ReelC c C' := by
  obtain ⟨a, b, i, e, h2, h3, h0, h1⟩ := h
  exact ⟨a, b, i, e, h2, h3, h0, by omega⟩
end Lib

set_option Elab.async false
set_option linter.all false
set_option maxRecDepth 100000
set_option exponentiation.threshold 2000
namespace Lib
open PySem PySem.Spec PyProof.Rows L2 Dd
def notNK : R → Sg → Res R := fun x S => match x with
  | .p .non => .ok (.p (.bl false)) S
  | _ => .ok (.p (.bl true)) S
theorem notN_ap (f : M R) (S : Sg) : notN f S = (f S).bnd notNK := by unfold notN; rw [bind_bnd]; rfl
section
variable {S : Sg}
theorem notNK_n : notNK (.p .non) S = .ok (.p (.bl false)) S := Eq.trans rfl rfl
end
section
variable {ls : List (List Int)} {l t w h : Int}
end
end Lib

set_option Elab.async false
set_option linter.all false
set_option maxRecDepth 100000
set_option exponentiation.threshold 2000
namespace Lib
open PySem PySem.Spec PyProof.Rows L2 Dd
section
variable {ls : List (List Int)} {k : Int} {j : Nat}
def opt1K : R → Sg → Res (Option Int) := fun x S => match asI x with
  | some i => .ok (some i) S
  | none => .bad
theorem opt1_ap (f : M R) (S : Sg) : opt1 f S = (f S).bnd opt1K := by unfold opt1; rw [bind_bnd]; rfl
theorem opt1K_i {i : Int} {S : Sg} : opt1K (.p (.int i)) S = .ok (some i) S := Eq.trans rfl rfl
end
/-! comprehensions with a test -/
end Lib

set_option Elab.async false
set_option linter.all false
set_option maxRecDepth 100000
set_option exponentiation.threshold 2000
namespace Lib
open PySem PySem.Spec PyProof.Rows L2 Dd
/-- the thresholds of a row, of rows -/
def rowT (ls : List (List Int)) (y : Int) : Int → Nat → List Int
  | _, 0 => []
  | l, n + 1 => thr ls l y :: rowT ls y (l + 1) n
def listed (ls : List (List Int)) (l t : Int) (w : Nat) : Nat → List Int
  | 0 => []
  | n + 1 => listed ls l t w n ++ rowT ls (t + (n : Int)) l w
end Lib

set_option Elab.async false
set_option linter.all false
set_option maxRecDepth 100000
set_option exponentiation.threshold 2000
namespace Lib
open PySem PySem.Spec PyProof.Rows L2 Dd
section
variable {ls : List (List Int)} {l t W H : Int}
end
end Lib

set_option Elab.async false
set_option linter.all false
set_option maxRecDepth 100000
set_option exponentiation.threshold 2000
namespace Lib
open PySem PySem.Spec PyProof.Rows L2 Dd
/-! texts of data of ints, truths and nothing -/
mutual
def sml : PyData → Bool
  | .none => true
  | .bool _ => true
  | .int i => decide (i.natAbs.log2 < 250)
  | .list xs => smlAll xs
  | .tuple xs => smlAll xs
  | .str _ => false
  | .dict _ => false
def smlAll : List PyData → Bool
  | [] => true
  | x :: xs => sml x && smlAll xs
end
theorem opNeD_t {a b : Str} {S : Sg} (ha : PyData.strOk a = true) (hb : PyData.strOk b = true) : opNeD (.p (.str a)) (.p (.str b)) S = .ok (.p (.bl (!decide (a = b)))) S := by
  have sh : ∀ {a : Str}, PyData.strOk a = true → SeqAt.shaped (.str a) = true := fun {a} h => by
    show (PyData.strOk a && decide (0 ≤ 64)) = true
    rw [h]; rfl
  rw [opNeD_of (d := .str a) (e := .str b) rfl rfl (sh ha) (sh hb), eqv_str]
theorem opEqD_t {a b : Str} {S : Sg} (ha : PyData.strOk a = true) (hb : PyData.strOk b = true) : opEqD (.p (.str a)) (.p (.str b)) S = .ok (.p (.bl (decide (a = b)))) S := by
  have sh : ∀ {a : Str}, PyData.strOk a = true → SeqAt.shaped (.str a) = true := fun {a} h => by
    show (PyData.strOk a && decide (0 ≤ 64)) = true
    rw [h]; rfl
  rw [opEqD_of (d := .str a) (e := .str b) rfl rfl (sh ha) (sh hb), eqv_str]
/-- the text of data, as one word -/
def Sml (d : PyData) : Prop := sml d = true ∧ d.depth ≤ 64 ∧ d.weight ≤ 50000
theorem smlAll_ints : ∀ {ns : List Int}, (∀ n ∈ ns, Bt 240 n) → smlAll (ns.map .int) = true
  | [], _ => rfl
  | n :: ns, h => by
    have := (h n List.mem_cons_self).log2
    show (sml (.int n) && smlAll (ns.map .int)) = true
    rw [smlAll_ints fun m hm => h m (List.mem_cons_of_mem _ hm)]
    simp only [sml, Bool.and_true, decide_eq_true_eq]; omega
theorem weight_ints : ∀ {ns : List Int}, (∀ n ∈ ns, Bt 240 n) → PyData.weightAll (ns.map .int) ≤ 242 * ns.length
  | [], _ => Nat.zero_le _
  | n :: ns, h => by
    have := (h n List.mem_cons_self).log2
    have ih := weight_ints fun m hm => h m (List.mem_cons_of_mem n hm)
    show PyData.weight (.int n) + 1 + PyData.weightAll (ns.map .int) ≤ _
    have e : PyData.weight (.int n) ≤ 241 := by
      simp only [PyData.weight]; split <;> omega
    rw [List.length_cons]; omega
theorem depth_ints : ∀ {ns : List Int}, PyData.depthAll (ns.map .int) = 0
  | [] => rfl
  | n :: ns => by
    show max (PyData.depth (.int n)) (PyData.depthAll (ns.map .int)) = 0
    rw [depth_ints]; rfl
theorem Sml.ints {ns : List Int} (h : ∀ n ∈ ns, Bt 240 n) (hl : ns.length ≤ 200) : Sml (.list (ns.map .int)) := by
  refine ⟨by simpa only [sml] using smlAll_ints h, ?_, ?_⟩
  · simp only [PyData.depth, depth_ints]; omega
  · have := weight_ints h
    simp only [PyData.weight]; omega
theorem Sml.int {n : Int} (h : Bt 240 n) : Sml (.int n) := by
  have := h.log2
  refine ⟨by simp only [sml, decide_eq_true_eq]; omega, by simp only [PyData.depth]; omega, ?_⟩
  simp only [PyData.weight]; split <;> omega
theorem Sml.none : Sml .none := ⟨rfl, by simp only [PyData.depth]; omega, by simp only [PyData.weight]; omega⟩
theorem Sml.bool {b : Bool} : Sml (.bool b) := ⟨rfl, by simp only [PyData.depth]; omega, by simp only [PyData.weight]; omega⟩
end Lib

set_option Elab.async false
set_option linter.all false
set_option maxRecDepth 100000
set_option exponentiation.threshold 2000
namespace Lib
open PySem PySem.Spec PyProof.Rows L2 Dd
/-! thresholds in ascending sequence -/
section
variable {ls : List (List Int)} {l t : Int} {w h : Nat}
end
/-! the texts of lists, the places of lists -/
end Lib

set_option Elab.async false
set_option linter.all false
set_option maxRecDepth 100000
set_option exponentiation.threshold 2000
namespace Lib
open PySem PySem.Spec PyProof.Rows L2 Dd
section
variable {ls : List (List Int)} {l t w h j : Int}
end
end Lib

set_option Elab.async false
set_option linter.all false
set_option maxRecDepth 100000
set_option exponentiation.threshold 2000
namespace Lib
open PySem PySem.Spec PyProof.Rows L2 Dd
end Lib

set_option Elab.async false
set_option linter.all false
set_option maxRecDepth 100000
set_option exponentiation.threshold 2000
namespace Lib
open PySem PySem.Spec PyProof.Rows L2 Dd
/-- windows with numbers of dots -/
abbrev Wn := (Int × Int × Int × Int) × Int
section
variable {ls : List (List Int)} {L : List Wn}
end
/-- places that were seen -/
abbrev Sn := (Int × Int) × Bool
def SnOk (p : Sn) : Prop := -(1000000000000000000000000000000 : Int) ≤ p.1.1 ∧ p.1.1 ≤ (1000000000000000000000000000000 : Int) ∧ -(1000000000000000000000000000000 : Int) ≤ p.1.2 ∧ p.1.2 ≤ (1000000000000000000000000000000 : Int)
def stp (ls : List (List Int)) (ab : Int × Int) (p : Sn) : Int × Int := if p.2 = true then (max ab.1 (thr ls p.1.1 p.1.2 + 1), ab.2) else (ab.1, min ab.2 (thr ls p.1.1 p.1.2))
def bnds (ls : List (List Int)) (L : List Sn) : Int × Int := L.foldl (stp ls) (0, 4 ^ ls.length)
section
variable {ls : List (List Int)} {L : List Sn}
end
theorem ixK_snoc {l : List D} {d : D} {S : Sg} : ixK (l ++ [d]) (-1) S = .ok (.p d) S := by
  refine ixK_of ?_
  unfold L2.atI L2.ixN
  rw [if_neg (by omega), List.length_append, List.length_singleton, if_pos (by omega)]
  show (l ++ [d])[_]? = _
  rw [show ((-1 : Int) + ((l.length + 1 : Nat) : Int)).toNat = l.length by omega]
  simp
end Lib

set_option Elab.async false
set_option linter.all false
set_option maxRecDepth 100000
set_option exponentiation.threshold 2000
namespace Lib
open PySem PySem.Spec PyProof.Rows L2 Dd
/-- what was seen fits a shade -/
def Fit (ls : List (List Int)) (s : Int) (p : Sn) : Prop := decide (thr ls p.1.1 p.1.2 < s) = p.2
instance (ls : List (List Int)) (s : Int) (p : Sn) : Decidable (Fit ls s p) := inferInstanceAs (Decidable (_ = _))
/-! the text of what was seen -/
def snP (p : Sn) : PyData := .tuple [.int p.1.1, .int p.1.2, .bool p.2]
theorem sn_bt {p : Sn} (h : SnOk p) : Bt 240 p.1.1 ∧ Bt 240 p.1.2 := by
  obtain ⟨a, b, c, d⟩ := h
  have : (1000000000000000000000000000000 : Int) < ((2 ^ 240 : Nat) : Int) := by decide
  exact ⟨Bt.of (by omega), Bt.of (by omega)⟩
theorem smlAll_sn : ∀ {L : List Sn}, (∀ p ∈ L, SnOk p) → smlAll (L.map snP) = true
  | [], _ => rfl
  | p :: L, h => by
    obtain ⟨a, b⟩ := sn_bt (h p List.mem_cons_self)
    have a := a.log2
    have b := b.log2
    show (sml (snP p) && smlAll (L.map snP)) = true
    rw [smlAll_sn fun q hq => h q (List.mem_cons_of_mem _ hq)]
    simp only [snP, sml, smlAll, Bool.and_true, Bool.and_eq_true, decide_eq_true_eq]
    omega
theorem weight_sn : ∀ {L : List Sn}, (∀ p ∈ L, SnOk p) → PyData.weightAll (L.map snP) ≤ 490 * L.length
  | [], _ => Nat.zero_le _
  | p :: L, h => by
    obtain ⟨a, b⟩ := sn_bt (h p List.mem_cons_self)
    have a := a.log2
    have b := b.log2
    have ih := weight_sn fun q hq => h q (List.mem_cons_of_mem p hq)
    show PyData.weight (snP p) + 1 + PyData.weightAll (L.map snP) ≤ _
    have e : PyData.weight (snP p) ≤ 485 := by
      simp only [snP, PyData.weight, PyData.weightAll]
      split <;> split <;> omega
    rw [List.length_cons]; omega
theorem depth_sn : ∀ L : List Sn, PyData.depthAll (L.map snP) ≤ 1
  | [] => Nat.zero_le _
  | p :: L => by
    show max (PyData.depth (snP p)) (PyData.depthAll (L.map snP)) ≤ 1
    have := depth_sn L
    have e : PyData.depth (snP p) = 1 := rfl
    omega
theorem Sml.sn {L : List Sn} (h : ∀ p ∈ L, SnOk p) (hl : L.length ≤ 100) : Sml (.list (L.map snP)) := by
  refine ⟨by simpa only [sml] using smlAll_sn h, ?_, ?_⟩
  · have := depth_sn L
    simp only [PyData.depth]; omega
  · have := weight_sn h
    simp only [PyData.weight]; omega
end Lib

set_option Elab.async false
set_option linter.all false
set_option maxRecDepth 100000
set_option exponentiation.threshold 2000
namespace Lib
open PySem PySem.Spec PyProof.Rows L2 Dd
/-! ### screens that are made of screens -/
def rea (cs : List Nat) (ls : List (List Int)) : List (List Int) := ls.map fun lv => cs.map fun c => lv.getD c 0
def csD (cs : List Nat) : List D := cs.map fun c : Nat => D.int (c : Int)
theorem rea_len (cs : List Nat) (ls : List (List Int)) : (rea cs ls).length = ls.length := List.length_map ..
theorem getD_self {lv : List Int} (h : lv.length = 4) : [0, 1, 2, 3].map (fun c => lv.getD c 0) = lv := by
  match lv, h with
  | [a, b, c, d], _ => rfl
theorem rea_lvs {cs : List Nat} (hc : cs.Perm [0, 1, 2, 3]) {ls : List (List Int)} (hp : Lvs ls) : Lvs (rea cs ls) := by
  intro l hl
  obtain ⟨lv, hm, rfl⟩ := List.mem_map.mp hl
  have h := hp lv hm
  refine (hc.map _).trans ?_
  rw [getD_self h.length_eq]
  exact h
theorem rea_ok {cs : List Nat} (hc : cs.Perm [0, 1, 2, 3]) {ls : List (List Int)} (lok : LvOk ls) : LvOk (rea cs ls) := ⟨by rw [rea_len]; exact lok.1, by rw [rea_len]; exact lok.2.1, rea_lvs hc lok.2.2⟩
theorem rearranged_i {ls : List (List Int)} (lok : LvOk ls) {cs : List Nat} (hc : cs.Perm [0, 1, 2, 3]) (st : Store) :
    s_rearranged [.p (.scr (lvD ls)), .p (.tup (csD cs))] st = .ok (.new (.obj 0 [("own_levels", .tup (lvD (rea cs ls)))])) st := by
  have cl : cs.length = 4 := hc.length_eq
  have c4 : ∀ c ∈ cs, c < 4 := fun c h => by
    have := hc.mem_iff.mp h
    simp only [List.mem_cons, List.not_mem_nil, or_false] at this
    omega
  obtain ⟨d1, d2, hp⟩ := lok
  have rok := rea_ok hc ⟨d1, d2, hp⟩
  refine fin_eq ?_
  unfold s_rearranged b_rearranged
  simp! [bnd_bnd]
  refine wpf_bnd (wp_lcFin (wp_lc (I := fun j acc S => ∃ rest s3, S = ⟨[some (.p (.scr (lvD ls))), some (.p (.tup (csD cs))), none, s3], st ++ rest⟩ ∧ acc = lvD (rea cs (ls.take j))) ?_ ?_ (by rw [lvD_len]; omega) ?_ ?_))
  · exact ⟨[], none, by rw [List.append_nil], rfl⟩
  · intros; trivial
  · rintro j d acc S hj ha ⟨rest, s3, rfl, rfl⟩
    obtain ⟨lv, h1, rfl, hm⟩ := lvD_get hj
    have hl := hp lv hm
    have e4 : ([] : List D) ++ (csD cs).map (fun d => match d with | .int c => (lv.map D.int).getD c.toNat .non | _ => .non) = (cs.map fun c => lv.getD c 0).map D.int := by
      rw [List.nil_append]
      unfold csD
      rw [List.map_map, List.map_map]
      refine List.map_congr_left fun c hc' => ?_
      have h4 := c4 c hc'
      have : c < lv.length := by rw [hl.length_eq]; exact h4
      show (lv.map D.int).getD c .non = D.int (lv.getD c 0)
      rw [List.getD_eq_getElem?_getD, List.getElem?_map, List.getD_eq_getElem?_getD, List.getElem?_eq_getElem this]
      rfl
    simp! [bnd_bnd]
    rw [lcL_map (g := fun d => match d with | .int c => (lv.map D.int).getD c.toNat .non | _ => .non) trivial _ _ (fun d hd => by
      obtain ⟨c, hc', rfl⟩ := List.mem_map.mp hd
      have h4 := c4 c hc'
      have h5 : c < lv.length := by rw [hl.length_eq]; exact h4
      have ix : ∀ S : Sg, ixK (lv.map D.int) (c : Int) S = .ok (.p ((lv.map D.int).getD c .non)) S := fun S => ixK_of (atI_of (by omega) (by
        rw [List.getD_eq_getElem?_getD, show ((c : Int)).toNat = c by omega, List.getElem?_map, List.getElem?_eq_getElem h5]; rfl))
      simp! [ix]
      rfl) (by unfold csD; simp; omega), e4]
    simp! [bnd_bnd, lcFin_ok (acc := (cs.map fun c => lv.getD c 0).map D.int) (by simp; omega)]
    refine wp_ok ⟨_, _, rfl, ?_⟩
    rw [List.take_add_one, h1]
    unfold lvD rea
    rw [List.map_append, List.map_append]
    rfl
  · rintro acc S ⟨rest, s3, rfl, rfl⟩
    have e := lvD_len ls
    rw [e, List.take_length]
    refine ⟨by rw [lvD_len, rea_len]; omega, ?_⟩
    simp! [bnd_bnd, screen_make _ rok]
    rw [finishR_mu (o := .obj 0 [("own_levels", .tup (lvD (rea cs ls)))]) (by simp) (by omega)]
    exact wpf_ok ⟨rfl, by rw [List.take_append_of_le_length (by omega), List.take_length]⟩
theorem mirrored_i {ls : List (List Int)} (lok : LvOk ls) (st : Store) : s_mirrored [.p (.scr (lvD ls))] st = .ok (.new (.obj 0 [("own_levels", .tup (lvD (rea [1, 0, 3, 2] ls)))])) st := by
  have r := rearranged_i lok (cs := [1, 0, 3, 2]) (by decide)
  unfold csD at r
  unfold s_mirrored b_mirrored
  simp! [require_screen_ok]
  simp! [show ∀ st, s_rearranged [.p (.scr (lvD ls)), .p (.tup [.int 1, .int 0, .int 3, .int 2])] st = _ from r]
  rw [finishR_mu (o := .obj 0 [("own_levels", .tup (lvD (rea [1, 0, 3, 2] ls)))]) (by simp) (by omega), List.take_append_of_le_length (by omega), List.take_length]
theorem opList_t {l : List D} {S : Sg} : opList (.p (.tup l)) S = .ok (.r S.st.length) ⟨S.sl, S.st ++ [.mu (.lst l)]⟩ := Eq.trans rfl rfl
theorem levels_i (l : List D) (st : Store) : s_Screen_levels [.p (.scr l)] st = .ok (.new (.lst l)) st := by
  unfold s_Screen_levels b_Screen_levels
  simp! [opList_t]
  rw [finishR_mu (o := .lst l) (by simp) (by omega), List.take_append_of_le_length (by omega), List.take_length]
theorem levels_p (l : List D) (S : Sg) : propK 0 s_Screen_levels (.p (.scr l)) S = .ok (.r S.st.length) ⟨S.sl, S.st ++ [.mu (.lst l)]⟩ := by
  unfold propK
  show (if (0 : Nat) = 0 then (match s_Screen_levels [.p (.scr l)] S.st with | .exc _ _ => Res.bad | r => applyF S r) else Res.bad) = _
  rw [if_pos rfl, levels_i]
  rfl
def slK (lo hi : Option Int) (S : Sg) : Option (List D) → Res R
  | some l => if l.length ≤ sizeLine then .ok (.r S.st.length) { S with st := S.st ++ [.mu (.lst (Dd.cutD l lo hi))] } else .bad
  | none => .bad
theorem opSl_r {n : Nat} {lo hi : Option Int} {S : Sg} : opSl (.r n) lo hi S = slK lo hi S (getLst (.r n) S) := by
  unfold opSl slK
  rfl
theorem slK_ap {l : List D} {lo hi : Option Int} {S : Sg} (h : l.length ≤ 1000) : slK lo hi S (some l) = .ok (.r S.st.length) ⟨S.sl, S.st ++ [.mu (.lst (Dd.cutD l lo hi))]⟩ := if_pos (Nat.le_trans h (by rw [sizeLine_eq]; decide))
theorem first_levels_i {ls : List (List Int)} (lok : LvOk ls) {n : Nat} (n0 : 1 ≤ n) (n1 : n ≤ ls.length) (st : Store) : s_first_levels [.p (.scr (lvD ls)), .p (.int (n : Int))] st = .ok (.new (.obj 0 [("own_levels", .tup (lvD (ls.take n)))])) st := by
  have ok : LvOk (ls.take n) := ⟨by rw [List.length_take]; omega, by rw [List.length_take]; have := lok.2.1; omega, fun l hl => lok.2.2 l (List.mem_of_mem_take hl)⟩
  have e : (lvD ls).take n = lvD (ls.take n) := (List.map_take ..).symm
  unfold s_first_levels b_first_levels
  simp! [require_screen_ok, is_whole_i, lvD_len, show (1 : Int) ≤ n by omega, show (n : Int) ≤ ls.length by omega, slE_ap, opt0_ap, opt1_ap, opt1K_i, levels_p, opSl_r, slK_ap (l := lvD ls) (lo := none) (hi := some (n : Int)) (by rw [lvD_len]; have := lok.2.1; omega), cutD_to, e, screen_make _ ok]
  rw [finishR_mu (o := .obj 0 [("own_levels", .tup (lvD (ls.take n)))]) (by simp) (by omega), List.take_append_of_le_length (by omega), List.take_length]
theorem eqv_ll (xs ys : List PyData) : PyData.eqv (.list xs) (.list ys) = PyData.eqvAll xs ys := rfl
/-! == with the data looked at one by one -/
/-! screens, looked at -/
/-! thresholds of turned screens -/
theorem dg_rea {cs : List Nat} {lv : List Int} {x y x' y' : Int} (h : (cs[(x % 2 + 2 * (y % 2)).toNat]?) = some (x' % 2 + 2 * (y' % 2)).toNat) : dg (cs.map fun c => lv.getD c 0) x y = dg lv x' y' := by
  unfold dg
  rw [List.getD_eq_getElem?_getD, List.getElem?_map, h]
  rfl
theorem thr_mir : ∀ (ls : List (List Int)) (x y : Int), thr (rea [1, 0, 3, 2] ls) x y = thr ls (-1 - x) y
  | [], x, y => rfl
  | lv :: r, x, y => by
    have ih := thr_mir r (x / 2) (y / 2)
    show dg _ x y * 4 ^ (rea _ r).length + thr (rea [1, 0, 3, 2] r) (x / 2) (y / 2) = dg lv (-1 - x) y * 4 ^ r.length + thr r ((-1 - x) / 2) (y / 2)
    rw [ih, rea_len, dg_rea (x' := -1 - x) (y' := y), show (-1 - x) / 2 = -1 - x / 2 by omega]
    rcases (show (x % 2 = 0 ∨ x % 2 = 1) ∧ (y % 2 = 0 ∨ y % 2 = 1) by omega) with ⟨h | h, k | k⟩ <;> rw [h, k, show (-1 - x) % 2 = 1 - x % 2 by omega, h] <;> rfl
/-! == of a screen with what is none -/
/-! a screen made of a list in a cell -/
end Lib

set_option Elab.async false
set_option linter.all false
set_option maxRecDepth 100000
set_option exponentiation.threshold 2000
namespace Lib
open PySem PySem.Spec PyProof.Rows L2 Dd
/-! ### longest runs: plain -/
/-- the longest run of an endless row of truths; none if it has no end -/
def LongR (Q : Int → Bool) : Option Int → Prop
  | none => ∀ x, Q x = true
  | some m => 0 ≤ m ∧ (∃ x, ∀ i : Int, 0 ≤ i → i < m → Q (x + i) = true) ∧ ∀ x, ∃ i : Int, 0 ≤ i ∧ i ≤ m ∧ Q (x + i) = false
theorem LongR.uniq {Q : Int → Bool} : ∀ {a b : Option Int}, LongR Q a → LongR Q b → a = b
  | none, none, _, _ => rfl
  | none, some m, h, k => by
    obtain ⟨i, _, _, e⟩ := k.2.2 0
    rw [h] at e; cases e
  | some m, none, h, k => by
    obtain ⟨i, _, _, e⟩ := h.2.2 0
    rw [k] at e; cases e
  | some m, some n, ⟨h0, ⟨x, hx⟩, h2⟩, ⟨k0, ⟨y, hy⟩, k2⟩ => by
    have l : ∀ {m n : Int} {x : Int}, (∀ i : Int, 0 ≤ i → i < m → Q (x + i) = true) → (∀ x, ∃ i : Int, 0 ≤ i ∧ i ≤ n ∧ Q (x + i) = false) → m ≤ n := fun {m n x} a b => by
      apply Classical.byContradiction
      intro hc
      obtain ⟨i, i0, i1, e⟩ := b x
      rw [a i i0 (by omega)] at e; cases e
    have := l hx k2
    have := l hy h2
    rw [show m = n by omega]
section
variable {Q F : Int → Bool} {f : Option Int}
end
/-- the place of a line -/
def lp (row : Bool) (ls : List (List Int)) (y x : Int) : Int := if row then thr ls x y else thr ls y x
end Lib

set_option Elab.async false
set_option linter.all false
set_option maxRecDepth 100000
set_option exponentiation.threshold 2000
namespace Lib
open PySem PySem.Spec PyProof.Rows L2 Dd
/-! ### longest runs: the walk -/
def hS (a g : Int) : Str := if a = g then Str.ofString "on" else if a < g then Str.ofString "dot" else Str.ofString "blank"
/-! the lines -/
section
variable {ls : List (List Int)} {k : Int} (h50 : ls.length ≤ 50) (hp : Lvs ls) (k0 : 0 ≤ k) (k1 : k ≤ 4 ^ ls.length)
include h50 hp k0 k1
end
end Lib

set_option Elab.async false
set_option linter.all false
set_option maxRecDepth 100000
set_option exponentiation.threshold 2000
namespace Lib
open PySem PySem.Spec PyProof.Rows L2 Dd
/-! ### the law's own count of runs -/
/-- what is known of the runs that end within the first t places -/
structure RunI (Q : Int → Bool) (t now best : Int) : Prop where
  n0 : 0 ≤ now
  b0 : 0 ≤ best
  run : ∀ i : Int, 0 ≤ i → i < now → Q (t - 1 - i) = true
  top : now = t ∨ Q (t - 1 - now) = false
  got : ∃ x, ∀ i : Int, 0 ≤ i → i < best → Q (x + i) = true
  le : now ≤ t
  all : ∀ s m : Int, 0 ≤ s → s ≤ t → m ≤ s → (∀ i : Int, 0 ≤ i → i < m → Q (s - 1 - i) = true) → m ≤ best
theorem RunI.zero (Q : Int → Bool) : RunI Q 0 0 0 := ⟨Int.le_refl _, Int.le_refl _, fun i _ _ => by omega, .inl rfl, ⟨0, fun i _ _ => by omega⟩, Int.le_refl _, fun s m _ _ _ _ => by omega⟩
theorem RunI.step {Q : Int → Bool} {t now best : Int} (h : RunI Q t now best) (t0 : 0 ≤ t) : RunI Q (t + 1) (if Q t = true then now + 1 else 0) (max best (if Q t = true then now + 1 else 0)) := by
  obtain ⟨n0, b0, run, mx, got, le, all⟩ := h
  by_cases q : Q t = true
  · rw [if_pos q]
    have run' : ∀ i : Int, 0 ≤ i → i < now + 1 → Q (t + 1 - 1 - i) = true := fun i i0 i1 => by
      by_cases hi : i = 0
      · rw [hi, show t + 1 - 1 - 0 = t by omega]; exact q
      · rw [show t + 1 - 1 - i = t - 1 - (i - 1) by omega]; exact run _ (by omega) (by omega)
    refine ⟨by omega, by omega, run', ?_, ?_, by omega, fun s m s0 s1 ms hr => ?_⟩
    · rcases mx with h | h
      · left; omega
      · right; rw [show t + 1 - 1 - (now + 1) = t - 1 - now by omega]; exact h
    · by_cases hb : best ≤ now + 1
      · refine ⟨t - now, fun i i0 i1 => ?_⟩
        rw [show t - now + i = t + 1 - 1 - (now - i) by omega]
        exact run' _ (by omega) (by omega)
      · obtain ⟨x, hx⟩ := got
        exact ⟨x, fun i i0 i1 => hx i i0 (by omega)⟩
    · by_cases hs : s = t + 1
      · subst hs
        have : m ≤ now + 1 := by
          apply Classical.byContradiction
          intro hc
          rcases mx with h | h
          · omega
          · have := hr (now + 1) (by omega) (by omega)
            rw [show t + 1 - 1 - (now + 1) = t - 1 - now by omega, h] at this
            cases this
        omega
      · have := all s m s0 (by omega) ms hr
        omega
  · rw [if_neg q]
    have q' : Q t = false := by simpa using q
    refine ⟨Int.le_refl _, by omega, fun i _ _ => by omega, ?_, ?_, by omega, fun s m s0 s1 ms hr => ?_⟩
    · right; rw [show t + 1 - 1 - 0 = t by omega]; exact q'
    · obtain ⟨x, hx⟩ := got
      exact ⟨x, fun i i0 i1 => hx i i0 (by omega)⟩
    · by_cases hs : s = t + 1
      · subst hs
        have : m ≤ 0 := by
          apply Classical.byContradiction
          intro hc
          have := hr 0 (by omega) (by omega)
          rw [show t + 1 - 1 - 0 = t by omega, q'] at this
          cases this
        omega
      · have := all s m s0 (by omega) ms hr
        omega
theorem RunI.done {Q : Int → Bool} {N now best : Int} (N0 : 0 < N) (per : ∀ x q : Int, Q (x + q * N) = Q x) (h : RunI Q (2 * N) now best) (hn : ∃ x, Q x = false) : LongR Q (some best) := by
  refine ⟨h.b0, h.got, fun x => ?_⟩
  apply Classical.byContradiction
  intro hc
  have tr : ∀ i : Int, 0 ≤ i → i ≤ best → Q (x + i) = true := fun i i0 i1 => by
    cases e : Q (x + i) with
    | true => rfl
    | false => exact (hc ⟨i, i0, i1, e⟩).elim
  have e := Int.emod_add_mul_ediv x N
  have z0 := Int.emod_nonneg x (Int.ne_of_gt N0)
  have z1 := Int.emod_lt_of_pos x N0
  have tr' : ∀ i : Int, 0 ≤ i → i ≤ best → Q (x % N + i) = true := fun i i0 i1 => by
    rw [← tr i i0 i1, ← per (x % N + i) (x / N), Int.mul_comm]
    congr 1; omega
  by_cases hb : best < N
  · have := h.all (x % N + best + 1) (best + 1) (by have := h.b0; omega) (by omega) (by omega) fun i i0 i1 => by
      rw [show x % N + best + 1 - 1 - i = x % N + (best - i) by omega]
      exact tr' _ (by omega) (by omega)
    omega
  · obtain ⟨w, hw⟩ := hn
    have e2 := Int.emod_add_mul_ediv (w - x) N
    have w0 := Int.emod_nonneg (w - x) (Int.ne_of_gt N0)
    have w1 := Int.emod_lt_of_pos (w - x) N0
    have := tr ((w - x) % N) w0 (by omega)
    rw [← per _ ((w - x) / N), Int.mul_comm, show x + (w - x) % N + N * ((w - x) / N) = w by omega, hw] at this
    cases this
/-! periods -/
end Lib

set_option Elab.async false
set_option linter.all false
set_option maxRecDepth 100000
set_option exponentiation.threshold 2000
namespace Lib
open PySem PySem.Spec PyProof.Rows L2 Dd
/-! ### sums over stretches and windows -/
def sm : Nat → (Int → Int) → Int → Int
  | 0, _, _ => 0
  | n + 1, F, a => F a + sm n F (a + 1)
theorem sm_add (F : Int → Int) : ∀ (n m : Nat) (a : Int), sm (n + m) F a = sm n F a + sm m F (a + n)
  | 0, m, a => by rw [Nat.zero_add, show a + ((0 : Nat) : Int) = a by omega]; show _ = 0 + _; omega
  | n + 1, m, a => by
    have ih := sm_add F n m (a + 1)
    rw [show n + 1 + m = (n + m) + 1 by omega]
    show F a + sm (n + m) F (a + 1) = F a + sm n F (a + 1) + _
    rw [ih, show a + ((n + 1 : Nat) : Int) = a + 1 + (n : Int) by omega]
    omega
theorem sm_congr {F G : Int → Int} : ∀ (n : Nat) (a : Int), (∀ i : Int, a ≤ i → i < a + n → F i = G i) → sm n F a = sm n G a
  | 0, a, h => rfl
  | n + 1, a, h => by
    show F a + _ = G a + _
    rw [h a (by omega) (by omega), sm_congr n (a + 1) fun i h0 h1 => h i (by omega) (by omega)]
def sm2 (F : Int → Int → Int) (l t : Int) (w h : Nat) : Int := sm h (fun y => sm w (fun x => F x y) l) t
theorem sm2_congr {F G : Int → Int → Int} (h : ∀ x y, F x y = G x y) (l t : Int) (w k : Nat) : sm2 F l t w k = sm2 G l t w k :=
  sm_congr k t fun y _ _ => sm_congr w l fun x _ _ => h x y
/-- is there a dot -/
def dt (ls : List (List Int)) (k : Int) (x y : Int) : Int := if thr ls x y < k then 1 else 0
theorem cnt_row {ls : List (List Int)} (hp : Lvs ls) {k : Int} (k0 : 0 ≤ k) (k1 : k ≤ 4 ^ ls.length) (t : Int) : ∀ (w : Nat) (l : Int), cnt ls k l t w 1 = sm w (fun x => dt ls k x t) l
  | 0, l => cnt_0w ls k l t 1
  | w + 1, l => by
    show _ = dt ls k l t + sm w _ (l + 1)
    rw [← cnt_row hp k0 k1 t w (l + 1)]
    have := cnt_wide ls k l t 1 w 1
    rw [cnt_one hp k0 k1] at this
    rw [show ((w + 1 : Nat) : Int) = 1 + (w : Int) by omega, ← this]; rfl
theorem cnt_sm {ls : List (List Int)} (hp : Lvs ls) {k : Int} (k0 : 0 ≤ k) (k1 : k ≤ 4 ^ ls.length) (l : Int) (w : Nat) : ∀ (h : Nat) (t : Int), cnt ls k l t w h = sm2 (dt ls k) l t w h
  | 0, t => cnt_0h ls k l t w
  | h + 1, t => by
    show _ = sm w (fun x => dt ls k x t) l + sm h _ (t + 1)
    have ih := cnt_sm hp k0 k1 l w h (t + 1)
    unfold sm2 at ih
    rw [← ih, ← cnt_row hp k0 k1]
    have := cnt_high ls k l t w 1 h
    rw [show ((h + 1 : Nat) : Int) = 1 + (h : Int) by omega, ← this]
/-- two screens alike by their thresholds have the same numbers -/
theorem cnt_same {A B : List (List Int)} (hA : Lvs A) (hB : Lvs B) {k j : Int} (k0 : 0 ≤ k) (k1 : k ≤ 4 ^ A.length) (j0 : 0 ≤ j) (j1 : j ≤ 4 ^ B.length) (e : ∀ x y, thr A x y < k ↔ thr B x y < j) {w h : Int} (hw : 0 ≤ w) (hh : 0 ≤ h) (l t : Int) : cnt A k l t w h = cnt B j l t w h := by
  obtain ⟨m, rfl⟩ : ∃ m : Nat, w = m := ⟨w.toNat, by omega⟩
  obtain ⟨n, rfl⟩ : ∃ m : Nat, h = m := ⟨h.toNat, by omega⟩
  rw [cnt_sm hA k0 k1, cnt_sm hB j0 j1]
  refine sm2_congr (fun x y => ?_) l t m n
  unfold dt
  by_cases q : thr A x y < k
  · rw [if_pos q, if_pos ((e x y).mp q)]
  · rw [if_neg q, if_neg fun z => q ((e x y).mpr z)]
/-! ### the spots of squares -/
/-- the stretches of spots: first, number, corners of each -/
def parts (f m r : Int) (s : Nat) : List (Int × Int × Int) :=
  if LO f r s = LO (f + m - 1) r s then [(LO f r s, 1, m)]
  else if LO (f + m - 1) r s - LO f r s > 1 then [(LO f r s, 1, r + LO f r s * 2 ^ s - f + 1), (LO (f + m - 1) r s, 1, f + m - 1 - r - (LO (f + m - 1) r s - 1) * 2 ^ s), (LO f r s + 1, LO (f + m - 1) r s - LO f r s - 1, 2 ^ s)]
  else [(LO f r s, 1, r + LO f r s * 2 ^ s - f + 1), (LO (f + m - 1) r s, 1, f + m - 1 - r - (LO (f + m - 1) r s - 1) * 2 ^ s)]
end Lib

set_option Elab.async false
set_option linter.all false
set_option maxRecDepth 100000
set_option exponentiation.threshold 2000
namespace Lib
open PySem PySem.Spec PyProof.Rows L2 Dd
/-! ### windows of spots, further out -/
/-! ### fuller_count: the walk -/
section
variable {f m r : Int} {s : Nat} (f0 : -(1000000000000000000000000000000 : Int) ≤ f) (f1 : f ≤ (1000000000000000000000000000000 : Int)) (m0 : 1 ≤ m) (m1 : m ≤ (1000000000000000000000000000000 : Int)) (hs : s ≤ 50) (r0 : 0 ≤ r) (r1 : r < 2 ^ s)
include f0 f1 m0 m1 hs r0 r1
end
section
variable {ls : List (List Int)} {k : Int} {j : Nat}
end
end Lib

set_option Elab.async false
set_option linter.all false
set_option maxRecDepth 100000
namespace Dd
open PySem PySem.Spec PyProof.Rows L2
/-! how an own exception goes through a meaning -/
/-- data of the kinds that isinstance is asked of -/
def okD : D → Bool
  | .non => true | .bl _ => true | .int _ => true | .str _ => true | .tup _ => true | .lst _ => true | .edct => true | .scr _ => true | _ => false
def isaD (n : String) (d : D) : Bool := match kindD d with | some t => subTy t n | none => false
theorem isK_okD {n : String} {d : D} {S : Sg} (h : okD d = true) : isK n (.p d) S = .ok (.p (.bl (isaD n d))) S := by
  cases d <;> first | (cases h; done) | rfl
theorem isaD_str {d : D} : isaD "str" d = (match d with | .str _ => true | _ => false) := by cases d <;> first | rfl | (show subTy _ _ = _; decide)
end Dd
namespace Lib
open PySem PySem.Spec PyProof.Rows L2 Dd
end Lib

set_option Elab.async false
set_option linter.all false
set_option maxRecDepth 100000
set_option exponentiation.threshold 2000
namespace Lib
open PySem PySem.Spec PyProof.Rows L2 Dd
/-! ### texts of screens -/
/-- the text of a level -/
def lvS (lv : List Int) : Str := ⟨(lv.map fun n => (48 + n).toNat).toArray⟩
/-- the text of a screen -/
def tx (ls : List (List Int)) : Str := Txt.join (Str.ofString " ") (ls.map lvS)
/-! ### reading -/
end Lib

set_option Elab.async false
set_option linter.all false
set_option maxRecDepth 100000
set_option exponentiation.threshold 2000
namespace Lib
open PySem PySem.Spec PyProof.Rows L2 Dd
theorem level_d : Draws s_z_law_level (fun n => [.r n]) (fun v => ∃ lv : List Int, v = .tup (lv.map .int) ∧ lv.Perm [0, 1, 2, 3]) 4 := by
  apply dr_of
  intro st n c C hn hb hC
  unfold s_z_law_level b_z_law_level
  simp! [bnd_bnd]
  refine wpf_bnd (wp_loop (I := fun i S => ∃ (c' : Cell) (left lev : List Int) (rest : Store) (s3 : Option R), S = ⟨[some (.r n), some (.r st.length), some (.r (st.length + 1)), s3], st.set n c' ++ (.mu (.lst (left.map .int)) :: .mu (.lst (lev.map .int)) :: rest)⟩ ∧ left.length = 4 - i ∧ lev.length = i ∧ (lev ++ left).Perm [0, 1, 2, 3] ∧ BagC c' (C + i)) ?_ ?_ ?_ ?_)
  · exact ⟨c, [0, 1, 2, 3], [], [], none, rfl, rfl, rfl, List.Perm.refl _, hb⟩
  · intros; trivial
  · rintro j q S hj ⟨c', left, lev, rest, s3, rfl, hm, hlen, hp2, B⟩
    have hj4 : j < 4 := (intsFrom_at (show (Dd.intsFrom 0 4)[j]? = some q from hj)).2
    rw [bind_bnd]
    cases left with
    | nil => simp at hm; omega
    | cons z left =>
      simp only [List.length_cons] at hm
      simp! [bnd_bnd, List.length_map]
      refine wp_bnd (wp_draw (pick_d (m := ((left.length + 1 : Nat) : Int)) (by omega) (Int.lt_of_le_of_lt (show ((left.length + 1 : Nat) : Int) ≤ 4 by omega) (by decide))) hn B (by omega) fun v2 c2 ⟨v, e2, a2, b2⟩ B2 => ?_)
      subst e2
      have hk : v.toNat < (z :: left).length := by rw [List.length_cons]; omega
      have hd : (D.int z :: left.map D.int)[v.toNat]? = some (.int (z :: left)[v.toNat]) := by
        show ((z :: left).map D.int)[v.toNat]? = _
        rw [List.getElem?_map, List.getElem?_eq_getElem hk]; rfl
      simp! [bnd_bnd, popC_of a2 hd (show (D.int z :: left.map D.int).length < 1000000 by rw [List.length_cons, List.length_map]; omega), appK_ap (show (lev.map D.int).length < 1000000 by rw [List.length_map]; omega)]
      refine wp_ok ⟨c2, (z :: left).eraseIdx v.toNat, lev ++ [(z :: left)[v.toNat]], rest, some (.p q), ?_, ?_, ?_, ?_, B2⟩
      · rw [List.map_append]
        show _ = (⟨_, st.set n c2 ++ (.mu (.lst (((z :: left).eraseIdx v.toNat).map D.int)) :: _)⟩ : Sg)
        rw [← map_erase]; rfl
      · rw [List.length_eraseIdx_of_lt hk, List.length_cons]; omega
      · rw [List.length_append]; simp; omega
      · refine List.Perm.trans ?_ hp2
        rw [List.append_assoc]
        exact (perm_getE hk).append_left lev
  · rintro S ⟨c', left, lev, rest, s3, rfl, hm, hlen, hp2, B⟩
    have hm : left.length = 0 := hm
    obtain rfl := List.length_eq_zero_iff.mp hm
    rw [List.append_nil] at hp2
    simp! [bnd_bnd]
    exact wpf_ok ⟨_, c', rfl, by simp! [], ⟨lev, rfl, hp2⟩, B⟩
theorem levels2_d {most : Int} (h0 : 0 < most) (h1 : most ≤ 50) : DrawsL s_z_law_levels_v2 (fun n => [.r n, .p (.int most)]) (fun v => ∃ ls, v = lvD ls ∧ LvOk ls ∧ (ls.length : Int) ≤ most) 250 := by
  apply drL_of
  intro st n c C hn hb hC
  unfold s_z_law_levels_v2 b_z_law_levels_v2
  simp! [bnd_bnd]
  refine wpf_bnd (wp_draw0 (pick_d (m := most) h0 (by omega)) hn hb (by omega) fun v2 c2 ⟨v, e2, a2, b2⟩ B2 => ?_)
  subst e2
  obtain ⟨d, hd⟩ : ∃ d : Nat, 1 + v = (d : Int) := ⟨(1 + v).toNat, by omega⟩
  simp! [bnd_bnd, hd, rngK1_n (show d ≤ 1000000 by omega)]
  refine wpf_bnd (wp_lcFin (wp_lc (I := fun i acc S => ∃ (c' : Cell) (ls : List (List Int)), acc = lvD ls ∧ ls.length = i ∧ Lvs ls ∧ S = ⟨[some (.r n), some (.p (.int most)), none], st.set n c'⟩ ∧ BagC c' (C + 1 + 4 * i)) ?_ ?_ ?_ ?_ ?_))
  · exact ⟨c2, [], rfl, rfl, fun _ h => by simp at h, rfl, B2⟩
  · intros; trivial
  · rw [Dd.intsFrom_length]; omega
  · rintro i q acc S hi hla ⟨c', ls, rfl, hl, hp, rfl, B⟩
    have hid := (intsFrom_at hi).2
    simp! [bnd_bnd]
    refine wp_bnd (wp_draw0 level_d hn B (by omega) fun v3 c3 ⟨lv, e3, hlv⟩ B3 => ?_); subst e3
    simp! [bnd_bnd]
    refine wp_ok ⟨c3, ls ++ [lv], by unfold lvD; rw [List.map_append]; rfl, by rw [List.length_append, hl]; rfl, ?_, rfl, BagC.mono B3 (by omega)⟩
    intro z hz
    rcases List.mem_append.mp hz with hz | hz
    · exact hp z hz
    · rw [List.mem_singleton.mp hz]; exact hlv
  · rintro acc S ⟨c', ls, rfl, hl, hp, rfl, B⟩
    rw [Dd.intsFrom_length] at hl B
    refine ⟨by rw [lvD_len]; omega, ?_⟩
    simp! [bnd_bnd]
    rw [finishR_mu (o := .lst (lvD ls)) (by simp) (by simp), take_set_app]
    exact wpf_ok ⟨_, c', rfl, rfl, ⟨ls, rfl, ⟨by omega, by omega, hp⟩, by omega⟩, BagC.mono B (by omega)⟩
end Lib

set_option Elab.async false
set_option linter.all false
set_option maxRecDepth 100000
set_option exponentiation.threshold 2000
namespace Lib
open PySem PySem.Spec PyProof.Rows L2 Dd
section
variable {ls : List (List Int)} {k : Int}
end
end Lib

set_option Elab.async false
set_option linter.all false
set_option maxRecDepth 100000
set_option maxHeartbeats 2000000
namespace Lib
open PySem PySem.Spec PyProof.Rows L2 Dd
/-! the name of an exception, as the laws tell it -/
end Lib

set_option Elab.async false
set_option linter.all false
set_option maxRecDepth 100000
set_option exponentiation.threshold 2000
set_option maxHeartbeats 2000000
namespace Lib
open PySem PySem.Spec PyProof.Rows L2 Dd
/-! what is shown, refused -/
section
variable {ls : List (List Int)} {k : Int}
end
theorem p4le {j : Nat} (h : j ≤ 50) : (4 : Int) ^ j ≤ 4 ^ 50 := by
  have a : (4 : Nat) ^ j ≤ 4 ^ 50 := Nat.pow_le_pow_right (by decide) h
  have e : ((4 ^ j : Nat) : Int) = 4 ^ j := by rw [Int.natCast_pow]; rfl
  have e2 : ((4 ^ 50 : Nat) : Int) = 4 ^ 50 := by rw [Int.natCast_pow]; rfl
  omega
end Lib

set_option Elab.async false
set_option linter.all false
set_option maxRecDepth 100000
set_option exponentiation.threshold 2000
namespace Lib
open PySem PySem.Spec PyProof.Rows L2 Dd
/-! ### runs of turned screens; the best of all lines -/
theorem LongR.congr {Q Q' : Int → Bool} {r : Option Int} (h : LongR Q r) (e : ∀ x, Q' x = Q x) : LongR Q' r := by
  have : Q' = Q := funext e
  rw [this]; exact h
section
variable {ls : List (List Int)} {k : Int} (hp : Lvs ls) (k0 : 0 ≤ k) (k1 : k ≤ 4 ^ ls.length) (kd : Bool) (y : Int)
include hp k0 k1
end
def leO : Option Int → Option Int → Prop
  | _, none => True
  | none, some _ => False
  | some m, some n => m ≤ n
theorem leO.anti : ∀ {a b : Option Int}, leO a b → leO b a → a = b
  | none, none, _, _ => rfl
  | none, some _, h, _ => h.elim
  | some _, none, _, h => h.elim
  | some m, some n, h, k => by rw [show m = n by unfold leO at h k; omega]
theorem leO.refl : ∀ a : Option Int, leO a a
  | none => trivial
  | some m => Int.le_refl m
theorem leO.trans : ∀ {a b c : Option Int}, leO a b → leO b c → leO a c
  | _, _, none, _, _ => trivial
  | none, none, some _, _, h => h.elim
  | none, some _, some _, h, _ => h.elim
  | some _, none, some _, _, h => h.elim
  | some m, some n, some p, h, k => Int.le_trans h k
/-- the best one of all -/
def IsBest (S : Int → Option Int) (r : Option Int) : Prop := (∃ y, S y = r) ∧ ∀ y, leO (S y) r
theorem IsBest.uniq {S S' : Int → Option Int} {r r' : Option Int} (h : IsBest S r) (h' : IsBest S' r') (e : ∀ y, ∃ z, S y = S' z) (e' : ∀ y, ∃ z, S' y = S z) : r = r' := by
  obtain ⟨⟨y, hy⟩, b⟩ := h
  obtain ⟨⟨y', hy'⟩, b'⟩ := h'
  refine leO.anti ?_ ?_
  · obtain ⟨z, hz⟩ := e y
    rw [← hy, hz]; exact b' z
  · obtain ⟨z, hz⟩ := e' y'
    rw [← hy', hz]; exact b z
section
variable {ls : List (List Int)} {k : Int} (hp : Lvs ls) (k0 : 0 ≤ k) (k1 : k ≤ 4 ^ ls.length) (kd : Bool)
include hp k0 k1
end
/-! squares and ranks over the diagonal -/
section
variable {ls : List (List Int)} {k : Int} (h50 : ls.length ≤ 50) (hp : Lvs ls) (k0 : 0 ≤ k) (k1 : k ≤ 4 ^ ls.length)
include h50 hp k0 k1
end
end Lib

set_option Elab.async false
set_option linter.all false
set_option maxRecDepth 100000
set_option exponentiation.threshold 2000
namespace Lib
open PySem PySem.Spec PyProof.Rows L2 Dd
/-! ### negatives -/
def neg (ls : List (List Int)) : List (List Int) := ls.map fun lv => lv.map fun n => 3 - n
/-! ### evenness -/
section
variable {ls : List (List Int)} {k : Int} (h50 : ls.length ≤ 50) (hp : Lvs ls) (k0 : 0 ≤ k) (k1 : k ≤ 4 ^ ls.length) {j : Nat} (hj : j ≤ ls.length)
include h50 hp k0 k1 hj
end
theorem cnt_nn {ls : List (List Int)} (hp : Lvs ls) {k : Int} (k0 : 0 ≤ k) (k1 : k ≤ 4 ^ ls.length) {w h : Int} (hw : 0 ≤ w) (hh : 0 ≤ h) (l t : Int) : 0 ≤ cnt ls k l t w h := by
  have := cnt_mono hp (l := l) (t := t) hw hh (Int.le_refl 0) k0 k1
  rwa [cnt_none hp] at this
/-- a window in a window from the same corner on -/
theorem cnt_sub {ls : List (List Int)} (hp : Lvs ls) {k : Int} (k0 : 0 ≤ k) (k1 : k ≤ 4 ^ ls.length) {w h w' h' : Int} (hw : 0 ≤ w) (hh : 0 ≤ h) (hw' : w ≤ w') (hh' : h ≤ h') (l t : Int) : cnt ls k l t w h ≤ cnt ls k l t w' h' := by
  have a := cnt_wide ls k l t w (w' - w) h
  have b := cnt_high ls k l t w' h (h' - h)
  rw [show w + (w' - w) = w' by omega] at a
  rw [show h + (h' - h) = h' by omega] at b
  have c := cnt_nn hp k0 k1 (w := w' - w) (h := h) (by omega) hh (l + w) t
  have d := cnt_nn hp k0 k1 (w := w') (h := h' - h) (by omega) (by omega) l (t + h)
  omega
/-! ### squares at all places of a period -/
end Lib

set_option Elab.async false
set_option linter.all false
set_option maxRecDepth 100000
set_option exponentiation.threshold 2000
namespace Lib
open PySem PySem.Spec PyProof.Rows L2 Dd
/-! ### unlike places: plain -/
abbrev Cl := Int × Int × Nat
/-- the cell of a place at a level -/
def cs (X Y : Int) (s : Nat) : Nat := (X / 2 ^ s % 2 + 2 * (Y / 2 ^ s % 2)).toNat
/-- the kind of a number: dots 1, blanks 0, either 2 -/
def kn (g r n : Int) : Int := if n ≠ g ∨ r = 0 then (if n < g then 1 else 0) else 2
/-- does a place have a dot, by levels of which all ahead are the shade's -/
def has (ls : List (List Int)) (k X Y : Int) (s : Nat) : Bool := decide (thr ls (X / 2 ^ s) (Y / 2 ^ s) < k % 4 ^ ls.length)
/-- the kinds of a level's cells; blanks behind the last level -/
def kinds : List (List Int) → Int → List Int
  | [], _ => [0, 0, 0, 0]
  | lv :: r, k => lv.map (kn (k / 4 ^ r.length % 4) (k % 4 ^ r.length))
def kd (ls : List (List Int)) (k : Int) (c : Nat) : Int := (kinds ls k).getD c 0
end Lib

set_option Elab.async false
set_option linter.all false
set_option maxRecDepth 100000
set_option exponentiation.threshold 2000
namespace Lib
open PySem PySem.Spec PyProof.Rows L2 Dd
/-! ### unlike places: the walk -/
/-! bounds -/
def CellIn (c : Cl) : Prop := 0 ≤ c.1 ∧ c.1 < 2 ^ c.2.2 ∧ 0 ≤ c.2.1 ∧ c.2.1 < 2 ^ c.2.2 ∧ c.2.2 ≤ 50
theorem CellIn.ok {c : Cl} (h : CellIn c) : CellOk' 50 c := by
  obtain ⟨a, b, d, e, f⟩ := h
  have := pow_bd f
  exact ⟨a, by omega, d, by omega, f⟩
section
variable {A B : List (List Int)} (hA : LvOk A) (hB : LvOk B) {k m : Int} (k0 : 0 ≤ k) (k1 : k ≤ 4 ^ A.length) (m0 : 0 ≤ m) (m1 : m ≤ 4 ^ B.length)
include hA hB k0 k1 m0 m1
end
end Lib

set_option Elab.async false
set_option linter.all false
set_option maxRecDepth 100000
set_option exponentiation.threshold 2000
namespace Lib
open PySem PySem.Spec PyProof.Rows L2 Dd
/-! ### unlike_count -/
/-- is a place unlike -/
def un (A : List (List Int)) (k : Int) (B : List (List Int)) (m : Int) (X Y : Int) : Int := if decide (thr A X Y < k) = decide (thr B X Y < m) then 0 else 1
section
variable {A B : List (List Int)} (hA : LvOk A) (hB : LvOk B) {k m : Int} (k0 : 0 ≤ k) (k1 : k ≤ 4 ^ A.length) (m0 : 0 ≤ m) (m1 : m ≤ 4 ^ B.length)
include hA hB k0 k1 m0 m1
end
end Lib

set_option Elab.async false
set_option linter.all false
set_option maxRecDepth 100000
set_option exponentiation.threshold 2000
namespace Lib
open PySem PySem.Spec PyProof.Rows L2 Dd
/-! ### the law's own dots of a window; places; small windows -/
end Lib

set_option Elab.async false
set_option linter.all false
set_option maxRecDepth 100000
set_option exponentiation.threshold 2000
namespace Lib
open PySem PySem.Spec PyProof.Rows L2 Dd
end Lib

set_option Elab.async false
set_option linter.all false
set_option maxRecDepth 100000
set_option exponentiation.threshold 2000
namespace Lib
open PySem PySem.Spec PyProof.Rows L2 Dd
/-! ### first_unlike: plain -/
/-- the first place with a property in a window -/
def IsFst (U : Int → Int → Prop) (l t w h : Int) (o : Option (Int × Int)) : Prop := match o with
  | none => ∀ x y, l ≤ x → x < l + w → t ≤ y → y < t + h → ¬ U x y
  | some p => l ≤ p.1 ∧ p.1 < l + w ∧ t ≤ p.2 ∧ p.2 < t + h ∧ U p.1 p.2 ∧ ∀ x y, l ≤ x → x < l + w → t ≤ y → y < t + h → U x y → p.2 < y ∨ (p.2 = y ∧ p.1 ≤ x)
theorem IsFst.uniq {U : Int → Int → Prop} {l t w h : Int} {o o' : Option (Int × Int)} (a : IsFst U l t w h o) (b : IsFst U l t w h o') : o = o' := by
  cases o with
  | none =>
    cases o' with
    | none => rfl
    | some q => exact (a q.1 q.2 b.1 b.2.1 b.2.2.1 b.2.2.2.1 b.2.2.2.2.1).elim
  | some p =>
    cases o' with
    | none => exact (b p.1 p.2 a.1 a.2.1 a.2.2.1 a.2.2.2.1 a.2.2.2.2.1).elim
    | some q =>
      obtain ⟨a1, a2, a3, a4, a5, a6⟩ := a
      obtain ⟨b1, b2, b3, b4, b5, b6⟩ := b
      have i := a6 q.1 q.2 b1 b2 b3 b4 b5
      have j := b6 p.1 p.2 a1 a2 a3 a4 a5
      exact congrArg some (Prod.ext (by omega) (by omega))
section
variable {A B : List (List Int)} (hA : LvOk A) (hB : LvOk B) {k m : Int} (k0 : 0 ≤ k) (k1 : k ≤ 4 ^ A.length) (m0 : 0 ≤ m) (m1 : m ≤ 4 ^ B.length)
include hA hB k0 k1 m0 m1
end
section
variable {A B : List (List Int)} (hA : LvOk A) (hB : LvOk B) {k m : Int} (k0 : 0 ≤ k) (k1 : k ≤ 4 ^ A.length) (m0 : 0 ≤ m) (m1 : m ≤ 4 ^ B.length)
include hA hB k0 k1 m0 m1
end
end Lib

set_option Elab.async false
set_option linter.all false
set_option maxRecDepth 100000
set_option exponentiation.threshold 2000
set_option maxHeartbeats 2000000
namespace Lib
open PySem PySem.Spec PyProof.Rows L2 Dd
/-! the names of exceptions, told in another sequence (_law_class of k34) -/
/-! values that are none, as the laws list them -/
end Lib

set_option Elab.async false
set_option linter.all false
set_option maxRecDepth 100000
set_option maxHeartbeats 2000000
namespace Dd
open PySem PySem.Spec PyProof.Rows L2
end Dd
namespace Lib
open PySem PySem.Spec PyProof.Rows L2 Dd
end Lib

set_option Elab.async false
set_option linter.all false
set_option maxRecDepth 100000
set_option exponentiation.threshold 2000
namespace Lib
open PySem PySem.Spec PyProof.Rows L2 Dd
/-! ### nth_of: the walk, two searches by halving -/
section
variable {ls : List (List Int)} {k : Int}
/-- the dot with a number: so many ahead of it -/
def IsDot (ls : List (List Int)) (k l t w h n : Int) (p : Int × Int) : Prop :=
  l ≤ p.1 ∧ p.1 < l + w ∧ t ≤ p.2 ∧ p.2 < t + h ∧ cnt ls k l t w (p.2 - t) + cnt ls k l p.2 (p.1 - l) 1 = n ∧ thr ls p.1 p.2 < k
end
end Lib

set_option Elab.async false
set_option linter.all false
set_option maxRecDepth 100000
set_option exponentiation.threshold 2000
namespace Lib
open PySem PySem.Spec PyProof.Rows L2 Dd
/-! ### the first place of a listing -/
theorem IsFst.congr {U V : Int → Int → Prop} (e : ∀ x y, U x y ↔ V x y) {l t w h : Int} {o : Option (Int × Int)} (a : IsFst U l t w h o) : IsFst V l t w h o := by
  have : U = V := funext fun x => funext fun y => propext (e x y)
  rw [← this]; exact a
section
variable {A B : List (List Int)} (hA : LvOk A) (hB : LvOk B) {k m : Int} (k0 : 0 ≤ k) (k1 : k ≤ 4 ^ A.length) (m0 : 0 ≤ m) (m1 : m ≤ 4 ^ B.length)
include hA hB k0 k1 m0 m1
end
end Lib

set_option Elab.async false
set_option linter.all false
set_option maxRecDepth 100000
set_option exponentiation.threshold 2000
namespace Lib
open PySem PySem.Spec PyProof.Rows L2 Dd
section
variable {ls : List (List Int)} {k l t w h n : Int}
def NthOk (ls : List (List Int)) (k l t w h n : Int) : Option (Int × Int) → Prop
  | none => cnt ls k l t w h ≤ n
  | some p => IsDot ls k l t w h n p
/-- the dots ahead of a place -/
def ahd (ls : List (List Int)) (k l t w : Int) (p : Int × Int) : Int := cnt ls k l t w (p.2 - t) + cnt ls k l p.2 (p.1 - l) 1
theorem dot_lt (hp : Lvs ls) (k0 : 0 ≤ k) (k1 : k ≤ 4 ^ ls.length) {p q : Int × Int} (a1 : l ≤ p.1) (a2 : p.1 < l + w) (a3 : t ≤ p.2) (hd : thr ls p.1 p.2 < k) (b1 : l ≤ q.1) (hlt : p.2 < q.2 ∨ (p.2 = q.2 ∧ p.1 < q.1)) : ahd ls k l t w p < ahd ls k l t w q := by
  unfold ahd
  have one : cnt ls k l p.2 (p.1 - l + 1) 1 = cnt ls k l p.2 (p.1 - l) 1 + 1 := by
    have := cnt_wide ls k l p.2 (p.1 - l) 1 1
    rw [cnt_one hp k0 k1, show l + (p.1 - l) = p.1 by omega, if_pos hd] at this
    omega
  rcases hlt with c | ⟨c, d⟩
  · have e1 := cnt_high ls k l t w (p.2 - t) 1
    have e2 := cnt_sub hp k0 k1 (w := p.1 - l + 1) (w' := w) (h := 1) (h' := 1) (by omega) (by decide) (by omega) (by decide) l p.2
    have e3 := cnt_sub hp k0 k1 (w := w) (w' := w) (h := p.2 - t + 1) (h' := q.2 - t) (by omega) (by omega) (by omega) (by omega) l t
    have e4 := cnt_nn hp k0 k1 (w := q.1 - l) (h := 1) (by omega) (by decide) l q.2
    rw [show t + (p.2 - t) = p.2 by omega] at e1
    omega
  · rw [← c]
    have e2 := cnt_sub hp k0 k1 (w := p.1 - l + 1) (w' := q.1 - l) (h := 1) (h' := 1) (by omega) (by decide) (by omega) (by decide) l p.2
    omega
theorem ahd_lt (hp : Lvs ls) (k0 : 0 ≤ k) (k1 : k ≤ 4 ^ ls.length) {p : Int × Int} (a1 : l ≤ p.1) (a2 : p.1 < l + w) (a3 : t ≤ p.2) (a4 : p.2 < t + h) (hd : thr ls p.1 p.2 < k) : ahd ls k l t w p < cnt ls k l t w h := by
  have one : cnt ls k l p.2 (p.1 - l + 1) 1 = cnt ls k l p.2 (p.1 - l) 1 + 1 := by
    have := cnt_wide ls k l p.2 (p.1 - l) 1 1
    rw [cnt_one hp k0 k1, show l + (p.1 - l) = p.1 by omega, if_pos hd] at this
    omega
  have e1 := cnt_high ls k l t w (p.2 - t) 1
  have e2 := cnt_sub hp k0 k1 (w := p.1 - l + 1) (w' := w) (h := 1) (h' := 1) (by omega) (by decide) (by omega) (by decide) l p.2
  have e3 := cnt_sub hp k0 k1 (w := w) (w' := w) (h := p.2 - t + 1) (h' := h) (by omega) (by omega) (by omega) (by omega) l t
  rw [show t + (p.2 - t) = p.2 by omega] at e1
  unfold ahd
  omega
theorem NthOk.uniq (hp : Lvs ls) (k0 : 0 ≤ k) (k1 : k ≤ 4 ^ ls.length) {o o' : Option (Int × Int)} (a : NthOk ls k l t w h n o) (b : NthOk ls k l t w h n o') : o = o' := by
  cases o with
  | none =>
    cases o' with
    | none => rfl
    | some q =>
      obtain ⟨b1, b2, b3, b4, b5, b6⟩ := b
      have := ahd_lt hp k0 k1 b1 b2 b3 b4 b6
      have a : cnt ls k l t w h ≤ n := a
      unfold ahd at this
      omega
  | some p =>
    obtain ⟨a1, a2, a3, a4, a5, a6⟩ := a
    cases o' with
    | none =>
      have := ahd_lt hp k0 k1 a1 a2 a3 a4 a6
      have b : cnt ls k l t w h ≤ n := b
      unfold ahd at this
      omega
    | some q =>
      obtain ⟨b1, b2, b3, b4, b5, b6⟩ := b
      have i : ¬ (p.2 < q.2 ∨ (p.2 = q.2 ∧ p.1 < q.1)) := fun c => by
        have := dot_lt hp k0 k1 (l := l) (t := t) (w := w) a1 a2 a3 a6 b1 c
        unfold ahd at this
        omega
      have j : ¬ (q.2 < p.2 ∨ (q.2 = p.2 ∧ q.1 < p.1)) := fun c => by
        have := dot_lt hp k0 k1 (l := l) (t := t) (w := w) b1 b2 b3 b6 a1 c
        unfold ahd at this
        omega
      exact congrArg some (Prod.ext (by omega) (by omega))
end
end Lib

set_option Elab.async false
set_option linter.all false
set_option maxRecDepth 100000
set_option exponentiation.threshold 2000
namespace Lib
open PySem PySem.Spec PyProof.Rows L2 Dd
/-! ### screens one upon the other -/
section
variable {a b : List (List Int)} (ha : LvOk a) (hb : LvOk b)
include ha hb
theorem app_lvs : Lvs (a ++ b) := fun l hl => (List.mem_append.mp hl).elim (ha.2.2 l) (hb.2.2 l)
/-- the first screen's shade on both -/
theorem st_thr {k : Int} (x y : Int) : thr (a ++ b) x y < k * 4 ^ b.length ↔ thr a x y < k := by
  have fb := four_pos b.length
  obtain ⟨t0, t1⟩ := thr_bd (x / 2 ^ a.length) (y / 2 ^ a.length) hb.2.2
  rw [thr_app]
  constructor
  · intro h
    refine Classical.byContradiction fun z => ?_
    have := Int.mul_le_mul_of_nonneg_right (show k ≤ thr a x y by omega) (Int.le_of_lt fb)
    omega
  · intro h
    have := Int.mul_le_mul_of_nonneg_right (show thr a x y + 1 ≤ k by omega) (Int.le_of_lt fb)
    rw [Int.add_mul, Int.one_mul] at this
    omega
section
variable {k : Int} (k0 : 0 ≤ k) (k1 : k ≤ 4 ^ a.length)
include k0 k1
theorem st_bd : 0 ≤ k * 4 ^ b.length ∧ k * 4 ^ b.length ≤ 4 ^ (a ++ b).length := by
  have fb := four_pos b.length
  rw [List.length_append, Int.pow_add]
  exact ⟨Int.mul_nonneg k0 (Int.le_of_lt fb), Int.mul_le_mul_of_nonneg_right k1 (Int.le_of_lt fb)⟩
theorem st_cnt {w h : Int} (hw : 0 ≤ w) (hh : 0 ≤ h) (l t : Int) : cnt (a ++ b) (k * 4 ^ b.length) l t w h = cnt a k l t w h := by
  obtain ⟨b0, b1⟩ := st_bd ha hb k0 k1
  exact cnt_same (app_lvs ha hb) ha.2.2 b0 b1 k0 k1 (fun x y => st_thr ha hb x y) hw hh l t
end
end
end Lib

set_option Elab.async false
set_option linter.all false
set_option maxRecDepth 100000
set_option exponentiation.threshold 2000
namespace Lib
open PySem PySem.Spec PyProof.Rows L2 Dd
section
variable {ls : List (List Int)} {k : Int} {j : Nat} {l t w h : Int}
end
section
variable {ls : List (List Int)} {k : Int}
end
end Lib

set_option Elab.async false
set_option linter.all false
set_option maxRecDepth 100000
set_option exponentiation.threshold 2000
namespace Lib
open PySem PySem.Spec PyProof.Rows L2 Dd
/-! ### counting by digits: the plain law of tally -/
section
variable {K : Type} [DecidableEq K]
/-- d[k] = d.get(k, 0) + v -/
def tAdd : List (K × Int) → K → Int → List (K × Int)
  | [], k, v => [(k, v)]
  | (j, u) :: r, k, v => if j = k then (j, u + v) :: r else (j, u) :: tAdd r k v
def tKeys (d : List (K × Int)) : List K := d.map Prod.fst
theorem tAdd_keys (k : K) (v : Int) : ∀ d : List (K × Int), tKeys (tAdd d k v) = if k ∈ tKeys d then tKeys d else tKeys d ++ [k]
  | [] => by simp [tAdd, tKeys]
  | (j, u) :: r => by
    unfold tAdd
    by_cases h : j = k
    · rw [if_pos h, if_pos (by subst h; simp [tKeys])]; rfl
    · rw [if_neg h]
      have ih := tAdd_keys k v r
      have ek : tKeys ((j, u) :: r) = j :: tKeys r := rfl
      rw [ek]
      show j :: tKeys (tAdd r k v) = _
      rw [ih]
      by_cases m : k ∈ tKeys r
      · rw [if_pos m, if_pos (List.mem_cons_of_mem _ m)]
      · rw [if_neg m, if_neg (fun z => by
          rcases List.mem_cons.mp z with z | z
          · exact h z.symm
          · exact m z)]; rfl
theorem tAdd_nodup {k : K} {v : Int} {d : List (K × Int)} (h : (tKeys d).Nodup) : (tKeys (tAdd d k v)).Nodup := by
  rw [tAdd_keys]
  split
  · exact h
  · rename_i m
    exact List.nodup_append.mpr ⟨h, by simp, fun a ha b hb e => by
      rw [List.mem_singleton.mp hb] at e
      exact m (e ▸ ha)⟩
end
/-! sums over digits -/
/-! ### states by digits -/
section
variable {K : Type} [DecidableEq K]
/-- later[key] = later.get(key, 0) + times, where the key may be -/
def tPut (d : List (K × Int)) (o : Option K) (v : Int) : List (K × Int) := match o with
  | some k => tAdd d k v
  | none => d
theorem tPut_nodup {o : Option K} {v : Int} {d : List (K × Int)} (h : (tKeys d).Nodup) : (tKeys (tPut d o v)).Nodup := by
  cases o with
  | none => exact h
  | some k => exact tAdd_nodup h
/-- one more digit of x and of y -/
def tFour (st : K → Int → Int → Option K) (acc : List (K × Int)) (p : K × Int) : List (K × Int) :=
  tPut (tPut (tPut (tPut acc (st p.1 0 0) p.2) (st p.1 0 1) p.2) (st p.1 1 0) p.2) (st p.1 1 1) p.2
def tStep (st : K → Int → Int → Option K) (d : List (K × Int)) : List (K × Int) := d.foldl (tFour st) []
/-- the states behind so many digits -/
def tRun (st : Nat → K → Int → Int → Option K) (k0 : K) : Nat → List (K × Int)
  | 0 => [(k0, 1)]
  | s + 1 => tStep (st s) (tRun st k0 s)
end
end Lib

set_option Elab.async false
set_option linter.all false
set_option maxRecDepth 100000
set_option exponentiation.threshold 2000
namespace Lib
open PySem PySem.Spec PyProof.Rows L2 Dd
/-! ### one look: carries and the kind so far -/
def cmpD (n d : Int) : Int := if n = d then 2 else if n < d then 1 else 0
/-- 1 for a dot, 0 for none, 2 for the same -/
def kdL : List (List Int) → List Int → Int → Int → Int
  | lv :: ls, d :: ds, X, Y => if dg lv X Y = d then kdL ls ds (X / 2) (Y / 2) else cmpD (dg lv X Y) d
  | _, _, _, _ => 2
/-! carries -/
/-! ### one look, step by step -/
structure Look where
  lv : List (List Int)
  dg : List Int
  rt : Int
  sh : Int
/-- step_of for one look -/
def lkStep (s : Nat) (L : Look) (bx b : Int) (q : Int × Int × Int) : Int × Int × Int :=
  ((bx + L.rt / 2 ^ s % 2 + q.1) / 2, (b + L.sh / 2 ^ s % 2 + q.2.1) / 2,
    if q.2.2 = 2 ∧ s < L.lv.length then cmpD ((L.lv.getD s []).getD ((bx + L.rt / 2 ^ s % 2 + q.1) % 2 + 2 * ((b + L.sh / 2 ^ s % 2 + q.2.1) % 2)).toNat 0) (L.dg.getD s 0) else q.2.2)
/-! ### less so far -/
def lessF (v b : Int) (f : Bool) : Bool := if v = b then f else decide (v < b)
end Lib

set_option Elab.async false
set_option linter.all false
set_option maxRecDepth 100000
set_option exponentiation.threshold 2000
namespace Lib
open PySem PySem.Spec PyProof.Rows L2 Dd
/-! ### all looks: tally -/
abbrev KT := (List Int × List Int × List Int) × Bool × Bool
/-- the looks' states behind one digit more -/
def stepList (s : Nat) (bx b : Int) : List Look → List Int → List Int → List Int → List (Int × Int × Int)
  | L :: Ls, a :: as, d :: ds, k :: ks => lkStep s L bx b (a, d, k) :: stepList s bx b Ls as ds ks
  | _, _, _, _ => []
def enc3 (qs : List (Int × Int × Int)) : List Int × List Int × List Int := (qs.map fun q => q.1, qs.map fun q => q.2.1, qs.map fun q => q.2.2)
/-- whether kindsK may become what is wanted -/
def mayK : Option (List Int) → List Int → Bool
  | none, _ => true
  | some ws, ks => (ks.zip ws).all fun p => decide (p.1 = 2 ∨ p.1 = p.2)
def stepK (looks : List Look) (ws : Option (List Int)) (w h : Int) (s : Nat) (κ : KT) (bx b : Int) : Option KT :=
  let q := enc3 (stepList s bx b looks κ.1.1 κ.1.2.1 κ.1.2.2)
  if mayK ws q.2.2 = true then some (q, lessF bx (w / 2 ^ s % 2) κ.2.1, lessF b (h / 2 ^ s % 2) κ.2.2) else none
def kindsK (looks : List Look) (s : Nat) (x y : Int) : List Int := looks.map fun L => kdL (L.lv.take s) L.dg (x + L.rt) (y + L.sh)
/-! ### what is found -/
def b2 (b : Bool) : Int := if b = true then 1 else 0
end Lib

set_option Elab.async false
set_option linter.all false
set_option maxRecDepth 100000
set_option exponentiation.threshold 2000
namespace Lib
open PySem PySem.Spec PyProof.Rows L2 Dd
/-! ### the walk of tally -/
/-- what a look must be -/
structure LkOk (L : Look) : Prop where
  p : Lvs L.lv
  n : L.lv.length ≤ 50
  d : L.lv.length = L.dg.length
end Lib

set_option Elab.async false
set_option linter.all false
set_option maxRecDepth 100000
set_option exponentiation.threshold 2000
namespace Lib
open PySem PySem.Spec PyProof.Rows L2 Dd
/-! ### the states as a dict's keys -/
/-! a dict, as a list of pairs -/
section
variable {K : Type} [DecidableEq K] {enc : K → D} {nk : K → NestedKey}
end
/-! such dicts in a cell -/
section
variable {K : Type} [DecidableEq K] {enc : K → D} {nk : K → NestedKey} {X J : Store} {sl : List (Option R)} {S : List (K × Int)} {k : K} {v : Int}
end
end Lib

set_option Elab.async false
set_option linter.all false
set_option maxRecDepth 100000
set_option exponentiation.threshold 2000
namespace Lib
open PySem PySem.Spec PyProof.Rows L2 Dd
/-! ### how many states there are -/
/-- a state of n looks -/
structure KIn (n : Nat) (κ : KT) : Prop where
  la : κ.1.1.length = n
  ld : κ.1.2.1.length = n
  lk : κ.1.2.2.length = n
  ba : ∀ v ∈ κ.1.1, 0 ≤ v ∧ v < 2
  bd : ∀ v ∈ κ.1.2.1, 0 ≤ v ∧ v < 2
  bk : ∀ v ∈ κ.1.2.2, 0 ≤ v ∧ v < 3
end Lib

set_option Elab.async false
set_option linter.all false
set_option maxRecDepth 100000
set_option exponentiation.threshold 2000
namespace Lib
open PySem PySem.Spec PyProof.Rows L2 Dd
/-! ### tally -/
theorem stepList_len (s : Nat) (bx b : Int) : ∀ {looks : List Look} {a d k : List Int}, a.length = looks.length → d.length = looks.length → k.length = looks.length → (stepList s bx b looks a d k).length = looks.length
  | [], _, _, _, _, _, _ => rfl
  | L :: Ls, a :: as, d :: ds, k :: ks, h1, h2, h3 => by
    show (_ :: stepList s bx b Ls as ds ks).length = _
    rw [List.length_cons, stepList_len s bx b (by simpa using h1) (by simpa using h2) (by simpa using h3)]; rfl
  | L :: Ls, [], _, _, h1, _, _ => by simp at h1
  | L :: Ls, _ :: _, [], _, _, h2, _ => by simp at h2
  | L :: Ls, _ :: _, _ :: _, [], _, _, h3 => by simp at h3
theorem tPut_keys {S : List (KT × Int)} {o : Option KT} {v : Int} {κ : KT} (h : κ ∈ tKeys (tPut S o v)) : κ ∈ tKeys S ∨ o = some κ := by
  cases o with
  | none => exact .inl h
  | some k =>
    have h : κ ∈ tKeys (tAdd S k v) := h
    rw [tAdd_keys] at h
    split at h
    · exact .inl h
    · rcases List.mem_append.mp h with h | h
      · exact .inl h
      · exact .inr (by rw [List.mem_singleton.mp h])
theorem stepList_in {s : Nat} {bx b : Int} (x0 : 0 ≤ bx) (x1 : bx ≤ 1) (y0 : 0 ≤ b) (y1 : b ≤ 1) : ∀ {looks : List Look} {a d k : List Int}, (∀ L ∈ looks, LkOk L) → (∀ v ∈ a, 0 ≤ v ∧ v < 2) → (∀ v ∈ d, 0 ≤ v ∧ v < 2) → (∀ v ∈ k, 0 ≤ v ∧ v < 3) →
    ∀ q ∈ stepList s bx b looks a d k, (0 ≤ q.1 ∧ q.1 < 2) ∧ (0 ≤ q.2.1 ∧ q.2.1 < 2) ∧ (0 ≤ q.2.2 ∧ q.2.2 < 3)
  | [], _, _, _, _, _, _, _, q, h => by cases h
  | L :: Ls, [], _, _, _, _, _, _, q, h => by cases h
  | L :: Ls, _ :: _, [], _, _, _, _, _, q, h => by cases h
  | L :: Ls, _ :: _, _ :: _, [], _, _, _, _, q, h => by cases h
  | L :: Ls, a :: as, d :: ds, k :: ks, ok, ha, hd, hk, q, h => by
    have h : q ∈ lkStep s L bx b (a, d, k) :: stepList s bx b Ls as ds ks := h
    rcases List.mem_cons.mp h with rfl | h
    · have va := ha a (by simp)
      have vd := hd d (by simp)
      have vk := hk k (by simp)
      unfold lkStep
      simp only
      refine ⟨by omega, by omega, ?_⟩
      split
      · unfold cmpD
        split
        · omega
        · split <;> omega
      · exact vk
    · exact stepList_in x0 x1 y0 y1 (fun L hL => ok L (by simp [hL])) (fun v hv => ha v (by simp [hv])) (fun v hv => hd v (by simp [hv])) (fun v hv => hk v (by simp [hv])) q h
theorem stepK_in {mv : List Look} (ok : ∀ L ∈ mv, LkOk L) {ws : Option (List Int)} {w h : Int} {s : Nat} {κ μ : KT} (hκ : KIn mv.length κ) {x y : Int} (x0 : 0 ≤ x) (x1 : x ≤ 1) (y0 : 0 ≤ y) (y1 : y ≤ 1) (e : stepK mv ws w h s κ x y = some μ) : KIn mv.length μ := by
  unfold stepK at e
  simp only at e
  split at e
  · cases e
    have ll := stepList_len s x y hκ.la hκ.ld hκ.lk
    have li := stepList_in (s := s) x0 x1 y0 y1 ok hκ.ba hκ.bd hκ.bk
    refine ⟨?_, ?_, ?_, fun v hv => ?_, fun v hv => ?_, fun v hv => ?_⟩
    · show (List.map _ _).length = _; rw [List.length_map, ll]
    · show (List.map _ _).length = _; rw [List.length_map, ll]
    · show (List.map _ _).length = _; rw [List.length_map, ll]
    · obtain ⟨q, hq, rfl⟩ := List.mem_map.mp hv; exact (li q hq).1
    · obtain ⟨q, hq, rfl⟩ := List.mem_map.mp hv; exact (li q hq).2.1
    · obtain ⟨q, hq, rfl⟩ := List.mem_map.mp hv; exact (li q hq).2.2
  · cases e
/-- the states so far: apart, each of n looks -/
structure StsOk (n : Nat) (S : List (KT × Int)) : Prop where
  nd : (tKeys S).Nodup
  ki : ∀ κ ∈ tKeys S, KIn n κ
theorem StsOk.put {mv : List Look} (ok : ∀ L ∈ mv, LkOk L) {ws : Option (List Int)} {w h : Int} {s : Nat} {κ : KT} (hκ : KIn mv.length κ) {x y : Int} (x0 : 0 ≤ x) (x1 : x ≤ 1) (y0 : 0 ≤ y) (y1 : y ≤ 1) {S : List (KT × Int)} {t : Int} (so : StsOk mv.length S) : StsOk mv.length (tPut S (stepK mv ws w h s κ x y) t) :=
  ⟨tPut_nodup so.nd, fun μ hμ => (tPut_keys hμ).elim (so.ki μ) fun e => stepK_in ok hκ x0 x1 y0 y1 e⟩
theorem StsOk.four {mv : List Look} (ok : ∀ L ∈ mv, LkOk L) {ws : Option (List Int)} {w h : Int} {s : Nat} {κ : KT} (hκ : KIn mv.length κ) {S : List (KT × Int)} {t : Int} (so : StsOk mv.length S) : StsOk mv.length (tFour (stepK mv ws w h s) S (κ, t)) :=
  (((so.put ok hκ (Int.le_refl 0) (by decide) (Int.le_refl 0) (by decide)).put ok hκ (Int.le_refl 0) (by decide) (by decide) (Int.le_refl 1)).put ok hκ (by decide) (Int.le_refl 1) (Int.le_refl 0) (by decide)).put ok hκ (by decide) (Int.le_refl 1) (by decide) (Int.le_refl 1)
/-! how often: at most 4 ** digits -/
section
variable {K : Type} [DecidableEq K]
def Pos0 (S : List (K × Int)) : Prop := ∀ p ∈ S, 0 ≤ p.2
theorem Pos0.add {v : Int} (hv : 0 ≤ v) (k : K) : ∀ {S : List (K × Int)}, Pos0 S → Pos0 (tAdd S k v)
  | [], _ => fun p hp => by rw [List.mem_singleton.mp hp]; exact hv
  | (j, u) :: S, h => by
    have hu : 0 ≤ u := h (j, u) (by simp)
    unfold tAdd
    split
    · intro p hp
      rcases List.mem_cons.mp hp with e | hp
      · rw [e]; show 0 ≤ u + v; omega
      · exact h p (by simp [hp])
    · intro p hp
      rcases List.mem_cons.mp hp with e | hp
      · rw [e]; exact hu
      · exact Pos0.add hv k (fun q hq => h q (by simp [hq])) p hp
theorem Pos0.put {v : Int} (hv : 0 ≤ v) {o : Option K} {S : List (K × Int)} (h : Pos0 S) : Pos0 (tPut S o v) := by
  cases o with
  | none => exact h
  | some k => exact Pos0.add hv k h
theorem Pos0.fold {st : K → Int → Int → Option K} : ∀ {T S : List (K × Int)}, Pos0 T → Pos0 S → Pos0 (T.foldl (tFour st) S)
  | [], _, _, h => h
  | p :: T, S, hT, h => by
    have hp := hT p (by simp)
    exact Pos0.fold (T := T) (fun q hq => hT q (by simp [hq])) ((((h.put hp).put hp).put hp).put hp)
theorem Pos0.run (st : Nat → K → Int → Int → Option K) (k0 : K) : ∀ s, Pos0 (tRun st k0 s)
  | 0 => fun p hp => by rw [List.mem_singleton.mp hp]; show (0 : Int) ≤ 1; decide
  | s + 1 => Pos0.fold (Pos0.run st k0 s) fun p hp => by simp at hp
end
end Lib

set_option Elab.async false
set_option linter.all false
set_option maxRecDepth 100000
set_option exponentiation.threshold 2000
namespace Lib
open PySem PySem.Spec PyProof.Rows L2 Dd
/-! ### tally, the whole -/
/-- what is found: apart, each of n truths -/
structure FndOk (n : Nat) (F : List (List Bool × Int)) : Prop where
  nd : (tKeys F).Nodup
  ln : ∀ bs ∈ tKeys F, bs.length = n
theorem FndOk.add {n : Nat} {F : List (List Bool × Int)} (h : FndOk n F) {bs : List Bool} (hb : bs.length = n) (v : Int) : FndOk n (tAdd F bs v) :=
  ⟨tAdd_nodup h.nd, fun q hq => by
    rw [tAdd_keys] at hq
    split at hq
    · exact h.ln q hq
    · rcases List.mem_append.mp hq with hq | hq
      · exact h.ln q hq
      · rw [List.mem_singleton.mp hq]; exact hb⟩
end Lib

set_option Elab.async false
set_option linter.all false
set_option maxRecDepth 100000
set_option exponentiation.threshold 2000
namespace Lib
open PySem PySem.Spec PyProof.Rows L2 Dd
/-! ### plates and conditions -/
structure Plt where
  ls : List (List Int)
  k : Int
  x : Int
  y : Int
structure PltOk (P : Plt) : Prop where
  p : Lvs P.ls
  n1 : 1 ≤ P.ls.length
  n : P.ls.length ≤ 50
  k0 : 0 ≤ P.k
  k1 : P.k ≤ 4 ^ P.ls.length
  x0 : -(1000000000000000000000000000000 : Int) ≤ P.x
  x1 : P.x ≤ (1000000000000000000000000000000 : Int)
  y0 : -(1000000000000000000000000000000 : Int) ≤ P.y
  y1 : P.y ≤ (1000000000000000000000000000000 : Int)
structure Cnd where
  n : Nat
  x : Int
  y : Int
  b : Bool
structure CndOk (m : Nat) (c : Cnd) : Prop where
  n : c.n < m
  x0 : -(1000000000000000000000000000000 : Int) ≤ c.x
  x1 : c.x ≤ (1000000000000000000000000000000 : Int)
  y0 : -(1000000000000000000000000000000 : Int) ≤ c.y
  y1 : c.y ≤ (1000000000000000000000000000000 : Int)
end Lib

set_option Elab.async false
set_option linter.all false
set_option maxRecDepth 100000
set_option exponentiation.threshold 2000
namespace Lib
open PySem PySem.Spec PyProof.Rows L2 Dd
/-! ### count_matches -/
end Lib

set_option Elab.async false
set_option linter.all false
set_option maxRecDepth 100000
set_option exponentiation.threshold 2000
namespace Lib
open PySem PySem.Spec PyProof.Rows L2 Dd
/-! ### the law's plates and conditions -/
end Lib

set_option Elab.async false
set_option linter.all false
set_option maxRecDepth 100000
set_option exponentiation.threshold 2000
namespace Lib
open PySem PySem.Spec PyProof.Rows L2 Dd
/-! ### the law's plates and conditions, drawn -/
section
variable {st J : Store} {n : Nat} {c a x y z : Cell}
end
end Lib

set_option Elab.async false
set_option linter.all false
set_option maxRecDepth 100000
set_option exponentiation.threshold 2000
namespace Lib
open PySem PySem.Spec PyProof.Rows L2 Dd
end Lib

set_option Elab.async false
set_option linter.all false
set_option maxRecDepth 100000
set_option exponentiation.threshold 2000
namespace Lib
open PySem PySem.Spec PyProof.Rows L2 Dd
/-! ### what decides -/
def dl (ls : List (List Int)) : Nat → List Sn → List (Int × Int)
  | _, [] => []
  | c, p :: r => if p.2 = true then (0 - thr ls p.1.1 p.1.2, (c : Int)) :: dl ls (c + 1) r else dl ls (c + 1) r
def bl (ls : List (List Int)) : Nat → List Sn → List (Int × Int)
  | _, [] => []
  | c, p :: r => if p.2 = true then bl ls (c + 1) r else (thr ls p.1.1 p.1.2, (c : Int)) :: bl ls (c + 1) r
/-- the first contradiction -/
def bad (ls : List (List Int)) (L : List Sn) (i : Nat) : Bool := decide ((bnds ls (L.take (i + 1))).2 < (bnds ls (L.take (i + 1))).1)
section
variable {ls : List (List Int)} {L : List Sn} (h50 : ls.length ≤ 50) (hp : Lvs ls) (hl : 1 ≤ L.length) (hl2 : L.length ≤ 400) (hL : ∀ p ∈ L, SnOk p)
include h50 hp hl hl2 hL
end
end Lib

set_option Elab.async false
set_option linter.all false
set_option maxRecDepth 100000
set_option exponentiation.threshold 2000
namespace Lib
open PySem PySem.Spec PyProof.Rows L2 Dd
/-! ### plates and conditions as data of their own -/
section
variable {α : Type} {g : α → PyData}
end
end Lib

set_option Elab.async false
set_option linter.all false
set_option maxRecDepth 100000
set_option exponentiation.threshold 2000
namespace Lib
open PySem PySem.Spec PyProof.Rows L2 Dd
/-! ### the cells of a law -/
theorem cellsk_len {ns : List Int} {k : Nat} (h : k ≤ 900) : ((ns.take k).map D.int).length + [D.int 0].length ≤ 1000 := by rw [List.length_map, List.length_take]; simp; omega
theorem cellk_at {ns : List Int} {j k : Nat} {d : D} (h : ((ns.take k).map D.int ++ [D.int 0])[j]? = some d) : ∃ i : Int, d = .int i := by
  have : (ns.take k).map D.int ++ [D.int 0] = (ns.take k ++ [0]).map D.int := by rw [List.map_append]; rfl
  rw [this, List.getElem?_map] at h
  cases q : (ns.take k ++ [0])[j]? with
  | none => rw [q] at h; cases h
  | some i => rw [q] at h; cases h; exact ⟨i, rfl⟩
theorem cutD_k4 {ns : List Int} : Dd.cutD (ns.map D.int) none (some 4) = (ns.take 4).map D.int := by rw [List.map_take]; exact cutD_to (n := 4)
/-! ### plates and conditions without their first entry -/
/-! ### sums of truths -/
end Lib

set_option Elab.async false
set_option linter.all false
set_option maxRecDepth 100000
set_option exponentiation.threshold 2000
namespace Lib
open PySem PySem.Spec PyProof.Rows L2 Dd
/-! ### sums over periods -/
/-! ### the greatest depth -/
/-! ### counts are the same in each period, and of what is moved -/
/-! ### bounds of counts -/
end Lib
namespace Lib
open PySem PySem.Spec PyProof.Rows L2 Dd
/-! ### sums that are listed -/
end Lib

set_option Elab.async false
set_option linter.all false
set_option maxRecDepth 100000
set_option exponentiation.threshold 2000
namespace Lib
open PySem PySem.Spec PyProof.Rows L2 Dd
/-! ### fractions in lowest terms -/
/-- by halving; the lower number is 2 ^ n -/
def low : Nat → Nat → Nat × Nat
  | 0, m => (m, 1)
  | n + 1, m => if m % 2 = 0 then low n (m / 2) else (m, 2 ^ (n + 1))
/-! ### the longest period -/
end Lib
namespace Lib
open PySem PySem.Spec PyProof.Rows L2 Dd
/-! ### one condition alone; plates moved -/
end Lib

set_option Elab.async false
set_option linter.all false
set_option maxRecDepth 100000
set_option exponentiation.threshold 2000
namespace Lib
open PySem PySem.Spec PyProof.Rows L2 Dd
/-! ### conditions on one screen -/
def cE (x y : Int) (b : Bool) : Cnd := ⟨0, x, y, b⟩
section
variable {ls : List (List Int)} (lok : LvOk ls) {k : Int} (k0 : 0 ≤ k) (k1 : k ≤ 4 ^ ls.length)
include lok k0 k1
end
end Lib
namespace Lib
open PySem PySem.Spec PyProof.Rows L2 Dd
/-! ### sums, set side by side -/
end Lib

set_option Elab.async false
set_option linter.all false
set_option maxRecDepth 100000
set_option exponentiation.threshold 2000
namespace Lib
open PySem PySem.Spec PyProof.Rows L2 Dd
/-! ### inks: the plain part -/
/-! the keys -/
/-! the number of a set -/
/-! the walk -/
end Lib

set_option Elab.async false
set_option linter.all false
set_option maxRecDepth 100000
set_option exponentiation.threshold 2000
namespace Lib
open PySem PySem.Spec PyProof.Rows L2 Dd
/-! ### inks: the walk -/
def setV : Nat → List Bool → List Int
  | _, [] => []
  | k, true :: r => 2 ^ k :: setV (k + 1) r
  | k, false :: r => setV (k + 1) r
def pB : List D → Bool
  | [_, .bl b] => b
  | _ => false
def gB : List D → D
  | [.int i, _] => .int (2 ^ i.toNat)
  | _ => .non
end Lib

set_option Elab.async false
set_option linter.all false
set_option maxRecDepth 100000
set_option exponentiation.threshold 2000
namespace Lib
open PySem PySem.Spec PyProof.Rows L2 Dd
/-! ### inks asked; the second family of plates -/
end Lib

set_option Elab.async false
set_option linter.all false
set_option maxRecDepth 100000
set_option exponentiation.threshold 2000
set_option maxHeartbeats 2000000
namespace Lib
open PySem PySem.Spec PyProof.Rows L2 Dd
/-! plates, refused -/
end Lib

set_option Elab.async false
set_option linter.all false
set_option maxRecDepth 100000
namespace Lib
open PySem PySem.Spec PyProof.Rows L2 Dd
/-! bands and rows, plain -/
abbrev Bd := Nat × Int
def bRows : List Bd → List Int
  | [] => []
  | b :: r => List.replicate b.1 b.2 ++ bRows r
theorem bRows_app : ∀ A B : List Bd, bRows (A ++ B) = bRows A ++ bRows B
  | [], B => rfl
  | a :: A, B => by
    show List.replicate a.1 a.2 ++ bRows (A ++ B) = List.replicate a.1 a.2 ++ bRows A ++ bRows B
    rw [bRows_app A B, List.append_assoc]
def bStep (acc : List Bd) (b : Bd) : List Bd := match acc.getLast? with
  | some l => if l.2 = b.2 then acc.dropLast ++ [(l.1 + b.1, l.2)] else acc ++ [b]
  | none => [b]
def bMrg (L : List Bd) : List Bd := L.foldl bStep []
def Nrm : List Bd → Prop
  | [] => True
  | [b] => 0 < b.1
  | b :: c :: r => 0 < b.1 ∧ b.2 ≠ c.2 ∧ Nrm (c :: r)
theorem Nrm.tail {b : Bd} : ∀ {r : List Bd}, Nrm (b :: r) → Nrm r
  | [], _ => trivial
  | _ :: _, h => h.2.2
theorem Nrm.head {b : Bd} : ∀ {r : List Bd}, Nrm (b :: r) → 0 < b.1
  | [], h => h
  | _ :: _, h => h.1
theorem Nrm.pos : ∀ {B : List Bd}, Nrm B → ∀ b ∈ B, 0 < b.1
  | [], _, b, hb => by cases hb
  | a :: r, h, b, hb => by
    rcases List.mem_cons.mp hb with rfl | hb
    · exact h.head
    · exact Nrm.pos h.tail b hb
theorem Nrm.snoc : ∀ {A : List Bd} {a b : Bd}, Nrm (A ++ [a]) → 0 < b.1 → a.2 ≠ b.2 → Nrm (A ++ [a] ++ [b])
  | [], a, b, h, hb, hn => ⟨h, hn, hb⟩
  | [x], a, b, h, hb, hn => ⟨h.1, h.2.1, h.2.2, hn, hb⟩
  | x :: y :: A, a, b, h, hb, hn => ⟨h.1, h.2.1, Nrm.snoc (A := y :: A) h.2.2 hb hn⟩
theorem Nrm.last : ∀ {A : List Bd} {a : Bd} (k : Nat), Nrm (A ++ [a]) → Nrm (A ++ [(a.1 + k, a.2)])
  | [], a, k, h => Nat.add_pos_left h k
  | [x], a, k, h => ⟨h.1, h.2.1, Nat.add_pos_left h.2.2 k⟩
  | x :: y :: A, a, k, h => ⟨h.1, h.2.1, Nrm.last (A := y :: A) k h.2.2⟩
theorem bStep_ok {acc : List Bd} {b : Bd} (h : Nrm acc) (hb : 0 < b.1) : Nrm (bStep acc b) ∧ bRows (bStep acc b) = bRows acc ++ List.replicate b.1 b.2 := by
  unfold bStep
  rcases List.eq_nil_or_concat acc with rfl | ⟨A, a, rfl⟩
  · exact ⟨hb, by simp [bRows]⟩
  · rw [List.concat_eq_append] at *
    simp only [List.getLast?_concat, List.dropLast_concat]
    by_cases e : a.2 = b.2
    · rw [if_pos e]
      refine ⟨Nrm.last b.1 h, ?_⟩
      rw [bRows_app, bRows_app, List.append_assoc]
      congr 1
      show List.replicate (a.1 + b.1) a.2 ++ [] = (List.replicate a.1 a.2 ++ []) ++ List.replicate b.1 b.2
      rw [List.append_nil, List.append_nil, ← e, List.replicate_append_replicate]
    · rw [if_neg e]
      refine ⟨Nrm.snoc h hb e, ?_⟩
      rw [bRows_app (A ++ [a]) [b]]
      show _ ++ (List.replicate b.1 b.2 ++ []) = _
      rw [List.append_nil]
theorem bFold_ok : ∀ {L acc : List Bd}, Nrm acc → (∀ b ∈ L, 0 < b.1) → Nrm (L.foldl bStep acc) ∧ bRows (L.foldl bStep acc) = bRows acc ++ bRows L
  | [], acc, h, _ => ⟨h, by simp [bRows]⟩
  | b :: L, acc, h, hp => by
    obtain ⟨h1, h2⟩ := bStep_ok h (hp b List.mem_cons_self)
    obtain ⟨h3, h4⟩ := bFold_ok (L := L) h1 fun x hx => hp x (List.mem_cons_of_mem _ hx)
    refine ⟨h3, ?_⟩
    show bRows (L.foldl bStep (bStep acc b)) = _
    rw [h4, h2, List.append_assoc]; rfl
theorem bMrg_ok {L : List Bd} (h : ∀ b ∈ L, 0 < b.1) : Nrm (bMrg L) ∧ bRows (bMrg L) = bRows L := by
  obtain ⟨a, b⟩ := bFold_ok (L := L) (acc := []) trivial h
  exact ⟨a, b⟩
/-- the first row of bands, and how long it stays -/
theorem nrm_uniq : ∀ {A B : List Bd}, Nrm A → Nrm B → bRows A = bRows B → A = B
  | [], [], _, _, _ => rfl
  | [], b :: B, _, h, e => by
    have := h.head
    obtain ⟨k, hk⟩ : ∃ k, b.1 = k + 1 := ⟨b.1 - 1, by omega⟩
    have e : [] = List.replicate b.1 b.2 ++ bRows B := e
    rw [hk, List.replicate_succ] at e
    cases e
  | a :: A, [], h, _, e => by
    have := h.head
    obtain ⟨k, hk⟩ : ∃ k, a.1 = k + 1 := ⟨a.1 - 1, by omega⟩
    have e : List.replicate a.1 a.2 ++ bRows A = [] := e
    rw [hk, List.replicate_succ] at e
    cases e
  | (h, s) :: A, (h', s') :: B, hA, hB, e => by
    have p := hA.head
    have p' := hB.head
    simp only at p p'
    have e : List.replicate h s ++ bRows A = List.replicate h' s' ++ bRows B := e
    have es : s = s' := by
      obtain ⟨k, rfl⟩ : ∃ k, h = k + 1 := ⟨h - 1, by omega⟩
      obtain ⟨k', rfl⟩ : ∃ k, h' = k + 1 := ⟨h' - 1, by omega⟩
      rw [List.replicate_succ, List.replicate_succ, List.cons_append, List.cons_append] at e
      exact (List.cons.inj e).1
    subst es
    have nd : ∀ {A B : List Bd} {k j : Nat}, Nrm ((k, s) :: A) → Nrm ((j, s) :: B) → k < j → List.replicate k s ++ bRows A = List.replicate j s ++ bRows B → False := fun {A B k j} hA hB hk e => by
      have : List.replicate j s = List.replicate k s ++ List.replicate (j - k) s := by rw [List.replicate_append_replicate]; congr 1; omega
      rw [this, List.append_assoc] at e
      have e := List.append_cancel_left e
      obtain ⟨i, hi⟩ : ∃ i, j - k = i + 1 := ⟨j - k - 1, by omega⟩
      rw [hi, List.replicate_succ, List.cons_append] at e
      cases A with
      | nil => cases e
      | cons a A =>
        have pa := hA.tail.head
        obtain ⟨i, hi⟩ : ∃ i, a.1 = i + 1 := ⟨a.1 - 1, by omega⟩
        have e : List.replicate a.1 a.2 ++ bRows A = _ := e
        rw [hi, List.replicate_succ, List.cons_append] at e
        exact hA.2.1 (List.cons.inj e).1.symm
    rcases Nat.lt_trichotomy h h' with hl | rfl | hl
    · exact (nd hA hB hl e).elim
    · rw [nrm_uniq hA.tail hB.tail (List.append_cancel_left e)]
    · exact (nd hB hA hl e.symm).elim
/-- the bands of rows -/
def rle (R : List Int) : List Bd := bMrg (R.map fun s => (1, s))
theorem rle_ok (R : List Int) : Nrm (rle R) ∧ bRows (rle R) = R := by
  obtain ⟨a, b⟩ := bMrg_ok (L := R.map fun s => ((1 : Nat), s)) fun b hb => by
    obtain ⟨s, _, rfl⟩ := List.mem_map.mp hb
    exact Nat.one_pos
  refine ⟨a, b.trans ?_⟩
  clear a b
  induction R with
  | nil => rfl
  | cons s R ih => exact congrArg (List.cons s) ih
theorem rle_of {B : List Bd} (h : Nrm B) : rle (bRows B) = B := nrm_uniq (rle_ok _).1 h (rle_ok _).2
theorem rle_mrg {L : List Bd} (h : ∀ b ∈ L, 0 < b.1) : bMrg L = rle (bRows L) := by
  obtain ⟨a, b⟩ := bMrg_ok h
  rw [← rle_of a, b]
/-- part of bands -/
def bPart (b e : Int) : List Bd → Int → List Bd
  | [], _ => []
  | x :: r, t => (if max b t < min e (t + x.1) then [((min e (t + x.1) - max b t).toNat, x.2)] else []) ++ bPart b e r (t + x.1)
theorem bPart_pos (b e : Int) : ∀ (B : List Bd) (t : Int), ∀ x ∈ bPart b e B t, 0 < x.1
  | [], _, x, hx => by cases hx
  | y :: r, t, x, hx => by
    rcases List.mem_append.mp hx with h | h
    · split at h
      · rcases List.mem_singleton.mp h with rfl
        show 0 < (_ : Int).toNat
        omega
      · cases h
    · exact bPart_pos b e r _ x h
theorem bPart_rows (b e : Int) : ∀ (B : List Bd) (t : Int), bRows (bPart b e B t) = ((bRows B).take (e - t).toNat).drop (b - t).toNat
  | [], t => by simp [bPart, bRows]
  | y :: r, t => by
    unfold bPart
    rw [bRows_app, bPart_rows b e r]
    show _ = ((List.replicate y.1 y.2 ++ bRows r).take (e - t).toNat).drop (b - t).toNat
    rw [List.take_append, List.drop_append, List.take_replicate, List.drop_replicate, List.length_replicate, List.length_replicate]
    congr 1
    · split
      · show List.replicate _ y.2 ++ [] = _
        rw [List.append_nil]
        congr 1
        omega
      · rw [show min (e - t).toNat y.1 - (b - t).toNat = 0 by omega]; rfl
    · have e1 : (e - (t + y.1)).toNat = (e - t).toNat - y.1 := by omega
      rw [e1]
      by_cases h : y.1 ≤ (e - t).toNat
      · congr 1; omega
      · rw [show (e - t).toNat - y.1 = 0 by omega]; simp
def bHgt : List Bd → Int
  | [] => 0
  | x :: r => x.1 + bHgt r
theorem bHgt_rows : ∀ B : List Bd, bHgt B = (bRows B).length
  | [] => rfl
  | x :: r => by
    show (x.1 : Int) + bHgt r = ((List.replicate x.1 x.2 ++ bRows r).length : Int)
    rw [bHgt_rows r, List.length_append, List.length_replicate]; omega
/-- the ink of bands, of rows -/
def inkB (ls : List (List Int)) (w : Int) : List Bd → Int → Int
  | [], _ => 0
  | x :: r, t => cnt ls x.2 0 t w x.1 + inkB ls w r (t + x.1)
def inkR (ls : List (List Int)) (w : Int) : List Int → Int → Int
  | [], _ => 0
  | s :: r, t => cnt ls s 0 t w 1 + inkR ls w r (t + 1)
theorem inkR_app (ls : List (List Int)) (w : Int) : ∀ (A B : List Int) (t : Int), inkR ls w (A ++ B) t = inkR ls w A t + inkR ls w B (t + A.length)
  | [], B, t => by simp [inkR]
  | a :: A, B, t => by
    show cnt ls a 0 t w 1 + inkR ls w (A ++ B) (t + 1) = cnt ls a 0 t w 1 + inkR ls w A (t + 1) + _
    rw [inkR_app ls w A B, List.length_cons, show t + 1 + (A.length : Int) = t + ((A.length + 1 : Nat) : Int) by omega]
    omega
theorem inkR_rep (ls : List (List Int)) (w s : Int) : ∀ (h : Nat) (t : Int), inkR ls w (List.replicate h s) t = cnt ls s 0 t w h
  | 0, t => (cnt_0h ls s 0 t w).symm
  | h + 1, t => by
    rw [List.replicate_succ]
    show cnt ls s 0 t w 1 + inkR ls w (List.replicate h s) (t + 1) = _
    rw [inkR_rep ls w s h, cnt_high ls s 0 t w 1 h]
    congr 1; omega
theorem inkB_rows (ls : List (List Int)) (w : Int) : ∀ (B : List Bd) (t : Int), inkB ls w B t = inkR ls w (bRows B) t
  | [], _ => rfl
  | x :: r, t => by
    show cnt ls x.2 0 t w x.1 + inkB ls w r (t + x.1) = inkR ls w (List.replicate x.1 x.2 ++ bRows r) t
    rw [inkB_rows ls w r, inkR_app, inkR_rep, List.length_replicate]
end Lib

set_option Elab.async false
set_option linter.all false
set_option maxRecDepth 100000
set_option exponentiation.threshold 2000
namespace Lib
open PySem PySem.Spec PyProof.Rows L2 Dd
/-! ### windows as tall as pictures -/
def WinV (l t w h : Int) : Prop := -(4 * (1000000000000000000000000000000 : Int)) ≤ l ∧ l ≤ 4 * (1000000000000000000000000000000 : Int) ∧ -(1000000000000000000000000000000000 : Int) ≤ t ∧ t ≤ (1000000000000000000000000000000000 : Int) ∧ 0 ≤ w ∧ w ≤ (1000000000000000000000000000000 : Int) ∧ 0 ≤ h ∧ h ≤ (1000000000000000000000000000000000 : Int)
theorem resi_btv {f m r : Int} {s : Nat} (h1 : -(1000000000000000000000000000000000 : Int) ≤ f) (h2 : f ≤ (1000000000000000000000000000000000 : Int)) (h3 : 0 ≤ m) (h4 : m ≤ (1000000000000000000000000000000000 : Int)) (h5 : 0 ≤ r) (h6 : r ≤ (1000000000000000000000000000000 : Int)) : Bt 114 (resi f m r s) := by
  have a := div_bd (x := f + m - 1 - r) (B := 3 * (1000000000000000000000000000000000 : Int)) (s := s) (by omega) (by omega)
  have b := div_bd (x := f - 1 - r) (B := 3 * (1000000000000000000000000000000000 : Int)) (s := s) (by omega) (by omega)
  unfold resi
  apply Bt.of
  omega
theorem pwi_btv {l t w h : Int} (k : WinV l t w h) {c : Int × Int × Nat} (hc : CellOk' 50 c) : Bt 114 (resi l w c.1 c.2.2) ∧ Bt 114 (resi t h c.2.1 c.2.2) := by
  obtain ⟨k1, k2, k3, k4, k5, k6, k7, k8⟩ := k
  obtain ⟨c1, c2, c3, c4, c5⟩ := hc
  have e : (2 : Int) ^ 50 ≤ (1000000000000000000000000000000 : Int) := by decide
  exact ⟨resi_btv (by omega) (by omega) k5 (by omega) c1 (by omega), resi_btv k3 k4 k7 k8 c3 (by omega)⟩
theorem places_with_v {l t w h : Int} (k : WinV l t w h) {c : Int × Int × Nat} (hc : CellOk' 50 c) (st : Store) :
    s_places_with [.p (winD l t w h), .p (.int c.1), .p (.int c.2.1), .p (.int (c.2.2 : Int))] st = .ok (.val (.int (pwi l t w h c))) st := by
  obtain ⟨b1, b2⟩ := pwi_btv k hc
  unfold s_places_with b_places_with winD
  simp! [residues_i, opMul_i (cmulw b1 b2), pwi]
theorem count_of_v (ls : List (List Int)) (hl : ls.length ≤ 50) (hp : ∀ l ∈ ls, l.Perm [0, 1, 2, 3]) {k l t w h : Int} (hw : WinV l t w h) (st : Store) :
    s_count_of [.p (.tup (lvD ls)), .p (.int k), .p (winD l t w h)] st = .ok (.val (.int (cnt ls k l t w h))) st := by
  have hlen := cellsOf_len (k := k) hl hp
  unfold s_count_of b_count_of
  simp! [cells_below_i ls hl hp k]
  rw [lcL_mapf (g := fun c => D.int (pwi l t w h c)) (by simp! []) _ _ (fun c hc => by
    have ok := (cellsOf_ok hl hp c hc).mono hl
    unfold cD
    simp! [places_with_v hw ok]) (by rw [List.length_nil]; omega)]
  simp! []
  rw [lcFin_ok (by rw [List.length_map]; omega)]
  have e : (cellsOf k ls).map (fun c => D.int (pwi l t w h c)) = ((cellsOf k ls).map (pwi l t w h)).map D.int := by rw [List.map_map]; rfl
  simp! [e, cnt]

theorem dots_in_v (ls : List (List Int)) (hl : ls.length ≤ 50) (hp : ∀ l ∈ ls, l.Perm [0, 1, 2, 3]) {k l t w h : Int} (hw : WinV l t w h) (st : Store) :
    s_dots_in [.p (.scr (lvD ls)), .p (.int k), .p (winD l t w h)] st = .ok (.val (.int (cnt ls k l t w h))) st := by
  unfold s_dots_in b_dots_in
  simp! [count_of_v ls hl hp hw]
end Lib

set_option Elab.async false
set_option linter.all false
set_option maxRecDepth 100000
set_option exponentiation.threshold 2000
namespace Lib
open PySem PySem.Spec PyProof.Rows L2 Dd
/-! ### moved screens -/
end Lib

set_option Elab.async false
set_option linter.all false
set_option maxRecDepth 100000
set_option exponentiation.threshold 2000
set_option maxHeartbeats 2000000
namespace Lib
open PySem PySem.Spec PyProof.Rows L2 Dd
/-! bands as data -/
def pbD (b : Bd) : D := .tup [.int (b.1 : Int), .int b.2]
def pbsD (B : List Bd) : List D := B.map pbD
def pbP (b : Bd) : PyData := .tuple [.int (b.1 : Int), .int b.2]
def pbsP (B : List Bd) : List PyData := B.map pbP
theorem pbsD_len (B : List Bd) : (pbsD B).length = B.length := List.length_map ..
theorem pbsD_app (A B : List Bd) : pbsD (A ++ B) = pbsD A ++ pbsD B := List.map_append
theorem toPy_b (b : Bd) : toPy (pbD b) = some (pbP b) := by simp only [pbD, pbP, toPy, toPyL]
theorem toPyL_bs : ∀ B : List Bd, toPyL (pbsD B) = some (pbsP B)
  | [] => rfl
  | b :: r => by
    show toPyL (pbD b :: pbsD r) = _
    unfold toPyL
    rw [toPy_b, toPyL_bs r]
    rfl
theorem canLay_bs : ∀ B : List Bd, PyData.canLayAll0 (pbsP B) = true
  | [] => rfl
  | b :: r => by
    show (PyData.canLay0 (pbP b) && PyData.canLayAll0 (pbsP r)) = true
    rw [canLay_bs r]; rfl
theorem depth_bs : ∀ B : List Bd, PyData.depthAll (pbsP B) ≤ 1
  | [] => Nat.zero_le _
  | b :: r => by
    show max (PyData.depth (pbP b)) (PyData.depthAll (pbsP r)) ≤ 1
    have := depth_bs r
    have e : PyData.depth (pbP b) = 1 := rfl
    omega
theorem shaped_bl (B : List Bd) : SeqAt.shaped (.list (pbsP B)) = true := by
  show (PyData.canLayAll0 (pbsP B) && decide (PyData.depthAll (pbsP B) + 1 ≤ 64)) = true
  rw [canLay_bs, decide_eq_true (by have := depth_bs B; omega)]; rfl
theorem eqv_b (a b : Bd) : PyData.eqv (pbP a) (pbP b) = decide (a = b) := by
  show (PyData.eqv (.int a.1) (.int b.1) && (PyData.eqv (.int a.2) (.int b.2) && true)) = _
  have e : ∀ i j : Int, PyData.eqv (.int i) (.int j) = decide (i = j) := fun i j => by
    have := eqvAll_ints [i] [j]
    have e : PyData.eqvAll ([i].map PyData.int) ([j].map PyData.int) = (PyData.eqv (.int i) (.int j) && true) := rfl
    rw [e, Bool.and_true] at this
    rw [this]
    by_cases h : i = j <;> simp [h]
  rw [e, e]
  obtain ⟨a1, a2⟩ := a
  obtain ⟨b1, b2⟩ := b
  by_cases h1 : a1 = b1 <;> by_cases h2 : a2 = b2 <;> simp [h1, h2] <;> omega
theorem eqvAll_bs : ∀ A B : List Bd, PyData.eqvAll (pbsP A) (pbsP B) = decide (A = B)
  | [], [] => rfl
  | [], b :: B => by simp [PyData.eqvAll, pbsP]
  | a :: A, [] => by simp [PyData.eqvAll, pbsP]
  | a :: A, b :: B => by
    show (PyData.eqv (pbP a) (pbP b) && PyData.eqvAll (pbsP A) (pbsP B)) = _
    rw [eqvAll_bs A B, eqv_b]
    by_cases h1 : a = b <;> by_cases h2 : A = B <;> simp [h1, h2]
theorem opNeD_bl {x y : R} {S : Sg} {A B : List Bd} (h1 : dataR x S = some (.list (pbsP A))) (h2 : dataR y S = some (.list (pbsP B))) : opNeD x y S = .ok (.p (.bl (!decide (A = B)))) S := by
  rw [opNeD_of h1 h2 (shaped_bl A) (shaped_bl B), eqv_ll, eqvAll_bs]
theorem dataK_bs {B : List Bd} : dataK (some (.mu (.lst (pbsD B)))) = some (.list (pbsP B)) := by rw [dataK_mu, toPyL_bs]; rfl
theorem ne_bs {n m : Nat} {S : Sg} {A B : List Bd} (h1 : S.st[n]? = some (.mu (.lst (pbsD A)))) (h2 : S.st[m]? = some (.mu (.lst (pbsD B)))) : opNeD (.r n) (.r m) S = .ok (.p (.bl (!decide (A = B)))) S :=
  opNeD_bl (by rw [dataR_r, h1, dataK_bs]) (by rw [dataR_r, h2, dataK_bs])
theorem bs_get {B : List Bd} {j : Nat} {d : D} (h : (pbsD B)[j]? = some d) : ∃ b, B[j]? = some b ∧ d = pbD b := by
  unfold pbsD at h
  rw [List.getElem?_map] at h
  obtain ⟨b, h1, h2⟩ := Option.map_eq_some_iff.mp h
  exact ⟨b, h1, h2.symm⟩
theorem take_snoc {α : Type} {B : List α} {j : Nat} {b : α} (h : B[j]? = some b) : B.take (j + 1) = B.take j ++ [b] := by rw [List.take_add_one, h]; rfl
/-! the functions of bands -/
theorem bHgt_sum (B : List Bd) : (B.map fun b => (b.1 : Int)).sum = bHgt B := by
  induction B with
  | nil => rfl
  | cons b r ih => rw [List.map_cons, List.sum_cons, ih]; rfl
theorem height_of_i {B : List Bd} (hl : B.length ≤ 10000) (x : D) (hx : x = .tup (pbsD B) ∨ x = .lst (pbsD B)) (st : Store) : s_height_of [.p x] st = .ok (.val (.int (bHgt B))) st := by
  have e : (B.map fun b => D.int (b.1 : Int)) = (B.map fun b => (b.1 : Int)).map D.int := by rw [List.map_map]; rfl
  have c : ∀ {ok : Sg → Prop} {sl : List (Option R)} (S : Sg), S = ⟨[some (.p x), none, none], st⟩ → ok S → lcL ok (lcB [1, 2] [1, 2] unpT tYesM (vr 1)) (pbsD B) [] S = .ok ((B.map fun b => (b.1 : Int)).map D.int) S := fun S hS hok => by
    subst hS
    unfold pbsD
    rw [lcL_mapf (f := pbD) (g := fun b => D.int (b.1 : Int)) hok _ _ (fun b hb => by
      unfold pbD
      simp! []) (by rw [List.length_nil]; omega), List.nil_append, e]
  have l2 : ((B.map fun b => (b.1 : Int)).map D.int).length ≤ 1000000 := by rw [List.length_map, List.length_map]; omega
  unfold s_height_of b_height_of
  rcases hx with rfl | rfl
  · simp! []
    rw [c (sl := []) _ rfl trivial, lcFin_ok l2]
    simp! [bHgt_sum]
  · simp! []
    rw [c (sl := []) _ rfl trivial, lcFin_ok l2]
    simp! [bHgt_sum]
theorem bHgt_app : ∀ A B : List Bd, bHgt (A ++ B) = bHgt A + bHgt B
  | [], B => by simp [bHgt]
  | a :: A, B => by
    show (a.1 : Int) + bHgt (A ++ B) = a.1 + bHgt A + bHgt B
    rw [bHgt_app A B]; omega
theorem bPart_app (b e : Int) : ∀ (A B : List Bd) (t : Int), bPart b e (A ++ B) t = bPart b e A t ++ bPart b e B (t + bHgt A)
  | [], B, t => by simp [bPart, bHgt]
  | a :: A, B, t => by
    show _ ++ bPart b e (A ++ B) (t + a.1) = (_ ++ bPart b e A (t + a.1)) ++ bPart b e B (t + (a.1 + bHgt A))
    rw [bPart_app b e A B, List.append_assoc, Int.add_assoc]
theorem bPart_len (b e : Int) : ∀ (B : List Bd) (t : Int), (bPart b e B t).length ≤ B.length
  | [], _ => Nat.le_refl _
  | x :: r, t => by
    have := bPart_len b e r (t + x.1)
    unfold bPart
    rw [List.length_append, List.length_cons]
    split <;> simp <;> omega
theorem part_of_i {B : List Bd} (hl : B.length ≤ 10000) (b e : Int) (st : Store) : s_part_of [.p (.tup (pbsD B)), .p (.int b), .p (.int e)] st = .ok (.new (.lst (pbsD (bPart b e B 0)))) st := by
  refine fin_eq ?_
  unfold s_part_of b_part_of
  simp! [bnd_bnd]
  refine wpf_bnd (wp_loop (I := fun i S => ∃ s5 s6 s7 s8, S = ⟨[some (.p (.tup (pbsD B))), some (.p (.int b)), some (.p (.int e)), some (.r st.length), some (.p (.int (bHgt (B.take i)))), s5, s6, s7, s8], st ++ [.mu (.lst (pbsD (bPart b e (B.take i) 0)))]⟩) ?_ ?_ ?_ ?_)
  · exact ⟨none, none, none, none, by simp [bHgt, bPart, pbsD]⟩
  · intros; trivial
  · rintro j d S hj ⟨s5, s6, s7, s8, rfl⟩
    obtain ⟨x, hx, rfl⟩ := bs_get hj
    have tk := take_snoc hx
    have e1 : bHgt (B.take (j + 1)) = bHgt (B.take j) + x.1 := by rw [tk, bHgt_app]; simp [bHgt]
    have e2 : bPart b e (B.take (j + 1)) 0 = bPart b e (B.take j) 0 ++ (if max b (bHgt (B.take j)) < min e (bHgt (B.take j) + x.1) then [((min e (bHgt (B.take j) + x.1) - max b (bHgt (B.take j))).toNat, x.2)] else []) := by
      rw [tk, bPart_app, Int.zero_add]
      simp [bPart]
    have ln : (pbsD (bPart b e (B.take j) 0)).length < 1000000 := by
      rw [pbsD_len]
      have := bPart_len b e (B.take j) 0
      rw [List.length_take] at this
      omega
    rw [e1, e2]
    generalize bHgt (B.take j) = T at *
    generalize bPart b e (B.take j) 0 = F at *
    unfold pbD
    rw [bind_bnd]
    by_cases h : max b T < min e (T + x.1)
    · rw [if_pos h, pbsD_app]
      have hn : ((min e (T + x.1) - max b T).toNat : Int) = min e (T + x.1) - max b T := by omega
      simp! [bnd_bnd, h, appK_ap ln]
      have en : pbsD [((min e (T + x.1) - max b T).toNat, x.2)] = [D.tup [.int (min e (T + x.1) - max b T), .int x.2]] := by
        unfold pbsD pbD
        rw [List.map_cons, List.map_nil, hn]
      rw [en]
      exact wp_ok ⟨_, _, _, _, rfl⟩
    · rw [if_neg h, List.append_nil]
      simp! [bnd_bnd, h]
      exact wp_ok ⟨_, _, _, _, rfl⟩
  · rintro S ⟨s5, s6, s7, s8, rfl⟩
    rw [pbsD_len, List.take_length]
    simp! [bnd_bnd]
    rw [finishR_mu (o := .lst (pbsD (bPart b e B 0))) (by simp) (by omega), List.take_append_of_le_length (by omega), List.take_length]
    exact wpf_ok ⟨rfl, rfl⟩
theorem merged_i {L : List Bd} (hl : L.length ≤ 10000) (st : Store) : s_merged [.p (.lst (pbsD L))] st = .ok (.val (.tup (pbsD (bMrg L)))) st := by
  have mono : ∀ {L acc : List Bd}, (L.foldl bStep acc).length ≤ acc.length + L.length := fun {L} => by
    induction L with
    | nil => intro acc; simp
    | cons b L ih =>
      intro acc
      have h := ih (acc := bStep acc b)
      have s : (bStep acc b).length ≤ acc.length + 1 := by
        unfold bStep
        split
        · split
          · simp <;> omega
          · simp
        · simp
      simp only [List.foldl_cons, List.length_cons]
      omega
  refine fin_eq ?_
  unfold s_merged b_merged
  simp! [bnd_bnd]
  refine wpf_bnd (wp_loop (I := fun i S => ∃ s2 s3 Z, S = ⟨[some (.p (.lst (pbsD L))), some (.r st.length), s2, s3], st ++ (.mu (.lst (pbsD ((L.take i).foldl bStep []))) :: Z)⟩) ?_ ?_ ?_ ?_)
  · exact ⟨_, _, [], rfl⟩
  · rintro j S ⟨s2, s3, Z, rfl⟩
    simp! []
  · rintro j d S hj ⟨s2, s3, Z, rfl⟩
    obtain ⟨x, hx, rfl⟩ := bs_get hj
    have hjl := (List.getElem?_eq_some_iff.mp hx).1
    rw [take_snoc hx, List.foldl_append]
    show _
    have la := mono (L := L.take j) (acc := [])
    rw [List.length_take, List.length_nil] at la
    generalize (L.take j).foldl bStep [] = A at *
    have ne : ∀ (n m : Nat) (S : Sg), S.st[n]? = some (.mu (.lst (pbsD A))) → S.st[m]? = some (.mu (.lst [])) → opNeD (.r n) (.r m) S = .ok (.p (.bl (!decide (A = [])))) S := fun n m S h1 h2 => ne_bs (B := []) h1 h2
    show Wp _ _
    unfold pbD
    rw [bind_bnd]
    rcases List.eq_nil_or_concat A with rfl | ⟨A', a, rfl⟩
    · simp! [bnd_bnd, ne, appK_ap (l := pbsD []) (by decide)]
      exact wp_ok ⟨_, _, _, rfl⟩
    · rw [List.concat_eq_append] at *
      have na : ¬ (A' ++ [a] = []) := by simp
      have l1 : (pbsD (A' ++ [a])).length < 1000000 := by rw [pbsD_len]; omega
      have es : pbsD (A' ++ [a]) = pbsD A' ++ [D.tup [.int (a.1 : Int), .int a.2]] := by rw [pbsD_app]; rfl
      have bs : bStep (A' ++ [a]) x = if a.2 = x.2 then A' ++ [(a.1 + x.1, a.2)] else (A' ++ [a]) ++ [x] := by
        unfold bStep
        simp only [List.getLast?_concat, List.dropLast_concat]
      simp only [List.foldl_cons, List.foldl_nil]
      rw [bs]
      have ix : ∀ S : Sg, ixK (pbsD (A' ++ [a])) (-1) S = .ok (.p (.tup [.int (a.1 : Int), .int a.2])) S := fun S => by rw [es, ixK_snoc]
      by_cases h : a.2 = x.2
      · have sk : ∀ (n : Nat) (d : D) (S : Sg), setK n (-1) d S (some (.mu (.lst (pbsD (A' ++ [a]))))) = .ok () ⟨S.sl, S.st.set n (.mu (.lst (pbsD A' ++ [d])))⟩ := fun n d S => by
          rw [es]
          unfold setK
          have e : L2.ixN (pbsD A' ++ [D.tup [.int (a.1 : Int), .int a.2]]).length (-1) = some (pbsD A').length := by
            unfold L2.ixN
            rw [if_neg (by decide), if_pos (by rw [List.length_append]; simp; omega)]
            congr 1
            rw [List.length_append]; simp; omega
          simp only [e]
          rw [List.set_append_right _ _ (Nat.le_refl _), Nat.sub_self]
          rfl
        rw [if_pos h]
        simp! [bnd_bnd, ne, na, ix, h, sk]
        have en : pbsD (A' ++ [(a.1 + x.1, a.2)]) = pbsD A' ++ [D.tup [.int ((a.1 : Int) + x.1), .int x.2]] := by
          rw [pbsD_app]
          unfold pbsD pbD
          rw [List.map_cons, List.map_nil, h, Int.natCast_add]
        rw [en]
        exact wp_ok ⟨_, _, _, rfl⟩
      · rw [if_neg h]
        simp! [bnd_bnd, ne, na, ix, h, appK_ap l1]
        have en : pbsD (A' ++ [a] ++ [x]) = pbsD (A' ++ [a]) ++ [D.tup [.int (x.1 : Int), .int x.2]] := by
          rw [pbsD_app (A' ++ [a])]; rfl
        rw [en]
        exact wp_ok ⟨_, _, _, rfl⟩
  · rintro S ⟨s2, s3, Z, rfl⟩
    rw [pbsD_len, List.take_length]
    have la := mono (L := L) (acc := [])
    simp! [bnd_bnd]
    exact wpf_ok ⟨rfl, rfl⟩
theorem ink_of_i {ls : List (List Int)} (lok : LvOk ls) {w : Int} (w0 : 1 ≤ w) (w1 : w ≤ (1000000000000000000000000000000 : Int)) {B : List Bd} (x : D) (hx : x = .tup (pbsD B) ∨ x = .lst (pbsD B)) {t : Int} (t0 : 0 ≤ t) (t1 : t + bHgt B ≤ (1000000000000000000000000000000000 : Int)) (st : Store) :
    s_ink_of [.p (.scr (lvD ls)), .p (.int w), .p x, .p (.int t)] st = .ok (.val (.int (inkB ls w B t))) st := by
  have nn : ∀ A : List Bd, 0 ≤ bHgt A := fun A => by rw [bHgt_rows]; omega
  have app : ∀ (A B : List Bd) (t : Int), inkB ls w (A ++ B) t = inkB ls w A t + inkB ls w B (t + bHgt A) := fun A B => by
    induction A with
    | nil => intro t; simp [inkB, bHgt]
    | cons a A ih =>
      intro t
      show cnt ls a.2 0 t w a.1 + inkB ls w (A ++ B) (t + a.1) = cnt ls a.2 0 t w a.1 + inkB ls w A (t + a.1) + inkB ls w B (t + (a.1 + bHgt A))
      rw [ih, Int.add_assoc, Int.add_assoc]
  have lp : ∀ (sl : Sg), sl = ⟨[some (.p (.scr (lvD ls))), some (.p (.int w)), some (.p x), some (.p (.int t)), some (.p (.int 0)), none, none], st⟩ → Wp (loopL (fun _ => True) (fun d => gT 2 (gsC (gN 5) (gsC (gN 6) gsN)) d >>= fun _ => sSq (sAug (fun i j => i + j) 4 (callM s_dots_in 3 (aC (vr 0) (aC (vr 6) (aC (tupE (aC (ci 0) (aC (vr 3) (aC (vr 1) (aC (vr 5) aN))))) aN))))) (sAug (fun i j => i + j) 3 (vr 5))) (pbsD B) sl) fun f S => f = .nx ∧ ∃ s3 s5 s6, S = ⟨[some (.p (.scr (lvD ls))), some (.p (.int w)), some (.p x), s3, some (.p (.int (inkB ls w B t))), s5, s6], st⟩ := by
    rintro sl rfl
    refine wp_loop (I := fun i S => ∃ s5 s6, S = ⟨[some (.p (.scr (lvD ls))), some (.p (.int w)), some (.p x), some (.p (.int (t + bHgt (B.take i)))), some (.p (.int (inkB ls w (B.take i) t))), s5, s6], st⟩) ?_ ?_ ?_ ?_
    · exact ⟨none, none, by simp [bHgt, inkB]⟩
    · intros; trivial
    · rintro j d S hj ⟨s5, s6, rfl⟩
      obtain ⟨y, hy, rfl⟩ := bs_get hj
      have tk := take_snoc hy
      have e1 : t + bHgt (B.take (j + 1)) = t + bHgt (B.take j) + y.1 := by rw [tk, bHgt_app]; simp [bHgt]; omega
      have e2 : inkB ls w (B.take (j + 1)) t = inkB ls w (B.take j) t + cnt ls y.2 0 (t + bHgt (B.take j)) w y.1 := by
        rw [tk, app]; simp [inkB]
      have sp : bHgt B = bHgt (B.take j) + (y.1 + bHgt (B.drop (j + 1))) := by
        have h : bHgt B = bHgt (B.take (j + 1)) + bHgt (B.drop (j + 1)) := by rw [← bHgt_app, List.take_append_drop]
        rw [h, tk, bHgt_app]
        simp [bHgt]; omega
      have n1 := nn (B.take j)
      have n2 := nn (B.drop (j + 1))
      rw [e1, e2]
      have wv : WinV 0 (t + bHgt (B.take j)) w y.1 := ⟨by omega, by omega, by omega, by omega, by omega, w1, by omega, by omega⟩
      have di := fun k st => dots_in_v ls lok.2.1 lok.2.2 (k := k) wv st
      unfold winD at di
      generalize t + bHgt (B.take j) = T at *
      generalize inkB ls w (B.take j) t = F at *
      unfold pbD
      rw [bind_bnd]
      simp! [bnd_bnd, di]
      exact wp_ok ⟨_, _, rfl⟩
    · rintro S ⟨s5, s6, rfl⟩
      rw [pbsD_len, List.take_length]
      exact ⟨rfl, _, _, _, rfl⟩
  refine fin_eq ?_
  unfold s_ink_of b_ink_of
  rcases hx with rfl | rfl
  · simp! [bnd_bnd]
    refine wpf_bnd (wp_imp (lp _ rfl) ?_)
    rintro f S ⟨rfl, s3, s5, s6, rfl⟩
    simp! [bnd_bnd]
    exact wpf_ok ⟨rfl, rfl⟩
  · simp! [bnd_bnd]
    refine wpf_bnd (wp_imp (lp _ rfl) ?_)
    rintro f S ⟨rfl, s3, s5, s6, rfl⟩
    simp! [bnd_bnd]
    exact wpf_ok ⟨rfl, rfl⟩
end Lib

set_option Elab.async false
set_option linter.all false
set_option maxRecDepth 100000
set_option exponentiation.threshold 2000
set_option maxHeartbeats 2000000
namespace Dd
open PySem PySem.Spec PyProof.Rows L2
/-! how own lists work out -/
def olS (k : Nat) (f : Str) (S : Sg) : Option (Option R) → Option (Nat × List (Str × D) × List D)
  | some (some x) => match objOf k x S with
    | some (n, fs) => match fs.lookup f with
      | some (.ol l) => some (n, fs, l)
      | _ => none
    | none => none
  | _ => none
theorem olOf_S (k : Nat) (f : Str) (i : Nat) (S : Sg) : olOf k f i S = olS k f S S.sl[i]? := by
  unfold olOf olS
  rcases S.sl[i]? with _ | _ | x <;> rfl
def olC (k : Nat) (f : Str) (n : Nat) : Option Cell → Option (Nat × List (Str × D) × List D)
  | some (.mu (.obj k' fs)) => if k' = k ∧ fs.length < 900 then (match fs.lookup f with
      | some (.ol l) => some (n, fs, l)
      | _ => none) else none
  | _ => none
theorem objOf_r {k n : Nat} {S : Sg} : objOf k (.r n) S = (match S.st[n]? with
    | some (.mu (.obj k' fs)) => if k' = k ∧ fs.length < 900 then some (n, fs) else none
    | _ => none) := rfl
theorem olS_r {k : Nat} {f : Str} {S : Sg} {n : Nat} : olS k f S (some (some (.r n))) = olC k f n S.st[n]? := by
  show (match objOf k (.r n) S with
    | some (n, fs) => (match fs.lookup f with
      | some (.ol l) => some (n, fs, l)
      | _ => none)
    | none => none) = _
  rw [objOf_r]
  unfold olC
  cases S.st[n]? with
  | none => rfl
  | some x =>
    cases x with
    | dead => rfl
    | fz l => rfl
    | mu o =>
      cases o with
      | lst l => rfl
      | dct l => rfl
      | dt l => rfl
      | obj k' fs =>
        simp only
        by_cases h : k' = k ∧ fs.length < 900
        · rw [if_pos h, if_pos h]
        · rw [if_neg h, if_neg h]
def fldNS (k : Nat) (f : Str) (S : Sg) : Option (Option R) → Res Fl
  | some (some x) => match objOf k x S with
    | some (n, fs) => .ok .nx { S with st := S.st.set n (.mu (.obj k (putD f (.ol []) fs))) }
    | none => .bad
  | _ => .bad
theorem sFldN_S (k : Nat) (f : Str) (i : Nat) (S : Sg) : sFldN k f i S = fldNS k f S S.sl[i]? := by
  unfold sFldN fldNS
  rcases S.sl[i]? with _ | _ | x <;> rfl
def fldNC (k : Nat) (f : Str) (n : Nat) (S : Sg) : Option Cell → Res Fl
  | some (.mu (.obj k' fs)) => if k' = k ∧ fs.length < 900 then .ok .nx { S with st := S.st.set n (.mu (.obj k (putD f (.ol []) fs))) } else .bad
  | _ => .bad
theorem fldNS_r {k : Nat} {f : Str} {S : Sg} {n : Nat} : fldNS k f S (some (some (.r n))) = fldNC k f n S S.st[n]? := by
  show (match objOf k (.r n) S with
    | some (n, fs) => Res.ok Fl.nx { S with st := S.st.set n (.mu (.obj k (putD f (.ol []) fs))) }
    | none => .bad) = _
  rw [objOf_r]
  unfold fldNC
  cases S.st[n]? with
  | none => rfl
  | some x =>
    cases x with
    | dead => rfl
    | fz l => rfl
    | mu o =>
      cases o with
      | lst l => rfl
      | dct l => rfl
      | dt l => rfl
      | obj k' fs =>
        simp only
        by_cases h : k' = k ∧ fs.length < 900
        · rw [if_pos h, if_pos h]
        · rw [if_neg h, if_neg h]
theorem fldNC_ap {k : Nat} {f : Str} {n : Nat} {fs : List (Str × D)} {S : Sg} (h : fs.length < 900) : fldNC k f n S (some (.mu (.obj k fs))) = .ok .nx ⟨S.sl, S.st.set n (.mu (.obj k (putD f (.ol []) fs)))⟩ := if_pos ⟨rfl, h⟩
def appO (k : Nat) (f : Str) (S : Sg) (d : D) : Option (Nat × List (Str × D) × List D) → Res R
  | some (n, fs, l) => if l.length < sizeLine then .ok (.p .non) { S with st := S.st.set n (.mu (.obj k (putD f (.ol (l ++ [d])) fs))) } else .bad
  | none => .bad
theorem ownApp_v {k : Nat} {f : Str} {i j : Nat} {S : Sg} {d : D} (h : S.sl[j]? = some (some (.p d))) : ownApp k f i (vr j) S = appO k f S d (olS k f S S.sl[i]?) := by
  unfold ownApp
  rw [vr_ok h, olOf_S]
  simp only
  cases olS k f S S.sl[i]? <;> rfl
theorem ownApp_a {k k2 : Nat} {f f2 : Str} {i j : Nat} {S : Sg} {d : D} (h : attrU k2 f2 (vr j) S = .ok (.p d) S) : ownApp k f i (attrU k2 f2 (vr j)) S = appO k f S d (olS k f S S.sl[i]?) := by
  unfold ownApp
  rw [h, olOf_S]
  simp only
  cases olS k f S S.sl[i]? <;> rfl
end Dd
namespace Lib
open PySem PySem.Spec PyProof.Rows L2 Dd
/-! pictures -/
def picF (ls : List (List Int)) (w : Int) (B : List Bd) (c p : List D) : List (Str × D) := [("own_limit", .non), ("own_screen", .scr (lvD ls)), ("own_width", .int w), ("own_bands", .tup (pbsD B)), ("own_calls", .ol c), ("own_past", .ol p)]
def pic (ls : List (List Int)) (w : Int) (B : List Bd) (c p : List D) : Con := .obj 1 (picF ls w B c p)
section
variable {ls : List (List Int)} {w : Int} {B B' : List Bd} {c p : List D} {S : Sg} {n : Nat}
theorem pic_lim : attrC 1 "own_limit" S (some (.mu (pic ls w B c p))) = .ok (.p .non) S := Eq.trans rfl rfl
theorem pic_scr : attrC 1 "own_screen" S (some (.mu (pic ls w B c p))) = .ok (.p (.scr (lvD ls))) S := Eq.trans rfl rfl
theorem pic_wid : attrC 1 "own_width" S (some (.mu (pic ls w B c p))) = .ok (.p (.int w)) S := Eq.trans rfl rfl
theorem pic_bnd : attrC 1 "own_bands" S (some (.mu (pic ls w B c p))) = .ok (.p (.tup (pbsD B))) S := Eq.trans rfl rfl
theorem pic_olc : olC 1 "own_calls" n (some (.mu (pic ls w B c p))) = some (n, picF ls w B c p, c) := Eq.trans rfl rfl
theorem pic_olp : olC 1 "own_past" n (some (.mu (pic ls w B c p))) = some (n, picF ls w B c p, p) := Eq.trans rfl rfl
theorem pic_fldb : fldC 1 "own_bands" (.tup (pbsD B')) n S (some (.mu (pic ls w B c p))) = .ok .nx ⟨S.sl, S.st.set n (.mu (pic ls w B' c p))⟩ := Eq.trans rfl rfl
theorem pic_meth {m : Str} {F : Fn} {k : Nat} {g : M (List R)} (h : (picF [] 0 [] [] []).lookup m = none) : methCC 1 m F k g n S (some (.mu (pic ls w B c p))) = (g S).bnd fun xs S => callK F k (.r n :: xs) S := by
  refine methCC_ap ?_
  unfold picF at h ⊢
  simp only [List.lookup_cons] at h ⊢
  revert h
  rcases (m == "own_limit") with _ | _ <;> rcases (m == "own_screen") with _ | _ <;> rcases (m == "own_width") with _ | _ <;> rcases (m == "own_bands") with _ | _ <;> rcases (m == "own_calls") with _ | _ <;> rcases (m == "own_past") with _ | _ <;> simp
theorem pic_prop {F : Fn} : propC 1 F n S (some (.mu (pic ls w B c p))) = applyF S (noX (F [.r n] S.st)) := propC_ap
theorem put1 {a : D} : putD "own_limit" a ([] : List (Str × D)) = ([("own_limit", a)] : List (Str × D)) := Eq.trans rfl rfl
theorem put2 {a b : D} : putD "own_screen" b ([("own_limit", a)] : List (Str × D)) = ([("own_limit", a), ("own_screen", b)] : List (Str × D)) := Eq.trans rfl rfl
theorem put3 {a b d : D} : putD "own_width" d ([("own_limit", a), ("own_screen", b)] : List (Str × D)) = ([("own_limit", a), ("own_screen", b), ("own_width", d)] : List (Str × D)) := Eq.trans rfl rfl
theorem put4 {a b d e : D} : putD "own_bands" e ([("own_limit", a), ("own_screen", b), ("own_width", d)] : List (Str × D)) = ([("own_limit", a), ("own_screen", b), ("own_width", d), ("own_bands", e)] : List (Str × D)) := Eq.trans rfl rfl
theorem put5 {a b d e f : D} : putD "own_calls" f ([("own_limit", a), ("own_screen", b), ("own_width", d), ("own_bands", e)] : List (Str × D)) = ([("own_limit", a), ("own_screen", b), ("own_width", d), ("own_bands", e), ("own_calls", f)] : List (Str × D)) := Eq.trans rfl rfl
theorem put6 {a b d e f g : D} : putD "own_past" g ([("own_limit", a), ("own_screen", b), ("own_width", d), ("own_bands", e), ("own_calls", f)] : List (Str × D)) = ([("own_limit", a), ("own_screen", b), ("own_width", d), ("own_bands", e), ("own_calls", f), ("own_past", g)] : List (Str × D)) := Eq.trans rfl rfl
theorem picture_make (w0 : 1 ≤ w) (w1 : w ≤ (1000000000000000000000000000000 : Int)) : makeK 1 s_Picture___init 3 [.p (.scr (lvD ls)), .p (.int w)] S = .ok (.r S.st.length) ⟨S.sl, S.st ++ [.mu (pic ls w [] [] [])]⟩ := by
  unfold makeK
  simp only [List.length_cons, List.length_nil]
  rw [if_pos trivial]
  have e : s_Picture___init [.r S.st.length, .p (.scr (lvD ls)), .p (.int w)] (S.st ++ [.mu (.obj 1 [])]) = .ok (.val .non) (S.st ++ [.mu (pic ls w [] [] [])]) := by
    have d : decide (1 ≤ w ∧ w ≤ (1000000000000000000000000000000 : Int)) = true := decide_eq_true ⟨w0, w1⟩
    unfold s_Picture___init b_Picture___init
    simp! [require_screen_ok, is_whole_i, d, fldK_r, fldC_ap, sFldN_S, fldNS_r, fldNC_ap, put1, put2, put3, put4, put5, put6]
    rfl
  rw [e]
/-! what steps do to rows -/
def rIns (R : List Int) (row num : Nat) (s : Int) : List Int := R.take row ++ List.replicate num s ++ R.drop row
def rPnt (R : List Int) (row num : Nat) (s : Int) : List Int := R.take row ++ List.replicate num s ++ R.drop (row + num)
theorem rle_hgt (R : List Int) : bHgt (rle R) = R.length := by rw [bHgt_rows, (rle_ok R).2]
theorem part_lo {R : List Int} (row : Nat) : bRows (bPart 0 row (rle R) 0) = R.take row := by
  rw [bPart_rows, (rle_ok R).2]; simp
theorem part_hi {R : List Int} (row : Nat) : bRows (bPart row R.length (rle R) 0) = R.drop row := by
  rw [bPart_rows, (rle_ok R).2, Int.sub_zero, Int.toNat_natCast, Int.sub_zero, Int.toNat_natCast, List.take_length]
theorem eqS {a b : String} {S : Sg} (h : PyData.strOk (Str.ofString a) = true ∧ PyData.strOk (Str.ofString b) = true) : opEqD (.p (.str (Str.ofString a))) (.p (.str (Str.ofString b))) S = .ok (.p (.bl (decide (Str.ofString a = Str.ofString b)))) S := opEqD_t h.1 h.2
theorem neS {a b : String} {S : Sg} (h : PyData.strOk (Str.ofString a) = true ∧ PyData.strOk (Str.ofString b) = true) : opNeD (.p (.str (Str.ofString a))) (.p (.str (Str.ofString b))) S = .ok (.p (.bl (!decide (Str.ofString a = Str.ofString b)))) S := opNeD_t h.1 h.2
theorem ii (S : Sg) : opEqD (.p (.str (Str.ofString "insert"))) (.p (.str (Str.ofString "insert"))) S = .ok (.p (.bl true)) S := by rw [eqS (by decide +kernel), decide_eq_true rfl]
theorem ip (S : Sg) : opEqD (.p (.str (Str.ofString "paint"))) (.p (.str (Str.ofString "insert"))) S = .ok (.p (.bl false)) S := by rw [eqS (by decide +kernel), decide_eq_false (by decide +kernel)]
theorem ni (S : Sg) : opNeD (.p (.str (Str.ofString "insert"))) (.p (.str (Str.ofString "remove"))) S = .ok (.p (.bl true)) S := by rw [neS (by decide +kernel), decide_eq_false (by decide +kernel)]; rfl
theorem np (S : Sg) : opNeD (.p (.str (Str.ofString "paint"))) (.p (.str (Str.ofString "remove"))) S = .ok (.p (.bl true)) S := by rw [neS (by decide +kernel), decide_eq_false (by decide +kernel)]; rfl
theorem require_rows_i {R : List Int} (hl : (rle R).length ≤ 10000) {row num : Nat} (h1 : row < R.length) (h2 : 1 ≤ num) (h3 : row + num ≤ R.length) (st : Store) : s_require_rows [.p (.tup (pbsD (rle R))), .p (.int (row : Int)), .p (.int (num : Int))] st = .ok (.val .non) st := by
  have d1 : decide (0 ≤ (row : Int) ∧ (row : Int) ≤ (R.length : Int) - 1) = true := decide_eq_true ⟨by omega, by omega⟩
  have d2 : decide (1 ≤ (num : Int) ∧ (num : Int) ≤ (R.length : Int) - (row : Int)) = true := decide_eq_true ⟨by omega, by omega⟩
  unfold s_require_rows b_require_rows
  simp! [height_of_i hl _ (.inl rfl), rle_hgt, is_whole_i, d1, d2]
theorem pureL_o (l : List D) (S : Sg) : pureL (ofD l) S = .ok l S := by
  have := pureL_p l [] S
  rw [List.append_nil] at this
  rw [this]
  simp! [List.append_nil]
theorem al_ {l : List D} (h : l.length ≤ 1000000) (S : Sg) : allocL l S = .ok (.r S.st.length) ⟨S.sl, S.st ++ [.mu (.lst l)]⟩ := if_pos (Nat.le_trans h (by rw [sizeLine_eq]; decide))
theorem changed_ins {R : List Int} (lok : LvOk ls) (hl : (rle R).length ≤ 3000) {row num : Nat} {s : Int} (h1 : row ≤ R.length) (h2 : 1 ≤ num) (h3 : (num : Int) ≤ (1000000000000000000000000000000 : Int)) (s0 : 0 ≤ s) (s1 : s ≤ 4 ^ ls.length) (st : Store) :
    s_changed [.p (.scr (lvD ls)), .p (.tup (pbsD (rle R))), .p (.tup [.str (Str.ofString "insert"), .int (row : Int), .int (num : Int), .int s])] st = .ok (.val (.tup (pbsD (rle (rIns R row num s))))) st := by
  have d1 : decide (0 ≤ (row : Int) ∧ (row : Int) ≤ (R.length : Int)) = true := decide_eq_true ⟨by omega, by omega⟩
  have d2 : decide (1 ≤ (num : Int) ∧ (num : Int) ≤ (1000000000000000000000000000000 : Int)) = true := decide_eq_true ⟨by omega, by omega⟩
  have d3 : decide (0 ≤ s ∧ s ≤ 4 ^ ls.length) = true := decide_eq_true ⟨by omega, by omega⟩
  have p1 := part_of_i (B := rle R) (by omega) 0 (row : Int)
  have p2 := part_of_i (B := rle R) (by omega) (row : Int) (R.length : Int)
  have q1 := bPart_len 0 (row : Int) (rle R) 0
  have q2 := bPart_len (row : Int) (R.length : Int) (rle R) 0
  have eR : bRows (bPart 0 row (rle R) 0 ++ ([(num, s)] ++ bPart row R.length (rle R) 0)) = rIns R row num s := by
    rw [bRows_app, bRows_app, part_lo, part_hi]
    unfold rIns
    rw [List.append_assoc]
    show R.take row ++ ((List.replicate num s ++ []) ++ R.drop row) = _
    rw [List.append_nil]
  have pos : ∀ b ∈ bPart 0 row (rle R) 0 ++ ([(num, s)] ++ bPart row R.length (rle R) 0), 0 < b.1 := fun b hb => by
    rcases List.mem_append.mp hb with h | h
    · exact bPart_pos _ _ _ _ b h
    · rcases List.mem_append.mp h with h | h
      · rcases List.mem_singleton.mp h with rfl; exact h2
      · exact bPart_pos _ _ _ _ b h
  have mg := merged_i (L := bPart 0 row (rle R) 0 ++ ([(num, s)] ++ bPart row R.length (rle R) 0)) (by simp only [List.length_append, List.length_cons, List.length_nil]; omega)
  rw [rle_mrg pos, eR, pbsD_app, pbsD_app, show pbsD [(num, s)] = [D.tup [.int (num : Int), .int s]] from rfl] at mg
  have l1 : (pbsD (bPart 0 row (rle R) 0)).length ≤ 3000 := by rw [pbsD_len]; omega
  have l2 : (pbsD (bPart row R.length (rle R) 0)).length ≤ 3000 := by rw [pbsD_len]; omega
  generalize pbsD (bPart 0 row (rle R) 0) = X1 at *
  generalize pbsD (bPart row R.length (rle R) 0) = X2 at *
  have al := al_ (l := X1 ++ ([D.tup [.int (num : Int), .int s]] ++ X2)) (by simp only [List.length_append, List.length_cons, List.length_nil]; omega)
  simp only [List.cons_append, List.nil_append] at al mg
  unfold s_changed b_changed
  simp! [height_of_i (B := rle R) (by omega) _ (.inl rfl), rle_hgt, is_whole_i, is_shade_i ls lok.2.1, d1, d2, d3, ii, ni, p1, p2, List.append_nil, pureL_o, al, mg]
theorem changed_pnt {R : List Int} (lok : LvOk ls) (hl : (rle R).length ≤ 3000) {row num : Nat} {s : Int} (h1 : row < R.length) (h2 : 1 ≤ num) (h3 : row + num ≤ R.length) (s0 : 0 ≤ s) (s1 : s ≤ 4 ^ ls.length) (st : Store) :
    s_changed [.p (.scr (lvD ls)), .p (.tup (pbsD (rle R))), .p (.tup [.str (Str.ofString "paint"), .int (row : Int), .int (num : Int), .int s])] st = .ok (.val (.tup (pbsD (rle (rPnt R row num s))))) st := by
  have d3 : decide (0 ≤ s ∧ s ≤ 4 ^ ls.length) = true := decide_eq_true ⟨by omega, by omega⟩
  have p1 := part_of_i (B := rle R) (by omega) 0 (row : Int)
  have p2 := part_of_i (B := rle R) (by omega) ((row : Int) + (num : Int)) (R.length : Int)
  have q1 := bPart_len 0 (row : Int) (rle R) 0
  have q2 := bPart_len ((row : Int) + (num : Int)) (R.length : Int) (rle R) 0
  have eR : bRows (bPart 0 row (rle R) 0 ++ ([(num, s)] ++ bPart ((row : Int) + (num : Int)) R.length (rle R) 0)) = rPnt R row num s := by
    rw [bRows_app, bRows_app, part_lo, ← Int.natCast_add, part_hi]
    unfold rPnt
    rw [List.append_assoc]
    show R.take row ++ ((List.replicate num s ++ []) ++ R.drop (row + num)) = _
    rw [List.append_nil]
  have pos : ∀ b ∈ bPart 0 row (rle R) 0 ++ ([(num, s)] ++ bPart ((row : Int) + (num : Int)) R.length (rle R) 0), 0 < b.1 := fun b hb => by
    rcases List.mem_append.mp hb with h | h
    · exact bPart_pos _ _ _ _ b h
    · rcases List.mem_append.mp h with h | h
      · rcases List.mem_singleton.mp h with rfl; exact h2
      · exact bPart_pos _ _ _ _ b h
  have mg := merged_i (L := bPart 0 row (rle R) 0 ++ ([(num, s)] ++ bPart ((row : Int) + (num : Int)) R.length (rle R) 0)) (by simp only [List.length_append, List.length_cons, List.length_nil]; omega)
  rw [rle_mrg pos, eR, pbsD_app, pbsD_app, show pbsD [(num, s)] = [D.tup [.int (num : Int), .int s]] from rfl] at mg
  have l1 : (pbsD (bPart 0 row (rle R) 0)).length ≤ 3000 := by rw [pbsD_len]; omega
  have l2 : (pbsD (bPart ((row : Int) + (num : Int)) R.length (rle R) 0)).length ≤ 3000 := by rw [pbsD_len]; omega
  generalize pbsD (bPart 0 row (rle R) 0) = X1 at *
  generalize pbsD (bPart ((row : Int) + (num : Int)) R.length (rle R) 0) = X2 at *
  have al := al_ (l := X1 ++ ([D.tup [.int (num : Int), .int s]] ++ X2)) (by simp only [List.length_append, List.length_cons, List.length_nil]; omega)
  simp only [List.cons_append, List.nil_append] at al mg
  unfold s_changed b_changed
  simp! [height_of_i (B := rle R) (by omega) _ (.inl rfl), rle_hgt, require_rows_i (R := R) (by omega) h1 h2 h3, is_shade_i ls lok.2.1, d3, ip, np, p1, p2, List.append_nil, pureL_o, al, mg]
/-! a step of a picture: its tuple, what it does to rows -/
def ChgOk (ls : List (List Int)) (R : List Int) (t : D) (R' : List Int) : Prop := (∃ l, t = .tup l) ∧ ∀ st, s_changed [.p (.scr (lvD ls)), .p (.tup (pbsD (rle R))), .p t] st = .ok (.val (.tup (pbsD (rle R')))) st
theorem behind_i {R R' : List Int} {B : List Bd} {t : D} (h : ChgOk ls R t R') {st : Store} (hn : st[n]? = some (.mu (pic ls w B c p))) : s_Picture_behind [.r n, .p (.tup (pbsD (rle R))), .p t] st = .ok (.val (.tup (pbsD (rle R')))) st := by
  unfold s_Picture_behind b_Picture_behind
  simp! [attrK_r, hn, pic_lim, pic_scr, h.2, notN_ap, notNK_n]
theorem perform_i {R R' : List Int} {t : D} (h : ChgOk ls R t R') (hc : c.length < 100000) (hp : p.length < 100000) {st : Store} (hn : st[n]? = some (.mu (pic ls w (rle R) c p))) :
    s_Picture_perform [.r n, .p t] st = .ok (.val .non) (st.set n (.mu (pic ls w (rle R') (c ++ [t]) (p ++ [.tup (pbsD (rle R))])))) := by
  have hlt := (List.getElem?_eq_some_iff.mp hn).1
  have z : ∀ m : Nat, m < 100000 → m < sizeLine := fun m h => by rw [sizeLine_eq]; omega
  have a1 : ∀ (S : Sg) (d : D), appO 1 "own_past" S d (some (n, picF ls w (rle R) c p, p)) = .ok (.p .non) ⟨S.sl, S.st.set n (.mu (pic ls w (rle R) c (p ++ [d])))⟩ := fun S d => if_pos (z _ hp)
  have a2 : ∀ (S : Sg) (d : D) (p' : List D), appO 1 "own_calls" S d (some (n, picF ls w (rle R) c p', c)) = .ok (.p .non) ⟨S.sl, S.st.set n (.mu (pic ls w (rle R) (c ++ [d]) p'))⟩ := fun S d p' => if_pos (z _ hc)
  have bh := behind_i (B := rle R) h hn
  unfold s_Picture_perform b_Picture_perform
  have gs : ∀ x : Cell, (st.set n x)[n]? = some x := fun x => List.getElem?_set_self hlt
  have b0 : attrU 1 "own_bands" (vr 0) ⟨[some (.r n), some (.p t), some (.p (.tup (pbsD (rle R'))))], st⟩ = .ok (.p (.tup (pbsD (rle R)))) ⟨[some (.r n), some (.p t), some (.p (.tup (pbsD (rle R'))))], st⟩ := by simp! [attrK_r, hn, pic_bnd]
  simp! [methU_r 1, methC_r, hn, pic_meth (m := "behind") (by rfl), attrK_r, pic_bnd, bh]
  rw [ownApp_a b0]
  simp! [olS_r, hn, pic_olp, a1]
  rw [ownApp_v (d := t) (by rfl)]
  simp! [olS_r, gs, pic_olc, a2, fldK_r, pic_fldb]
/-! the methods -/
def stI (row num : Nat) (s : Int) : D := .tup [.str (Str.ofString "insert"), .int (row : Int), .int (num : Int), .int s]
def stP (row num : Nat) (s : Int) : D := .tup [.str (Str.ofString "paint"), .int (row : Int), .int (num : Int), .int s]
def stR (row num : Nat) : D := .tup [.str (Str.ofString "remove"), .int (row : Int), .int (num : Int)]
theorem insert_i {R : List Int} (lok : LvOk ls) (hl : (rle R).length ≤ 3000) {row num : Nat} {s : Int} (h1 : row ≤ R.length) (h2 : 1 ≤ num) (h3 : (num : Int) ≤ (1000000000000000000000000000000 : Int)) (s0 : 0 ≤ s) (s1 : s ≤ 4 ^ ls.length) (hc : c.length < 100000) (hp : p.length < 100000) {st : Store} (hn : st[n]? = some (.mu (pic ls w (rle R) c p))) :
    s_Picture_insert [.r n, .p (.int (row : Int)), .p (.int (num : Int)), .p (.int s)] st = .ok (.val .non) (st.set n (.mu (pic ls w (rle (rIns R row num s)) (c ++ [stI row num s]) (p ++ [.tup (pbsD (rle R))])))) := by
  have pf := perform_i (R' := rIns R row num s) (t := stI row num s) ⟨⟨_, rfl⟩, changed_ins lok hl h1 h2 h3 s0 s1⟩ hc hp hn
  unfold stI at pf ⊢
  unfold s_Picture_insert b_Picture_insert
  simp! [methU_r 1, methC_r, hn, pic_meth (m := "perform") (by rfl), pf]
theorem pic_bands {st : Store} (hl : B.length ≤ 10000) (hn : st[n]? = some (.mu (pic ls w B c p))) : s_Picture_bands [.r n] st = .ok (.new (.lst (pbsD B))) st := by
  unfold s_Picture_bands b_Picture_bands
  simp! [attrK_r, hn, pic_bnd, opList_t]
  rw [finishR_mu (o := .lst (pbsD B)) (by simp) (by simp), List.take_append_of_le_length (Nat.le_refl _), List.take_length]
theorem pic_height {st : Store} (hl : B.length ≤ 10000) (hn : st[n]? = some (.mu (pic ls w B c p))) : s_Picture_height [.r n] st = .ok (.val (.int (bHgt B))) st := by
  unfold s_Picture_height b_Picture_height
  simp! [attrK_r, hn, pic_bnd, height_of_i hl _ (.inl rfl)]
theorem pic_ink {R : List Int} (lok : LvOk ls) (w0 : 1 ≤ w) (w1 : w ≤ (1000000000000000000000000000000 : Int)) (hR : (R.length : Int) ≤ (1000000000000000000000000000000000 : Int)) {st : Store} (hn : st[n]? = some (.mu (pic ls w (rle R) c p))) : s_Picture_ink [.r n] st = .ok (.val (.int (inkR ls w R 0))) st := by
  have ik := ink_of_i lok w0 w1 (B := rle R) _ (.inl rfl) (t := 0) (by decide) (by rw [rle_hgt]; omega)
  rw [inkB_rows, (rle_ok R).2] at ik
  unfold s_Picture_ink b_Picture_ink
  simp! [attrK_r, hn, pic_scr, pic_wid, pic_bnd, ik]
end
end Lib

set_option Elab.async false
set_option linter.all false
set_option maxRecDepth 100000
set_option exponentiation.threshold 2000
namespace Lib
open PySem PySem.Spec PyProof.Rows L2 Dd
end Lib

set_option Elab.async false
set_option linter.all false
set_option maxRecDepth 100000
set_option exponentiation.threshold 2000
set_option maxHeartbeats 2000000
namespace Lib
open PySem PySem.Spec PyProof.Rows L2 Dd
/-! what the laws of pictures compute -/
end Lib

set_option Elab.async false
set_option linter.all false
set_option maxRecDepth 100000
set_option exponentiation.threshold 2000
set_option maxHeartbeats 2000000
namespace Lib
open PySem PySem.Spec PyProof.Rows L2 Dd
/-! the drawn steps of k43 -/
/-! what a step does -/
end Lib

set_option Elab.async false
set_option linter.all false
set_option maxRecDepth 100000
set_option exponentiation.threshold 2000
set_option maxHeartbeats 2000000
namespace Lib
open PySem PySem.Spec PyProof.Rows L2 Dd
/-! pictures: ==, undo, log -/
section
variable {ls ls' : List (List Int)} {w w' : Int} {B B' : List Bd} {c p c' p' : List D} {S : Sg} {n m : Nat}
/-- the past: bands as tuples -/
def pst (P : List (List Bd)) : List D := P.map fun B => D.tup (pbsD B)
end
/-! how bands grow -/
theorem bMrg_len : ∀ L : List Bd, (bMrg L).length ≤ L.length := fun L => by
  have mono : ∀ {L acc : List Bd}, (L.foldl bStep acc).length ≤ acc.length + L.length := fun {L} => by
    induction L with
    | nil => intro acc; simp
    | cons b L ih =>
      intro acc
      have h := ih (acc := bStep acc b)
      have s : (bStep acc b).length ≤ acc.length + 1 := by
        unfold bStep
        split
        · split
          · simp <;> omega
          · simp
        · simp
      simp only [List.foldl_cons, List.length_cons]
      omega
  have := mono (L := L) (acc := [])
  unfold bMrg
  simpa using this
theorem rle_ins_len (R : List Int) (row num : Nat) (s : Int) (h2 : 1 ≤ num) : (rle (rIns R row num s)).length ≤ 2 * (rle R).length + 1 := by
  have q1 := bPart_len 0 (row : Int) (rle R) 0
  have q2 := bPart_len (row : Int) (R.length : Int) (rle R) 0
  have eR : bRows (bPart 0 row (rle R) 0 ++ ([(num, s)] ++ bPart row R.length (rle R) 0)) = rIns R row num s := by
    rw [bRows_app, bRows_app, part_lo, part_hi]
    unfold rIns
    rw [List.append_assoc]
    show R.take row ++ ((List.replicate num s ++ []) ++ R.drop row) = _
    rw [List.append_nil]
  have pos : ∀ b ∈ bPart 0 row (rle R) 0 ++ ([(num, s)] ++ bPart row R.length (rle R) 0), 0 < b.1 := fun b hb => by
    rcases List.mem_append.mp hb with h | h
    · exact bPart_pos _ _ _ _ b h
    · rcases List.mem_append.mp h with h | h
      · rcases List.mem_singleton.mp h with rfl; exact h2
      · exact bPart_pos _ _ _ _ b h
  rw [← eR, ← rle_mrg pos]
  have := bMrg_len (bPart 0 row (rle R) 0 ++ ([(num, s)] ++ bPart row R.length (rle R) 0))
  simp only [List.length_append, List.length_cons, List.length_nil] at this
  omega
/-! rows put in, painted, taken out -/
theorem rle_rep {n : Nat} (h : 0 < n) (s : Int) : rle (List.replicate n s) = [(n, s)] := by
  have := rle_of (B := [(n, s)]) h
  rw [← this]
  congr 1
  show _ = List.replicate n s ++ []
  rw [List.append_nil]
/-! the methods, with the past as bands -/
section
variable {ls : List (List Int)} {w : Int} {c : List D} {n : Nat} {R : List Int} {P : List (List Bd)}
theorem pst_snoc (P : List (List Bd)) (B : List Bd) : pst P ++ [.tup (pbsD B)] = pst (P ++ [B]) := by unfold pst; rw [List.map_append]; rfl
theorem pst_len (P : List (List Bd)) : (pst P).length = P.length := List.length_map ..
theorem insP (lok : LvOk ls) (hl : (rle R).length ≤ 3000) {row num : Nat} {s : Int} (h1 : row ≤ R.length) (h2 : 1 ≤ num) (h3 : (num : Int) ≤ (1000000000000000000000000000000 : Int)) (s0 : 0 ≤ s) (s1 : s ≤ 4 ^ ls.length) (hc : c.length < 100) (hp : P.length < 100) (st : Store) (hn : st[n]? = some (.mu (pic ls w (rle R) c (pst P)))) :
    s_Picture_insert [.r n, .p (.int (row : Int)), .p (.int (num : Int)), .p (.int s)] st = .ok (.val .non) (st.set n (.mu (pic ls w (rle (rIns R row num s)) (c ++ [stI row num s]) (pst (P ++ [rle R]))))) := by
  rw [← pst_snoc]
  exact insert_i lok hl h1 h2 h3 s0 s1 (by omega) (by rw [pst_len]; omega) hn
end
theorem rle_mem {R : List Int} {b : Bd} (h : b ∈ rle R) : b.2 ∈ R ∧ b.1 ≤ R.length := by
  have p := (rle_ok R).1.pos b h
  have e := (rle_ok R).2
  have : ∀ B : List Bd, b ∈ B → b.2 ∈ bRows B ∧ b.1 ≤ (bRows B).length := fun B => by
    induction B with
    | nil => intro h; cases h
    | cons x r ih =>
      intro h
      show b.2 ∈ List.replicate x.1 x.2 ++ bRows r ∧ b.1 ≤ (List.replicate x.1 x.2 ++ bRows r).length
      rw [List.length_append, List.length_replicate]
      rcases List.mem_cons.mp h with rfl | h
      · exact ⟨List.mem_append.mpr (.inl (List.mem_replicate.mpr ⟨by omega, rfl⟩)), by omega⟩
      · obtain ⟨a, c⟩ := ih h
        exact ⟨List.mem_append.mpr (.inr a), by omega⟩
  have := this _ h
  rw [e] at this; exact this
end Lib

set_option Elab.async false
set_option linter.all false
set_option maxRecDepth 100000
set_option exponentiation.threshold 2000
set_option maxHeartbeats 4000000
/-! previews of steps -/
namespace Lib
open PySem PySem.Spec PyProof.Rows L2 Dd
def IsOp (v : D) : Prop := (∃ (a b : Nat) (s : Int), v = stI a b s) ∨ (∃ a b : Nat, v = stR a b) ∨ ∃ (a b : Nat) (s : Int), v = stP a b s
theorem wgI {x : R} {S : Sg} : wgetK [("insert", 4), ("remove", 3), ("paint", 4)] (.p (.str (Str.ofString "insert"))) x S = .ok (.p (.int 4)) S := by
  rw [wgetK_ap, show List.lookup (Str.ofString "insert") [(("insert" : Str), (4 : Int)), ("remove", 3), ("paint", 4)] = some 4 by decide +kernel]
theorem wgR {x : R} {S : Sg} : wgetK [("insert", 4), ("remove", 3), ("paint", 4)] (.p (.str (Str.ofString "remove"))) x S = .ok (.p (.int 3)) S := by
  rw [wgetK_ap, show List.lookup (Str.ofString "remove") [(("insert" : Str), (4 : Int)), ("remove", 3), ("paint", 4)] = some 3 by decide +kernel]
theorem wgP {x : R} {S : Sg} : wgetK [("insert", 4), ("remove", 3), ("paint", 4)] (.p (.str (Str.ofString "paint"))) x S = .ok (.p (.int 4)) S := by
  rw [wgetK_ap, show List.lookup (Str.ofString "paint") [(("insert" : Str), (4 : Int)), ("remove", 3), ("paint", 4)] = some 4 by decide +kernel]
theorem eqT4 {s : Str} {a b c : Int} {S : Sg} (hs : PyData.strOk s = true) : opEqD (.p (.tup [.str s, .int a, .int b, .int c])) (.p (.tup [])) S = .ok (.p (.bl false)) S := by
  rw [opEqD_of (d := .tuple [.str s, .int a, .int b, .int c]) (e := .tuple []) (by rfl) (by rfl) (by unfold SeqAt.shaped; simp [PyData.canLay0, PyData.canLayAll0, hs, PyData.depth, PyData.depthAll]) (by decide)]
  rfl
theorem eqT3 {s : Str} {a b : Int} {S : Sg} (hs : PyData.strOk s = true) : opEqD (.p (.tup [.str s, .int a, .int b])) (.p (.tup [])) S = .ok (.p (.bl false)) S := by
  rw [opEqD_of (d := .tuple [.str s, .int a, .int b]) (e := .tuple []) (by rfl) (by rfl) (by unfold SeqAt.shaped; simp [PyData.canLay0, PyData.canLayAll0, hs, PyData.depth, PyData.depthAll]) (by decide)]
  rfl
theorem isStr_ap {s : Str} {S : Sg} : isK "str" (.p (.str s)) S = .ok (.p (.bl true)) S := by rw [isK_okD (d := .str s) rfl, isaD_str]
theorem is_op_i {v : D} (h : IsOp v) (st : Store) : s_is_operation [.p v] st = .ok (.val (.bl true)) st := by
  have kI : PyData.strOk (Str.ofString "insert") = true := by decide +kernel
  have kR : PyData.strOk (Str.ofString "remove") = true := by decide +kernel
  have kP : PyData.strOk (Str.ofString "paint") = true := by decide +kernel
  rcases h with ⟨a, b, s, rfl⟩ | ⟨a, b, rfl⟩ | ⟨a, b, s, rfl⟩
  · unfold s_is_operation b_is_operation stI
    simp! [eqT4 kI, isStr_ap, wgetE_ap, wgI]
  · unfold s_is_operation b_is_operation stR
    simp! [eqT3 kR, isStr_ap, wgetE_ap, wgR]
  · unfold s_is_operation b_is_operation stP
    simp! [eqT4 kP, isStr_ap, wgetE_ap, wgP]
/-- rows behind some steps -/
def Chn (ls : List (List Int)) : List Int → List D → List Int → Prop
  | R, [], R' => R' = R
  | R, v :: r, R' => ∃ R1, IsOp v ∧ ChgOk ls R v R1 ∧ Chn ls R1 r R'
theorem Chn.op {ls : List (List Int)} : ∀ {vs : List D} {R R' : List Int}, Chn ls R vs R' → ∀ v ∈ vs, IsOp v
  | [], _, _, _, v, h => by simp at h
  | u :: r, R, R', ⟨R1, h1, _, h3⟩, v, h => by
    rcases List.mem_cons.mp h with rfl | h
    · exact h1
    · exact Chn.op h3 v h
theorem Chn.at {ls : List (List Int)} : ∀ {vs : List D} {R R' : List Int}, Chn ls R vs R' → ∃ F : Nat → List Int, F 0 = R ∧ F vs.length = R' ∧ ∀ j v, vs[j]? = some v → ChgOk ls (F j) v (F (j + 1))
  | [], R, R', h => ⟨fun _ => R, rfl, by rw [show R' = R from h], by simp⟩
  | u :: r, R, R', ⟨R1, h1, h2, h3⟩ => by
    obtain ⟨F, f0, f1, f2⟩ := Chn.at h3
    refine ⟨fun j => match j with | 0 => R | j + 1 => F j, rfl, f1, fun j v h => ?_⟩
    cases j with
    | zero => simp at h; subst h; rw [← f0] at h2; exact h2
    | succ j => exact f2 j v (by simpa using h)
section
variable {ls : List (List Int)} {w : Int} {B : List Bd} {c p : List D} {n : Nat}
theorem preview_i (lok : LvOk ls) (w0 : 1 ≤ w) (w1 : w ≤ (1000000000000000000000000000000 : Int)) {R R' : List Int} {vs : List D} (hv : Chn ls R vs R') (hl : vs.length ≤ 1000) (hR : (R'.length : Int) ≤ (1000000000000000000000000000000000 : Int)) {st : Store} (hn : st[n]? = some (.mu (pic ls w (rle R) c p))) :
    s_Picture_preview [.r n, .p (.tup vs)] st = .ok (.val (.int (inkR ls w R' 0))) st := by
  obtain ⟨F, f0, f1, f2⟩ := hv.at
  have ops := hv.op
  have ik : ∀ st, s_ink_of [.p (.scr (lvD ls)), .p (.int w), .p (.tup (pbsD (rle R'))), .p (.int 0)] st = .ok (.val (.int (inkR ls w R' 0))) st := fun st => by
    rw [ink_of_i lok w0 w1 (.tup (pbsD (rle R'))) (.inl rfl) (t := 0) (by decide) (by rw [rle_hgt]; omega) st, inkB_rows, (rle_ok R').2]
  refine fin_eq ?_
  unfold s_Picture_preview b_Picture_preview
  simp! [bnd_bnd]
  rw [lcL_map (g := fun _ => D.bl true) trivial _ _ (fun d hd => by
    rw [lcB1_ap]
    have q := is_op_i (ops d hd)
    simp! [q]) (by simp; omega), lcFin_ok (by simp; omega)]
  have bm : ∀ l : List D, blsOf (l.map fun _ => D.bl true) = some (l.map fun _ => true) := fun l => by
    induction l with
    | nil => rfl
    | cons a r ih => simp only [List.map_cons, blsOf, ih]
  have al : ∀ l : List D, (l.map fun _ => true).all id = true := fun l => by simp
  have gn : ∀ Z : Store, (st ++ Z)[n]? = some (.mu (pic ls w (rle R) c p)) := fun Z => get_old hn
  simp! [bnd_bnd, List.nil_append, allK, bm, al, attrK_r, gn, pic_bnd]
  generalize [Cell.mu (Con.lst (List.map (fun x => D.bl true) vs))] = Z
  refine wpf_bnd (wp_loop (I := fun i S => ∃ s3, S = ⟨[some (.r n), some (.p (.tup vs)), some (.p (.tup (pbsD (rle (F i))))), s3], st ++ Z⟩) ?_ ?_ ?_ ?_)
  · exact ⟨none, by rw [f0]⟩
  · intros; trivial
  · rintro j d S hj ⟨s3, rfl⟩
    have bh := fun (st' : Store) (h : st'[n]? = some (.mu (pic ls w (rle R) c p))) => behind_i (f2 j d hj) h
    rw [bind_bnd]
    simp! [bnd_bnd, methU_r 1, methC_r, gn, pic_meth (m := "behind") (by rfl), bh]
    exact wp_ok ⟨_, rfl⟩
  · rintro S ⟨s3, rfl⟩
    rw [f1]
    simp! [bnd_bnd, attrK_r, gn, pic_scr, pic_wid, ik]
    exact wpf_ok ⟨rfl, rfl⟩
end
theorem chg_pnt {ls : List (List Int)} {R : List Int} (lok : LvOk ls) (hl : (rle R).length ≤ 3000) {row num : Nat} {s : Int} (h1 : row < R.length) (h2 : 1 ≤ num) (h3 : row + num ≤ R.length) (s0 : 0 ≤ s) (s1 : s ≤ 4 ^ ls.length) : IsOp (stP row num s) ∧ ChgOk ls R (stP row num s) (rPnt R row num s) :=
  ⟨.inr (.inr ⟨_, _, _, rfl⟩), ⟨_, rfl⟩, changed_pnt lok hl h1 h2 h3 s0 s1⟩
end Lib

set_option Elab.async false
set_option linter.all false
set_option maxRecDepth 100000
set_option maxHeartbeats 4000000
set_option exponentiation.threshold 2000
namespace Lib
open PySem PySem.Spec PyProof.Rows L2 Dd
/-! ### defs that return a pair: how they are walked -/
def sq2K (h2 : M Fl2) (f : Fl) (S : Sg) : Res Fl2 := match f with
  | .nx => h2 S
  | _ => .bad
theorem sq2K_nx {h2 : M Fl2} {S : Sg} : sq2K h2 .nx S = h2 S := rfl
theorem sSq2_ap {h1 : M Fl} {h2 : M Fl2} {S : Sg} : sSq2 h1 h2 S = (h1 S).bnd (sq2K h2) := by
  unfold sSq2
  cases h1 S with
  | bad => rfl
  | exc x S' => rfl
  | ok f S' => cases f <;> rfl
theorem sRt2_ap {fa fb : M R} {S : Sg} : sRt2 fa fb S = (fa S).bnd fun x S1 => (fb S1).bnd fun y S2 => .ok (.rt x y) S2 := by
  unfold sRt2
  cases fa S with
  | bad => rfl
  | exc x S' => rfl
  | ok f S' =>
    simp only [bnd_ok]
    cases fb S' <;> rfl
theorem sAsg2_ap {F : Fn2} {n i j : Nat} {g : M (List R)} {S : Sg} : sAsg2 F n i j g S = (g S).bnd fun xs S => if xs.length = n then applyF2 i j S (F xs S.st) else .bad := by unfold sAsg2; rw [bind_bnd]
theorem applyF2_ok {i j : Nat} {S : Sg} {o : Con} {d : D} {st : Store} : applyF2 i j S (.ok o d st) = .ok .nx ⟨(S.sl.set i (some (.r st.length))).set j (some (.p d)), st ++ [.mu o]⟩ := rfl
theorem runF2_wp {n : Nat} {h : M Fl2} {xs : List R} {st : Store} {P : Con → D → Store → Prop} (w : Wp (h (startS n xs st)) fun f S => ∃ (k : Nat) (d : D) (o : Con), f = .rt (.r k) (.p d) ∧ st.length ≤ k ∧ S.st[k]? = some (.mu o) ∧ P o d (S.st.take st.length)) :
    ∃ o d st', runF2 n h xs st = .ok o d st' ∧ P o d st' := by
  obtain ⟨f, S, e, k, d, o, rfl, hk, ho, p⟩ := w
  refine ⟨o, d, _, ?_, p⟩
  show finish2 st.length (h (startS n xs st)) = _
  rw [e]
  show (if st.length ≤ k then (match S.st[k]? with | some (.mu o) => FRes2.ok o d (S.st.take st.length) | _ => .bad) else .bad) = _
  rw [if_pos hk, ho]
/-! ### rows put in at the end -/
theorem ins_end (R : List Int) (num : Nat) (s : Int) : rIns R R.length num s = R ++ List.replicate num s := by
  unfold rIns
  rw [List.take_length, List.drop_length, List.append_nil]
theorem ink_end (ls : List (List Int)) (w : Int) (R : List Int) (num : Nat) (s : Int) : inkR ls w (R ++ List.replicate num s) 0 = inkR ls w R 0 + cnt ls s 0 R.length w num := by
  rw [inkR_app, inkR_rep, Int.zero_add]
/-! ### ink by other screens -/
theorem inkR_map {ls ls2 : List (List Int)} {w : Int} (f : Int → Int) : ∀ (R : List Int), (∀ s ∈ R, ∀ t, cnt ls2 (f s) 0 t w 1 = cnt ls s 0 t w 1) → ∀ t, inkR ls2 w (R.map f) t = inkR ls w R t
  | [], _, t => rfl
  | s :: R, h, t => by
    show cnt ls2 (f s) 0 t w 1 + inkR ls2 w (R.map f) (t + 1) = cnt ls s 0 t w 1 + inkR ls w R (t + 1)
    rw [h s List.mem_cons_self t, inkR_map f R (fun z hz => h z (List.mem_cons_of_mem _ hz)) (t + 1)]
theorem sm_rev7 (F : Int → Int) : ∀ (n : Nat) (l : Int), sm n (fun x => F (-1 - x)) (-l - n) = sm n F l
  | 0, l => rfl
  | n + 1, l => by
    rw [sm_add F n 1 l]
    show F (-1 - (-l - ((n + 1 : Nat) : Int))) + sm n (fun x => F (-1 - x)) (-l - ((n + 1 : Nat) : Int) + 1) = sm n F l + (F (l + n) + 0)
    rw [show -l - ((n + 1 : Nat) : Int) + 1 = -l - n by omega, sm_rev7 F n l, show -1 - (-l - ((n + 1 : Nat) : Int)) = l + n by omega]
    omega
theorem cnt_mir7 {ls : List (List Int)} (hp : Lvs ls) {k : Int} (k0 : 0 ≤ k) (k1 : k ≤ 4 ^ ls.length) {l t w h : Int} (hw : 0 ≤ w) (hh : 0 ≤ h) : cnt (rea [1, 0, 3, 2] ls) k (0 - l - w) t w h = cnt ls k l t w h := by
  obtain ⟨m, rfl⟩ : ∃ m : Nat, w = m := ⟨w.toNat, by omega⟩
  obtain ⟨n, rfl⟩ : ∃ m : Nat, h = m := ⟨h.toNat, by omega⟩
  have hp2 : Lvs (rea [1, 0, 3, 2] ls) := rea_lvs (by decide) hp
  rw [cnt_sm hp k0 k1, cnt_sm hp2 k0 (by rw [rea_len]; exact k1), show 0 - l - (m : Int) = -l - m by omega]
  unfold sm2
  refine sm_congr n t fun y _ _ => ?_
  rw [← sm_rev7 (fun x => dt ls k x y) m l]
  refine sm_congr m _ fun x _ _ => ?_
  unfold dt
  rw [thr_mir]
/-- whole periods of the mirrored screen -/
theorem mir_whole {ls : List (List Int)} (lok : LvOk ls) {q : Int} (q0 : 0 ≤ q) {R : List Int} (hR : ∀ s ∈ R, 0 ≤ s ∧ s ≤ 4 ^ ls.length) (t : Int) : inkR (rea [1, 0, 3, 2] ls) (2 ^ ls.length * q) R t = inkR ls (2 ^ ls.length * q) R t := by
  have W0 : 0 ≤ 2 ^ ls.length * q := Int.mul_nonneg (Int.le_of_lt (two_pos _)) q0
  have h := inkR_map (ls := ls) (ls2 := rea [1, 0, 3, 2] ls) (w := 2 ^ ls.length * q) id R (fun s hs t => by
    have a := cnt_mir7 lok.2.2 (hR s hs).1 (hR s hs).2 (l := -(2 ^ ls.length * q)) (t := t) W0 (show (0 : Int) ≤ 1 by decide)
    rw [show 0 - -(2 ^ ls.length * q) - 2 ^ ls.length * q = 0 by omega] at a
    have b := cnt_shift lok.2.1 lok.2.2 s 0 t (2 ^ ls.length * q) 1 (-q) 0
    rw [show 0 + -q * 2 ^ ls.length = -(2 ^ ls.length * q) by rw [Int.neg_mul, Int.mul_comm]; omega, Int.zero_mul, Int.add_zero] at b
    show cnt (rea [1, 0, 3, 2] ls) s 0 t _ 1 = _
    rw [a, b]) t
  rwa [List.map_id] at h
/-- the first levels' shades -/
theorem few_ink {ls : List (List Int)} (lok : LvOk ls) {k : Nat} (k1 : 1 ≤ k) (k2 : k < ls.length) {w : Int} (w0 : 0 ≤ w) {Q : List Int} (hQ : ∀ q ∈ Q, 0 ≤ q ∧ q ≤ 4 ^ k) (t : Int) : inkR ls w (Q.map fun q => q * 4 ^ (ls.length - k)) t = inkR (ls.take k) w Q t := by
  have la : (ls.take k).length = k := by rw [List.length_take]; omega
  have lb : (ls.drop k).length = ls.length - k := List.length_drop
  have ha : LvOk (ls.take k) := ⟨by omega, by have := lok.2.1; omega, fun z hz => lok.2.2 z (List.mem_of_mem_take hz)⟩
  have hb : LvOk (ls.drop k) := ⟨by omega, by have := lok.2.1; omega, fun z hz => lok.2.2 z (List.mem_of_mem_drop hz)⟩
  refine inkR_map (ls := ls.take k) (ls2 := ls) (fun q => q * 4 ^ (ls.length - k)) Q (fun q hq t => ?_) t
  have := st_cnt ha hb (k := q) (hQ q hq).1 (by rw [la]; exact (hQ q hq).2) w0 (show (0 : Int) ≤ 1 by decide) 0 t
  rw [lb, List.take_append_drop] at this
  exact this
theorem wpf_ite {c : Prop} [Decidable c] {A B : FRes} {Q : FR → Store → Prop} (h : c → A = B) (hb : WpF B Q) : WpF (if c then A else B) Q := by
  by_cases hc : c
  · rw [if_pos hc, h hc]; exact hb
  · rw [if_neg hc]; exact hb
end Lib

set_option Elab.async false
set_option linter.all false
set_option maxRecDepth 100000
set_option maxHeartbeats 4000000
namespace K70
open PySem PySem.Spec PyProof.Rows L2 Dd Lib
noncomputable def b_z_law_filled : M Fl2 :=
    (sSq2 (sPar3 5 6 7 (aC (makeU 1 s_Picture___init 3 (aC (vr 1) (aC (vr 2) aN))) (aC (ci 0) (aC (ci 0) aN))))
    (sSq2 (sFor (itL (vr 4)) (gN 8) (sSq (sSet 9 (bin opAdd (ci 1) (callM s_z_law_pick 2 (aC (vr 0) (aC (vr 3) aN)))))
    (sSq (sEx (methU 1 "insert" s_Picture_insert 4 (vr 5) (aC (propU 1 s_Picture_height (vr 5)) (aC (vr 9) (aC (vr 8) aN)))))
    (sPar 6 7 (aC (bin opAdd (vr 6) (callM s_dot_count 3 (aC (vr 1) (aC (vr 8) (aC (tupE (aC (ci 0) (aC (vr 7) (aC (vr 2) (aC (vr 9) aN))))) aN))))) (aC (bin opAdd (vr 7) (vr 9)) aN))))))
    (sRt2 (vr 5) (vr 6))))
noncomputable def s_z_law_filled : Fn2 := runF2 10 b_z_law_filled

noncomputable def b_z_law_again : M Fl :=
    (sSq (sSet 3 (makeU 1 s_Picture___init 3 (aC (vr 1) (aC (vr 2) aN))))
    (sSq (sFor (itL (propU 1 s_Picture_bands (vr 0))) (gT 2 (gsC (gN 4) (gsC (gN 5) gsN))) (sEx (methU 1 "insert" s_Picture_insert 4 (vr 3) (aC (propU 1 s_Picture_height (vr 3)) (aC (vr 4) (aC (vr 5) aN))))))
    (sRt (vr 3))))
noncomputable def s_z_law_again : Fn := runF 6 b_z_law_again

noncomputable def b_z_law_right : M Fl :=
    (sSq (sSet 3 (pur (makeU 0 s_Screen___init 2 (aC (pur (callM s_z_law_levels_v2 2 (aC (vr 0) (aC (vr 1) aN)))) aN))))
    (sSq (sPar 4 5 (aC (bin opAdd (ci 1) (callM s_z_law_pick 2 (aC (vr 0) (aC (vr 2) aN)))) (aC (pur (lcE [17] [17] unp1 (itR1 (aC (ci 3) aN)) tYesM (callM s_z_law_pick 2 (aC (vr 0) (aC (bin opAdd (propU 0 s_Screen_shades (vr 3)) (ci 1)) aN))))) aN)))
    (sSq (sAsg2 s_z_law_filled 5 6 7 (aC (vr 0) (aC (vr 3) (aC (vr 4) (aC (vr 2) (aC (vr 5) aN))))))
    (sSq (sIf (tst (bin opNeD (methU 1 "ink" s_Picture_ink 1 (vr 6) aN) (vr 7))) (sRt (cb false)) sNx)
    (sSq (sSet 8 (bin opAdd (ci 1) (callM s_z_law_pick 2 (aC (vr 0) (aC (vr 2) aN)))))
    (sSq (sSet 9 (callM s_z_law_pick 2 (aC (vr 0) (aC (bin opAdd (bin opMul (vr 4) (vr 8)) (ci 1)) aN))))
    (sSq (sSet 10 (callM s_least_shade 3 (aC (vr 3) (aC (tupE (aC (ci 0) (aC (ci 0) (aC (vr 4) (aC (vr 8) aN))))) (aC (vr 9) aN)))))
    (sSq (sSet 11 (makeU 1 s_Picture___init 3 (aC (vr 3) (aC (vr 4) aN))))
    (sSq (sEx (methU 1 "insert" s_Picture_insert 4 (vr 11) (aC (ci 0) (aC (vr 8) (aC (vr 10) aN)))))
    (sSq (sIf (mOr (tst (bin opLt (methU 1 "ink" s_Picture_ink 1 (vr 11) aN) (vr 9))) (tst (bin opNeD (methU 1 "ink" s_Picture_ink 1 (vr 11) aN) (callM s_dot_count 3 (aC (vr 3) (aC (vr 10) (aC (tupE (aC (ci 0) (aC (ci 0) (aC (vr 4) (aC (vr 8) aN))))) aN))))))) (sRt (cb false)) sNx)
    (sSq (sIf (mAnd (tst (bin opGt (vr 10) (ci 0))) (tst (bin opGe (methU 1 "preview" s_Picture_preview 2 (vr 11) (aC (tupE (aC (tupE (aC (cs "paint") (aC (ci 0) (aC (vr 8) (aC (bin opSub (vr 10) (ci 1)) aN))))) aN)) aN)) (vr 9)))) (sRt (cb false)) sNx)
    (sSq (sSet 12 (bin opMul (propU 0 s_Screen_period (vr 3)) (bin opAdd (ci 1) (callM s_z_law_pick 2 (aC (vr 0) (aC (ci 5) aN))))))
    (sSq (sIf (tst (bin opNeD (methU 1 "ink" s_Picture_ink 1 (callM s_z_law_again 3 (aC (vr 6) (aC (vr 3) (aC (vr 12) aN)))) aN) (methU 1 "ink" s_Picture_ink 1 (callM s_z_law_again 3 (aC (vr 6) (aC (pur (callM s_mirrored 1 (aC (vr 3) aN))) (aC (vr 12) aN)))) aN))) (sRt (cb false)) sNx)
    (sSq (sIf (tst (bin opEqD (propU 0 s_Screen_depth (vr 3)) (ci 1))) (sRt (cb true)) sNx)
    (sSq (sPar 13 14 (aC (pur (callM s_first_levels 2 (aC (vr 3) (aC (bin opAdd (ci 1) (callM s_z_law_pick 2 (aC (vr 0) (aC (bin opSub (propU 0 s_Screen_depth (vr 3)) (ci 1)) aN)))) aN)))) (aC (makeU 1 s_Picture___init 3 (aC (vr 3) (aC (vr 4) aN))) aN)))
    (sSq (sSet 15 (bin opDiv (propU 0 s_Screen_shades (vr 3)) (propU 0 s_Screen_shades (vr 13))))
    (sSq (sSet 16 (makeU 1 s_Picture___init 3 (aC (vr 13) (aC (vr 4) aN))))
    (sSq (sFor (itL (vr 5)) (gN 10) (sSq (sEx (methU 1 "insert" s_Picture_insert 4 (vr 14) (aC (propU 1 s_Picture_height (vr 14)) (aC (bin opAdd (ci 1) (vr 8)) (aC (bin opMul (bin opDiv (vr 10) (vr 15)) (vr 15)) aN)))))
    (sEx (methU 1 "insert" s_Picture_insert 4 (vr 16) (aC (propU 1 s_Picture_height (vr 16)) (aC (bin opAdd (ci 1) (vr 8)) (aC (bin opDiv (vr 10) (vr 15)) aN)))))))
    (sRt (bin opEqD (methU 1 "ink" s_Picture_ink 1 (vr 14) aN) (methU 1 "ink" s_Picture_ink 1 (vr 16) aN)))))))))))))))))))))
noncomputable def s_z_law_right : Fn := runF 18 b_z_law_right

noncomputable def b_law : M Fl :=
    (sSq (sFor (itL (bin opAdd (slE (vr 0) opt0 (opt1 (ci 4))) (lstE (aC (ci 0) aN)))) (gN 1) (sSq (sSet 2 (callM s_z_law_bag 1 (aC (vr 1) aN)))
    (sIf (mOr (mNot (tst (callM s_z_law_right 3 (aC (vr 2) (aC (ci 3) (aC (ci 40) aN)))))) (mNot (tst (callM s_z_law_right 3 (aC (vr 2) (aC (ci 50) (aC (bin opPow (ci 10) (ci 28)) aN))))))) (sRt (cb false)) sNx)))
    (sRt (cb true)))
noncomputable def s_law : Fn := runF 3 b_law
end K70

set_option Elab.async false
set_option linter.all false
set_option maxRecDepth 100000
set_option maxHeartbeats 4000000
namespace K70
open PySem PySem.Spec PyProof.Rows L2 Dd Lib
def top (i : Nat) : Stmt := PySem.Challenge.pw_ditherdepths_k70_whole_pictures_and_dots.main.body.getD i (.Pass ⟨0, 0, 0, 0⟩)
structure Fx (w : World) (K : PySem.W.Frag) (mg : Str → Option Value) (cls A : Nat → Addr) (FD : Nat → FuncData) : Prop where
  f_z_law_bag : Fun K "_law_bag" "_law_bag" (top 57) (A 0) (FD 0)
  b_z_law_bag : Binds K (FD 0) ["cell"] []
  m_z_law_bag : mg "_law_bag" = some (.ref (A 0))
  f_is_int : Fun K "is_int" "is_int" (top 2) (A 1) (FD 1)
  b_is_int : Binds K (FD 1) ["value"] []
  m_is_int : mg "is_int" = some (.ref (A 1))
  f_is_level : Fun K "is_level" "is_level" (top 22) (A 2) (FD 2)
  b_is_level : Binds K (FD 2) ["value"] []
  m_is_level : mg "is_level" = some (.ref (A 2))
  f_Screen___init : Fun K "__init__" "Screen.__init__" (inClass (top 23) 0) (A 3) (FD 3)
  b_Screen___init : Binds K (FD 3) ["self", "levels"] []
  mk0 : Mk K (cls 0) (A 3)
  f_require_screen : Fun K "require_screen" "require_screen" (top 18) (A 4) (FD 4)
  b_require_screen : Binds K (FD 4) ["value"] []
  m_require_screen : mg "require_screen" = some (.ref (A 4))
  f_is_whole : Fun K "is_whole" "is_whole" (top 3) (A 5) (FD 5)
  b_is_whole : Binds K (FD 5) ["value", "low", "high"] []
  m_is_whole : mg "is_whole" = some (.ref (A 5))
  f_Picture___init : Fun K "__init__" "Picture.__init__" (inClass (top 49) 0) (A 6) (FD 6)
  b_Picture___init : Binds K (FD 6) ["self", "screen", "width"] []
  mk1 : Mk K (cls 1) (A 6)
  f_merged : Fun K "merged" "merged" (top 43) (A 7) (FD 7)
  b_merged : Binds K (FD 7) ["bands"] []
  m_merged : mg "merged" = some (.ref (A 7))
  f_height_of : Fun K "height_of" "height_of" (top 44) (A 8) (FD 8)
  b_height_of : Binds K (FD 8) ["bands"] []
  m_height_of : mg "height_of" = some (.ref (A 8))
  f_require_rows : Fun K "require_rows" "require_rows" (top 47) (A 9) (FD 9)
  b_require_rows : Binds K (FD 9) ["bands", "row", "number"] []
  m_require_rows : mg "require_rows" = some (.ref (A 9))
  f_is_shade : Fun K "is_shade" "is_shade" (top 21) (A 10) (FD 10)
  b_is_shade : Binds K (FD 10) ["screen", "value"] []
  m_is_shade : mg "is_shade" = some (.ref (A 10))
  f_part_of : Fun K "part_of" "part_of" (top 45) (A 11) (FD 11)
  b_part_of : Binds K (FD 11) ["bands", "begin", "end"] []
  m_part_of : mg "part_of" = some (.ref (A 11))
  f_changed : Fun K "changed" "changed" (top 48) (A 12) (FD 12)
  b_changed : Binds K (FD 12) ["screen", "bands", "step"] []
  m_changed : mg "changed" = some (.ref (A 12))
  f_residues : Fun K "residues" "residues" (top 33) (A 13) (FD 13)
  b_residues : Binds K (FD 13) ["first", "many", "residue", "shift"] []
  m_residues : mg "residues" = some (.ref (A 13))
  f_places_with : Fun K "places_with" "places_with" (top 34) (A 14) (FD 14)
  b_places_with : Binds K (FD 14) ["window", "x", "y", "shift"] []
  m_places_with : mg "places_with" = some (.ref (A 14))
  f_cells_below : Fun K "cells_below" "cells_below" (top 35) (A 15) (FD 15)
  b_cells_below : Binds K (FD 15) ["levels", "shade"] []
  m_cells_below : mg "cells_below" = some (.ref (A 15))
  f_count_of : Fun K "count_of" "count_of" (top 36) (A 16) (FD 16)
  b_count_of : Binds K (FD 16) ["levels", "shade", "window"] []
  m_count_of : mg "count_of" = some (.ref (A 16))
  f_dots_in : Fun K "dots_in" "dots_in" (top 37) (A 17) (FD 17)
  b_dots_in : Binds K (FD 17) ["screen", "shade", "window"] []
  m_dots_in : mg "dots_in" = some (.ref (A 17))
  f_ink_of : Fun K "ink_of" "ink_of" (top 46) (A 18) (FD 18)
  b_ink_of : Binds K (FD 18) ["screen", "width", "bands", "top"] []
  m_ink_of : mg "ink_of" = some (.ref (A 18))
  f_Picture_behind : Fun K "behind" "Picture.behind" (inClass (top 49) 6) (A 19) (FD 19)
  b_Picture_behind : Binds K (FD 19) ["self", "bands", "step"] []
  h_Picture_behind : Meth K (cls 1) "behind" (A 19)
  f_Picture_perform : Fun K "perform" "Picture.perform" (inClass (top 49) 7) (A 20) (FD 20)
  b_Picture_perform : Binds K (FD 20) ["self", "step"] []
  h_Picture_perform : Meth K (cls 1) "perform" (A 20)
  f_Picture_insert : Fun K "insert" "Picture.insert" (inClass (top 49) 8) (A 21) (FD 21)
  b_Picture_insert : Binds K (FD 21) ["self", "row", "number", "shade"] []
  h_Picture_insert : Meth K (cls 1) "insert" (A 21)
  f_z_law_pick : Fun K "_law_pick" "_law_pick" (top 58) (A 22) (FD 22)
  b_z_law_pick : Binds K (FD 22) ["bag", "many"] []
  m_z_law_pick : mg "_law_pick" = some (.ref (A 22))
  f_Picture_height : Fun K "height" "Picture.height" (inClass (top 49) 4) (A 23) (FD 23)
  b_Picture_height : Binds K (FD 23) ["self"] []
  p_Picture_height : ∃ pA, PropOf K (cls 1) "height" pA (A 23)
  f_require_shade : Fun K "require_shade" "require_shade" (top 30) (A 24) (FD 24)
  b_require_shade : Binds K (FD 24) ["screen", "value"] []
  m_require_shade : mg "require_shade" = some (.ref (A 24))
  f_is_window : Fun K "is_window" "is_window" (top 31) (A 25) (FD 25)
  b_is_window : Binds K (FD 25) ["value"] []
  m_is_window : mg "is_window" = some (.ref (A 25))
  f_require_window : Fun K "require_window" "require_window" (top 32) (A 26) (FD 26)
  b_require_window : Binds K (FD 26) ["value"] []
  m_require_window : mg "require_window" = some (.ref (A 26))
  f_dot_count : Fun K "dot_count" "dot_count" (top 38) (A 27) (FD 27)
  b_dot_count : Binds K (FD 27) ["screen", "shade", "window"] []
  m_dot_count : mg "dot_count" = some (.ref (A 27))
  f_z_law_filled : Fun K "_law_filled" "_law_filled" (top 64) (A 28) (FD 28)
  b_z_law_filled : Binds K (FD 28) ["bag", "screen", "width", "long", "shades"] []
  m_z_law_filled : mg "_law_filled" = some (.ref (A 28))
  f_require_number : Fun K "require_number" "require_number" (top 51) (A 29) (FD 29)
  b_require_number : Binds K (FD 29) ["value", "low", "high"] []
  m_require_number : mg "require_number" = some (.ref (A 29))
  f_nth_of_window : Fun K "nth_of_window" "nth_of_window" (top 52) (A 30) (FD 30)
  b_nth_of_window : Binds K (FD 30) ["screen", "window", "number"] []
  m_nth_of_window : mg "nth_of_window" = some (.ref (A 30))
  f_least_with : Fun K "least_with" "least_with" (top 54) (A 31) (FD 31)
  b_least_with : Binds K (FD 31) ["screen", "window", "number"] []
  m_least_with : mg "least_with" = some (.ref (A 31))
  f_places_of : Fun K "places_of" "places_of" (top 53) (A 32) (FD 32)
  b_places_of : Binds K (FD 32) ["window"] []
  m_places_of : mg "places_of" = some (.ref (A 32))
  f_least_shade : Fun K "least_shade" "least_shade" (top 55) (A 33) (FD 33)
  b_least_shade : Binds K (FD 33) ["screen", "window", "number"] []
  m_least_shade : mg "least_shade" = some (.ref (A 33))
  f_z_law_level : Fun K "_law_level" "_law_level" (top 59) (A 34) (FD 34)
  b_z_law_level : Binds K (FD 34) ["bag"] []
  m_z_law_level : mg "_law_level" = some (.ref (A 34))
  f_z_law_levels_v2 : Fun K "_law_levels" "_law_levels" (top 60) (A 35) (FD 35)
  b_z_law_levels_v2 : Binds K (FD 35) ["bag", "most"] []
  m_z_law_levels_v2 : mg "_law_levels" = some (.ref (A 35))
  f_Picture_ink : Fun K "ink" "Picture.ink" (inClass (top 49) 13) (A 36) (FD 36)
  b_Picture_ink : Binds K (FD 36) ["self"] []
  h_Picture_ink : Meth K (cls 1) "ink" (A 36)
  f_Screen_period : Fun K "period" "Screen.period" (inClass (top 23) 4) (A 37) (FD 37)
  b_Screen_period : Binds K (FD 37) ["self"] []
  p_Screen_period : ∃ pA, PropOf K (cls 0) "period" pA (A 37)
  f_Screen_depth : Fun K "depth" "Screen.depth" (inClass (top 23) 3) (A 38) (FD 38)
  b_Screen_depth : Binds K (FD 38) ["self"] []
  p_Screen_depth : ∃ pA, PropOf K (cls 0) "depth" pA (A 38)
  f_Screen_levels : Fun K "levels" "Screen.levels" (inClass (top 23) 2) (A 39) (FD 39)
  b_Screen_levels : Binds K (FD 39) ["self"] []
  p_Screen_levels : ∃ pA, PropOf K (cls 0) "levels" pA (A 39)
  f_first_levels : Fun K "first_levels" "first_levels" (top 28) (A 40) (FD 40)
  b_first_levels : Binds K (FD 40) ["screen", "number"] []
  m_first_levels : mg "first_levels" = some (.ref (A 40))
  f_Screen_shades : Fun K "shades" "Screen.shades" (inClass (top 23) 5) (A 41) (FD 41)
  b_Screen_shades : Binds K (FD 41) ["self"] []
  p_Screen_shades : ∃ pA, PropOf K (cls 0) "shades" pA (A 41)
  f_is_operation : Fun K "is_operation" "is_operation" (top 42) (A 42) (FD 42)
  b_is_operation : Binds K (FD 42) ["value"] []
  m_is_operation : mg "is_operation" = some (.ref (A 42))
  f_Picture_preview : Fun K "preview" "Picture.preview" (inClass (top 49) 15) (A 43) (FD 43)
  b_Picture_preview : BindsV (FD 43) ["self", "steps"]
  h_Picture_preview : Meth K (cls 1) "preview" (A 43)
  f_Picture_bands : Fun K "bands" "Picture.bands" (inClass (top 49) 3) (A 44) (FD 44)
  b_Picture_bands : Binds K (FD 44) ["self"] []
  p_Picture_bands : ∃ pA, PropOf K (cls 1) "bands" pA (A 44)
  f_z_law_again : Fun K "_law_again" "_law_again" (top 65) (A 45) (FD 45)
  b_z_law_again : Binds K (FD 45) ["one", "screen", "width"] []
  m_z_law_again : mg "_law_again" = some (.ref (A 45))
  f_rearranged : Fun K "rearranged" "rearranged" (top 26) (A 46) (FD 46)
  b_rearranged : Binds K (FD 46) ["screen", "cells"] []
  m_rearranged : mg "rearranged" = some (.ref (A 46))
  f_mirrored : Fun K "mirrored" "mirrored" (top 27) (A 47) (FD 47)
  b_mirrored : Binds K (FD 47) ["screen"] []
  m_mirrored : mg "mirrored" = some (.ref (A 47))
  f_z_law_right : Fun K "_law_right" "_law_right" (top 66) (A 48) (FD 48)
  b_z_law_right : Binds K (FD 48) ["bag", "most", "long"] []
  m_z_law_right : mg "_law_right" = some (.ref (A 48))
  f_law : Fun K "law" "law" (top 67) (A 49) (FD 49)
  b_law : Binds K (FD 49) ["script"] []
  m_law : mg "law" = some (.ref (A 49))
  cf1 : ClsF K (cls 1)
  c1 : mg "Picture" = some (.ref (cls 1))
  na_own_limit : NoAttr K (cls 1) "own_limit"
  na_own_screen : NoAttr K (cls 1) "own_screen"
  na_own_width : NoAttr K (cls 1) "own_width"
  na_own_bands : NoAttr K (cls 1) "own_bands"
  na_own_calls : NoAttr K (cls 1) "own_calls"
  na_own_past : NoAttr K (cls 1) "own_past"
  cf0 : ClsF K (cls 0)
  c0 : mg "Screen" = some (.ref (cls 0))
  na_own_levels : NoAttr K (cls 0) "own_levels"
  xc101 : XcF K cls 101
  xc107 : XcF K cls 107
  xc108 : XcF K cls 108
  xc109 : XcF K cls 109
  xc110 : XcF K cls 110
  xc114 : XcF K cls 114
  xc115 : XcF K cls 115
  xc117 : XcF K cls 117
  xf101 : XfF K cls 101
  xf107 : XfF K cls 107
  gx101 : mg "InvalidLevels" = some (.ref (cls 101))
  gx107 : mg "OverInk" = some (.ref (cls 107))
  gx108 : mg "InvalidScreen" = some (.ref (cls 108))
  gx109 : mg "InvalidShade" = some (.ref (cls 109))
  gx110 : mg "InvalidWindow" = some (.ref (cls 110))
  gx114 : mg "InvalidNumber" = some (.ref (cls 114))
  gx115 : mg "InvalidRows" = some (.ref (cls 115))
  gx117 : mg "InvalidOperation" = some (.ref (cls 117))
  xi108 : PySem.W.excIn K (cls 108) veT "ValueError.__new__" = true
  xi109 : PySem.W.excIn K (cls 109) veT "ValueError.__new__" = true
  xi110 : PySem.W.excIn K (cls 110) veT "ValueError.__new__" = true
  xi114 : PySem.W.excIn K (cls 114) veT "ValueError.__new__" = true
  xi115 : PySem.W.excIn K (cls 115) veT "ValueError.__new__" = true
  xi117 : PySem.W.excIn K (cls 117) veT "ValueError.__new__" = true
  n_all : mg "all" = none
  n_bool : mg "bool" = none
  n_enumerate : mg "enumerate" = none
  n_int : mg "int" = none
  n_isinstance : mg "isinstance" = none
  n_len : mg "len" = none
  n_list : mg "list" = none
  n_max : mg "max" = none
  n_min : mg "min" = none
  n_range : mg "range" = none
  n_sorted : mg "sorted" = none
  n_str : mg "str" = none
  n_sum : mg "sum" = none
  n_tuple : mg "tuple" = none
  k_MOST_LEVELS : ∃ t, mg "MOST_LEVELS" = some (.int 50 t)
  k_MOST_NUMBER : ∃ t, mg "MOST_NUMBER" = some (.int 1000000000000000000000000000000 t)
  k_MOST_PLACE : ∃ t, mg "MOST_PLACE" = some (.int 1000000000000000000000000000000 t)
  k_SIZES : DctS K w mg "SIZES" [("insert", 4), ("remove", 3), ("paint", 4)]
section
variable {P : Program} {w : World} {K : PySem.W.Frag} {mg : Str → Option Value} {base : Heap} {cls A : Nat → Addr} {FD : Nat → FuncData}
theorem sc_z_law_bag : FnScope ["cell"] ["cell"] (defScope (top 57)) := ⟨rfl, rfl, rfl, by decide +kernel, rfl, by decide +kernel, by decide +kernel⟩
theorem ok_z_law_bag (T : Fx w K mg cls A FD) : FnG P w K mg base 1 (A 0) (FD 0) ["cell"] (spF (⟨K, cls, A⟩ : Cg) 1 s_z_law_bag) :=
  fn_ok (N := ["cell"]) (ps := ["cell"]) (k := 0) (h := b_z_law_bag) T.f_z_law_bag sc_z_law_bag fun cdv A0 outer s0 H0 E0 hG hr tk =>
    (sss_one (ss_ret (se_lst (sa_cons (e_max2 rfl T.n_max se_int (e_sub (v_ 0) (e_pow se_int se_int))) (sa_cons (v_ 0) (sa_cons se_int sa_nil))))))

theorem sc_is_int : FnScope ["value"] ["value"] (defScope (top 2)) := ⟨rfl, rfl, rfl, by decide +kernel, rfl, by decide +kernel, by decide +kernel⟩
theorem ok_is_int (T : Fx w K mg cls A FD) : FnG P w K mg base 1 (A 1) (FD 1) ["value"] (spF (⟨K, cls, A⟩ : Cg) 1 s_is_int) :=
  fn_ok (N := ["value"]) (ps := ["value"]) (k := 0) (h := b_is_int) T.f_is_int sc_is_int fun cdv A0 outer s0 H0 E0 hG hr tk =>
    (sss_one (ss_ret (se_and (e_isB "int" (by decide) T.cf0 T.n_isinstance T.n_int (by decide +kernel) rfl (v_ 0)) (se_one (se_not (e_isB "bool" (by decide) T.cf0 T.n_isinstance T.n_bool (by decide +kernel) rfl (v_ 0)))))))

theorem sc_is_level : FnScope ["value", "number"] ["value"] (defScope (top 22)) := ⟨rfl, rfl, rfl, by decide +kernel, rfl, by decide +kernel, by decide +kernel⟩
theorem ok_is_level (T : Fx w K mg cls A FD) : FnG P w K mg base 2 (A 2) (FD 2) ["value"] (spF (⟨K, cls, A⟩ : Cg) 1 s_is_level) :=
  fn_ok (N := ["value", "number"]) (ps := ["value"]) (k := 1) (h := b_is_level) T.f_is_level sc_is_level fun cdv A0 outer s0 H0 E0 hG hr tk =>
    (sss_cons (ss_if (st_bool (sw_or (st_not (st_val (e_isB "tuple" (by decide) T.cf0 T.n_isinstance T.n_tuple (by decide +kernel) rfl (v_ 0)))) (sw_or (t_ne hr rfl (e_len rfl T.n_len (v_ 0)) se_int) (sw_or1 (st_not (st_val (e_all rfl rfl T.n_all (lc1_ (by rfl) rfl sc_is_level.nd (si_seq rfl (v_ 0)) (blkOk_by (own := [("number", 1)]) (by rfl)) (by decide) (fun _ _ _ _ _ => (pg_name (i := 1) sc_is_level.nd rfl (Or.inl rfl))) (fun _ _ _ _ _ => sts_nil) (fun _ _ _ _ _ => (se_call (ok_is_int T) hG (hr.mono (by omega)) (by rfl) T.m_is_int T.f_is_int.kp T.b_is_int takesW0 (sa_cons (v_ 1) sa_nil))))))))))) (sss_one (ss_ret se_bl)) sss_nil)
    (sss_one (ss_ret (e_eq hr rfl (e_sorted rfl T.n_sorted (v_ 0)) (se_lst (sa_cons se_int (sa_cons se_int (sa_cons se_int (sa_cons se_int sa_nil)))))))))

theorem sc_Screen___init : FnScope ["self", "levels", "spot", "level"] ["self", "levels"] (defScope (inClass (top 23) 0)) := ⟨rfl, rfl, rfl, by decide +kernel, rfl, by decide +kernel, by decide +kernel⟩
theorem ok_Screen___init (T : Fx w K mg cls A FD) : FnG P w K mg base 3 (A 3) (FD 3) ["self", "levels"] (spF (⟨K, cls, A⟩ : Cg) 2 s_Screen___init) :=
  fn_ok (N := ["self", "levels", "spot", "level"]) (ps := ["self", "levels"]) (k := 2) (h := b_Screen___init) T.f_Screen___init sc_Screen___init fun cdv A0 outer s0 H0 E0 hG hr tk =>
    (sss_cons (ss_if (st_bool (sw_or (st_not (st_val (e_isB "list" (by decide) T.cf0 T.n_isinstance T.n_list (by decide +kernel) rfl (v_ 1)))) (sw_or1 (st_not (st_chain op_le op_le (od_I0 fun _ _ _ => repB) (od_I0 fun _ _ _ => repB) se_int (e_len rfl T.n_len (v_ 1)) (T.k_MOST_LEVELS.elim fun _ h => e_gI h)))))) (sss_one (ss_raiseF (kr := 0) "InvalidLevels" rfl rfl tk T.xc101 (by omega) (by omega) T.xf101 (hr.mono (by omega)) T.gx101 se_non)) sss_nil)
    (sss_cons (ss_forT (n := 2) (passes_of rfl) rfl rfl (si_enum rfl (by rfl) T.n_enumerate (v_ 1)) (sgs_cons (sg_name sc_Screen___init.nd (i := 2) rfl (Or.inl rfl)) (sgs_cons (sg_name sc_Screen___init.nd (i := 3) rfl (Or.inl rfl)) sgs_nil)) (gsC_noexc gN_noexc (gsC_noexc gN_noexc gsN_noexc)) (sss_one (ss_if (st_not (st_val (se_call (ok_is_level T) hG (hr.mono (by omega)) (by rfl) T.m_is_level T.f_is_level.kp T.b_is_level tk (sa_cons (v_ 3) sa_nil)))) (sss_one (ss_raiseF (kr := 0) "InvalidLevels" rfl rfl tk T.xc101 (by omega) (by omega) T.xf101 (hr.mono (by omega)) T.gx101 (v_ 2))) sss_nil)) (gsC_len gN_noexc (gsC_len gN_noexc gsN_len)))
    (sss_one (ss_fld (e_tuple rfl T.n_tuple (v_ 1)) (v_ 0) T.cf0.cl T.na_own_levels))))

theorem sc_require_screen : FnScope ["value"] ["value"] (defScope (top 18)) := ⟨rfl, rfl, rfl, by decide +kernel, rfl, by decide +kernel, by decide +kernel⟩
theorem ok_require_screen (T : Fx w K mg cls A FD) : FnG P w K mg base 2 (A 4) (FD 4) ["value"] (spF (⟨K, cls, A⟩ : Cg) 1 s_require_screen) :=
  fn_ok (N := ["value"]) (ps := ["value"]) (k := 1) (h := b_require_screen) T.f_require_screen sc_require_screen fun cdv A0 outer s0 H0 E0 hG hr tk =>
    (sss_one (ss_if (st_not (st_val (e_isC "Screen" T.cf0 T.n_isinstance T.c0 rfl (v_ 0)))) (sss_one (ss_raise "InvalidScreen" rfl rfl tk T.xc108 (by omega) (by omega) T.xi108 T.gx108 se_str)) sss_nil))

theorem sc_is_whole : FnScope ["value", "low", "high"] ["value", "low", "high"] (defScope (top 3)) := ⟨rfl, rfl, rfl, by decide +kernel, rfl, by decide +kernel, by decide +kernel⟩
theorem ok_is_whole (T : Fx w K mg cls A FD) : FnG P w K mg base 2 (A 5) (FD 5) ["value", "low", "high"] (spF (⟨K, cls, A⟩ : Cg) 3 s_is_whole) :=
  fn_ok (N := ["value", "low", "high"]) (ps := ["value", "low", "high"]) (k := 1) (h := b_is_whole) T.f_is_whole sc_is_whole fun cdv A0 outer s0 H0 E0 hG hr tk =>
    (sss_one (ss_ret (se_and (se_call (ok_is_int T) hG (hr.mono (by omega)) (by rfl) T.m_is_int T.f_is_int.kp T.b_is_int tk (sa_cons (v_ 0) sa_nil)) (se_one (se_chain op_le op_le (od_I0 fun _ _ _ => repB) (od_I0 fun _ _ _ => repB) (v_ 1) (v_ 0) (v_ 2))))))

theorem sc_Picture___init : FnScope ["self", "screen", "width"] ["self", "screen", "width"] (defScope (inClass (top 49) 0)) := ⟨rfl, rfl, rfl, by decide +kernel, rfl, by decide +kernel, by decide +kernel⟩
theorem ok_Picture___init (T : Fx w K mg cls A FD) : FnG P w K mg base 3 (A 6) (FD 6) ["self", "screen", "width"] (spF (⟨K, cls, A⟩ : Cg) 3 s_Picture___init) :=
  fn_ok (N := ["self", "screen", "width"]) (ps := ["self", "screen", "width"]) (k := 2) (h := b_Picture___init) T.f_Picture___init sc_Picture___init fun cdv A0 outer s0 H0 E0 hG hr tk =>
    (sss_cons (ss_expr (se_call (ok_require_screen T) hG (hr.mono (by omega)) (by rfl) T.m_require_screen T.f_require_screen.kp T.b_require_screen tk (sa_cons (v_ 1) sa_nil)))
    (sss_cons (ss_if (st_not (st_val (se_call (ok_is_whole T) hG (hr.mono (by omega)) (by rfl) T.m_is_whole T.f_is_whole.kp T.b_is_whole tk (sa_cons (v_ 2) (sa_cons se_int (sa_cons (T.k_MOST_NUMBER.elim fun _ h => e_gI h) sa_nil)))))) (sss_one (ss_raise "InvalidNumber" rfl rfl tk T.xc114 (by omega) (by omega) T.xi114 T.gx114 se_str)) sss_nil)
    (sss_cons (ss_fld se_non (v_ 0) T.cf1.cl T.na_own_limit)
    (sss_cons (ss_fld (v_ 1) (v_ 0) T.cf1.cl T.na_own_screen)
    (sss_cons (ss_fld (v_ 2) (v_ 0) T.cf1.cl T.na_own_width)
    (sss_cons (ss_fld (se_tup sa_nil) (v_ 0) T.cf1.cl T.na_own_bands)
    (sss_cons (ss_fldN rfl (pv 0) T.cf1.cl T.na_own_calls)
    (sss_one (ss_fldN rfl (pv 0) T.cf1.cl T.na_own_past)))))))))

theorem sc_merged : FnScope ["bands", "found", "height", "shade"] ["bands"] (defScope (top 43)) := ⟨rfl, rfl, rfl, by decide +kernel, rfl, by decide +kernel, by decide +kernel⟩
theorem ok_merged (T : Fx w K mg cls A FD) : FnG P w K mg base 1 (A 7) (FD 7) ["bands"] (spF (⟨K, cls, A⟩ : Cg) 1 s_merged) :=
  fn_ok (N := ["bands", "found", "height", "shade"]) (ps := ["bands"]) (k := 0) (h := b_merged) T.f_merged sc_merged fun cdv A0 outer s0 H0 E0 hG hr tk =>
    (sss_cons (ss_set sc_merged.nd (i := 1) rfl (Or.inl rfl) (se_lst sa_nil))
    (sss_cons (ss_for (passes_of rfl) rfl (si_seq rfl (v_ 0)) (sg_tup rfl rfl (sgs_cons (sg_name sc_merged.nd (i := 2) rfl (Or.inl rfl)) (sgs_cons (sg_name sc_merged.nd (i := 3) rfl (Or.inl rfl)) sgs_nil))) (gT_noexc (gsC_noexc gN_noexc (gsC_noexc gN_noexc gsN_noexc))) (sss_one (ss_if (st_bool (sw_and (t_ne hr rfl (v_ 1) (se_lst sa_nil)) (sw_and1 (t_eq hr rfl (se_ix rfl (se_ix rfl (v_ 1) (e_neg se_int)) se_int) (v_ 3))))) (sss_one (ss_sub (se_tup (sa_cons (e_add (se_ix rfl (se_ix rfl (v_ 1) (e_neg se_int)) se_int) (v_ 2)) (sa_cons (v_ 3) sa_nil))) (v_ 1) (e_neg se_int))) (sss_one (ss_expr (e_app rfl (v_ 1) (se_tup (sa_cons (v_ 2) (sa_cons (v_ 3) sa_nil)))))))))
    (sss_one (ss_ret (e_tuple rfl T.n_tuple (v_ 1))))))

theorem sc_height_of : FnScope ["bands", "height", "shade"] ["bands"] (defScope (top 44)) := ⟨rfl, rfl, rfl, by decide +kernel, rfl, by decide +kernel, by decide +kernel⟩
theorem ok_height_of (T : Fx w K mg cls A FD) : FnG P w K mg base 1 (A 8) (FD 8) ["bands"] (spF (⟨K, cls, A⟩ : Cg) 1 s_height_of) :=
  fn_ok (N := ["bands", "height", "shade"]) (ps := ["bands"]) (k := 0) (h := b_height_of) T.f_height_of sc_height_of fun cdv A0 outer s0 H0 E0 hG hr tk =>
    (sss_one (ss_ret (e_sum rfl rfl T.n_sum (lcT_ (by rfl) rfl sc_height_of.nd rfl (si_seq rfl (v_ 0)) (blkOk_by (own := [("height", 1), ("shade", 2)]) (by rfl)) (n := 2) rfl (by decide) (fun _ _ _ _ _ => (pg_tup rfl (pgs_cons (pg_name (i := 1) sc_height_of.nd rfl (Or.inl rfl)) (pgs_cons (pg_name (i := 2) sc_height_of.nd rfl (Or.inl rfl)) pgs_nil)))) (fun _ _ _ _ _ => sts_nil) (fun _ _ _ _ _ => (v_ 1))))))

theorem sc_require_rows : FnScope ["bands", "row", "number", "rows"] ["bands", "row", "number"] (defScope (top 47)) := ⟨rfl, rfl, rfl, by decide +kernel, rfl, by decide +kernel, by decide +kernel⟩
theorem ok_require_rows (T : Fx w K mg cls A FD) : FnG P w K mg base 3 (A 9) (FD 9) ["bands", "row", "number"] (spF (⟨K, cls, A⟩ : Cg) 3 s_require_rows) :=
  fn_ok (N := ["bands", "row", "number", "rows"]) (ps := ["bands", "row", "number"]) (k := 2) (h := b_require_rows) T.f_require_rows sc_require_rows fun cdv A0 outer s0 H0 E0 hG hr tk =>
    (sss_cons (ss_set sc_require_rows.nd (i := 3) rfl (Or.inl rfl) (se_call (ok_height_of T) hG (hr.mono (by omega)) (by rfl) T.m_height_of T.f_height_of.kp T.b_height_of tk (sa_cons (v_ 0) sa_nil)))
    (sss_cons (ss_if (st_not (st_val (se_call (ok_is_whole T) hG (hr.mono (by omega)) (by rfl) T.m_is_whole T.f_is_whole.kp T.b_is_whole tk (sa_cons (v_ 1) (sa_cons se_int (sa_cons (e_sub (v_ 3) se_int) sa_nil)))))) (sss_one (ss_raise "InvalidRows" rfl rfl tk T.xc115 (by omega) (by omega) T.xi115 T.gx115 se_str)) sss_nil)
    (sss_one (ss_if (st_not (st_val (se_call (ok_is_whole T) hG (hr.mono (by omega)) (by rfl) T.m_is_whole T.f_is_whole.kp T.b_is_whole tk (sa_cons (v_ 2) (sa_cons se_int (sa_cons (e_sub (v_ 3) (v_ 1)) sa_nil)))))) (sss_one (ss_raise "InvalidRows" rfl rfl tk T.xc115 (by omega) (by omega) T.xi115 T.gx115 se_str)) sss_nil))))

theorem sc_is_shade : FnScope ["screen", "value"] ["screen", "value"] (defScope (top 21)) := ⟨rfl, rfl, rfl, by decide +kernel, rfl, by decide +kernel, by decide +kernel⟩
theorem ok_is_shade (T : Fx w K mg cls A FD) : FnG P w K mg base 3 (A 10) (FD 10) ["screen", "value"] (spF (⟨K, cls, A⟩ : Cg) 2 s_is_shade) :=
  fn_ok (N := ["screen", "value"]) (ps := ["screen", "value"]) (k := 2) (h := b_is_shade) T.f_is_shade sc_is_shade fun cdv A0 outer s0 H0 E0 hG hr tk =>
    (sss_one (ss_ret (se_call (ok_is_whole T) hG (hr.mono (by omega)) (by rfl) T.m_is_whole T.f_is_whole.kp T.b_is_whole tk (sa_cons (v_ 1) (sa_cons se_int (sa_cons (e_shl se_int (e_mul se_int (e_len rfl T.n_len (se_attr rfl (v_ 0) T.cf0.cl T.na_own_levels)))) sa_nil))))))

theorem sc_part_of : FnScope ["bands", "begin", "end", "found", "top", "height", "shade", "low", "high"] ["bands", "begin", "end"] (defScope (top 45)) := ⟨rfl, rfl, rfl, by decide +kernel, rfl, by decide +kernel, by decide +kernel⟩
theorem ok_part_of (T : Fx w K mg cls A FD) : FnG P w K mg base 1 (A 11) (FD 11) ["bands", "begin", "end"] (spF (⟨K, cls, A⟩ : Cg) 3 s_part_of) :=
  fn_ok (N := ["bands", "begin", "end", "found", "top", "height", "shade", "low", "high"]) (ps := ["bands", "begin", "end"]) (k := 0) (h := b_part_of) T.f_part_of sc_part_of fun cdv A0 outer s0 H0 E0 hG hr tk =>
    (sss_cons (ss_par rfl sc_part_of.nd (i := 3) (j := 4) rfl rfl (by decide) rfl rfl (sa_cons (se_lst sa_nil) (sa_cons se_int sa_nil)) rfl)
    (sss_cons (ss_for (passes_of rfl) rfl (si_seq rfl (v_ 0)) (sg_tup rfl rfl (sgs_cons (sg_name sc_part_of.nd (i := 5) rfl (Or.inl rfl)) (sgs_cons (sg_name sc_part_of.nd (i := 6) rfl (Or.inl rfl)) sgs_nil))) (gT_noexc (gsC_noexc gN_noexc (gsC_noexc gN_noexc gsN_noexc))) (sss_cons (ss_par rfl sc_part_of.nd (i := 7) (j := 8) rfl rfl (by decide) rfl rfl (sa_cons (e_max2 rfl T.n_max (v_ 1) (v_ 4)) (sa_cons (e_min2 rfl T.n_min (v_ 2) (e_add (v_ 4) (v_ 5))) sa_nil)) rfl)
    (sss_cons (ss_if (t_lt (v_ 7) (v_ 8)) (sss_one (ss_expr (e_app rfl (v_ 3) (se_tup (sa_cons (e_sub (v_ 8) (v_ 7)) (sa_cons (v_ 6) sa_nil)))))) sss_nil)
    (sss_one (ss_augI ip_add sc_part_of.nd (i := 4) rfl (Or.inl rfl) (v_ 5))))))
    (sss_one (ss_ret (v_ 3)))))

theorem sc_changed : FnScope ["screen", "bands", "step", "row", "number", "rows", "fresh", "behind"] ["screen", "bands", "step"] (defScope (top 48)) := ⟨rfl, rfl, rfl, by decide +kernel, rfl, by decide +kernel, by decide +kernel⟩
theorem ok_changed (T : Fx w K mg cls A FD) : FnG P w K mg base 4 (A 12) (FD 12) ["screen", "bands", "step"] (spF (⟨K, cls, A⟩ : Cg) 3 s_changed) :=
  fn_ok (N := ["screen", "bands", "step", "row", "number", "rows", "fresh", "behind"]) (ps := ["screen", "bands", "step"]) (k := 3) (h := b_changed) T.f_changed sc_changed fun cdv A0 outer s0 H0 E0 hG hr tk =>
    (sss_cons (ss_par3 rfl sc_changed.nd (i := 3) (j := 4) (l := 5) rfl rfl rfl (by decide) (by decide) (by decide) rfl rfl rfl (sa_cons (se_ix rfl (v_ 2) se_int) (sa_cons (se_ix rfl (v_ 2) se_int) (sa_cons (se_call (ok_height_of T) hG (hr.mono (by omega)) (by rfl) T.m_height_of T.f_height_of.kp T.b_height_of tk (sa_cons (v_ 1) sa_nil)) sa_nil))) rfl)
    (sss_cons (ss_if (t_eq hr rfl (se_ix rfl (v_ 2) se_int) se_str) (sss_cons (ss_if (st_not (st_val (se_call (ok_is_whole T) hG (hr.mono (by omega)) (by rfl) T.m_is_whole T.f_is_whole.kp T.b_is_whole tk (sa_cons (v_ 3) (sa_cons se_int (sa_cons (v_ 5) sa_nil)))))) (sss_one (ss_raise "InvalidRows" rfl rfl tk T.xc115 (by omega) (by omega) T.xi115 T.gx115 se_str)) sss_nil)
    (sss_one (ss_if (st_not (st_val (se_call (ok_is_whole T) hG (hr.mono (by omega)) (by rfl) T.m_is_whole T.f_is_whole.kp T.b_is_whole tk (sa_cons (v_ 4) (sa_cons se_int (sa_cons (T.k_MOST_NUMBER.elim fun _ h => e_gI h) sa_nil)))))) (sss_one (ss_raise "InvalidNumber" rfl rfl tk T.xc114 (by omega) (by omega) T.xi114 T.gx114 se_str)) sss_nil))) (sss_one (ss_expr (se_call (ok_require_rows T) hG (hr.mono (by omega)) (by rfl) T.m_require_rows T.f_require_rows.kp T.b_require_rows tk (sa_cons (v_ 1) (sa_cons (v_ 3) (sa_cons (v_ 4) sa_nil)))))))
    (sss_cons (ss_set sc_changed.nd (i := 6) rfl (Or.inl rfl) (se_pur (se_lst sa_nil)))
    (sss_cons (ss_if (t_ne hr rfl (se_ix rfl (v_ 2) se_int) se_str) (sss_cons (ss_if (st_not (st_val (se_call (ok_is_shade T) hG (hr.mono (by omega)) (by rfl) T.m_is_shade T.f_is_shade.kp T.b_is_shade tk (sa_cons (v_ 0) (sa_cons (se_ix rfl (v_ 2) se_int) sa_nil))))) (sss_one (ss_raise "InvalidShade" rfl rfl tk T.xc109 (by omega) (by omega) T.xi109 T.gx109 se_str)) sss_nil)
    (sss_one (ss_set sc_changed.nd (i := 6) rfl (Or.inl rfl) (se_pur (se_lst (sa_cons (se_tup (sa_cons (v_ 4) (sa_cons (se_ix rfl (v_ 2) se_int) sa_nil))) sa_nil)))))) sss_nil)
    (sss_cons (ss_set sc_changed.nd (i := 7) rfl (Or.inl rfl) (se_if (t_eq hr rfl (se_ix rfl (v_ 2) se_int) se_str) (v_ 3) (e_add (v_ 3) (v_ 4))))
    (sss_one (ss_ret (se_call (ok_merged T) hG (hr.mono (by omega)) (by rfl) T.m_merged T.f_merged.kp T.b_merged tk (sa_cons (se_pur (se_lst (sa_star rfl (se_call (ok_part_of T) hG (hr.mono (by omega)) (by rfl) T.m_part_of T.f_part_of.kp T.b_part_of tk (sa_cons (v_ 1) (sa_cons se_int (sa_cons (v_ 3) sa_nil)))) (sa_star rfl (v_ 6) (sa_star rfl (se_call (ok_part_of T) hG (hr.mono (by omega)) (by rfl) T.m_part_of T.f_part_of.kp T.b_part_of tk (sa_cons (v_ 1) (sa_cons (v_ 7) (sa_cons (v_ 5) sa_nil)))) sa_nil))))) sa_nil)))))))))

theorem sc_residues : FnScope ["first", "many", "residue", "shift"] ["first", "many", "residue", "shift"] (defScope (top 33)) := ⟨rfl, rfl, rfl, by decide +kernel, rfl, by decide +kernel, by decide +kernel⟩
theorem ok_residues (T : Fx w K mg cls A FD) : FnG P w K mg base 1 (A 13) (FD 13) ["first", "many", "residue", "shift"] (spF (⟨K, cls, A⟩ : Cg) 4 s_residues) :=
  fn_ok (N := ["first", "many", "residue", "shift"]) (ps := ["first", "many", "residue", "shift"]) (k := 0) (h := b_residues) T.f_residues sc_residues fun cdv A0 outer s0 H0 E0 hG hr tk =>
    (sss_one (ss_ret (e_sub (e_shr (e_sub (e_sub (e_add (v_ 0) (v_ 1)) se_int) (v_ 2)) (v_ 3)) (e_shr (e_sub (e_sub (v_ 0) se_int) (v_ 2)) (v_ 3)))))

theorem sc_places_with : FnScope ["window", "x", "y", "shift", "left", "top", "width", "height"] ["window", "x", "y", "shift"] (defScope (top 34)) := ⟨rfl, rfl, rfl, by decide +kernel, rfl, by decide +kernel, by decide +kernel⟩
theorem ok_places_with (T : Fx w K mg cls A FD) : FnG P w K mg base 2 (A 14) (FD 14) ["window", "x", "y", "shift"] (spF (⟨K, cls, A⟩ : Cg) 4 s_places_with) :=
  fn_ok (N := ["window", "x", "y", "shift", "left", "top", "width", "height"]) (ps := ["window", "x", "y", "shift"]) (k := 1) (h := b_places_with) T.f_places_with sc_places_with fun cdv A0 outer s0 H0 E0 hG hr tk =>
    (sss_cons (ss_asg (v_ 0) (sg_tup rfl rfl (sgs_cons (sg_name sc_places_with.nd (i := 4) rfl (Or.inl rfl)) (sgs_cons (sg_name sc_places_with.nd (i := 5) rfl (Or.inl rfl)) (sgs_cons (sg_name sc_places_with.nd (i := 6) rfl (Or.inl rfl)) (sgs_cons (sg_name sc_places_with.nd (i := 7) rfl (Or.inl rfl)) sgs_nil))))) (gT_noexc (gsC_noexc gN_noexc (gsC_noexc gN_noexc (gsC_noexc gN_noexc (gsC_noexc gN_noexc gsN_noexc))))))
    (sss_one (ss_ret (e_mul (se_call (ok_residues T) hG (hr.mono (by omega)) (by rfl) T.m_residues T.f_residues.kp T.b_residues tk (sa_cons (v_ 4) (sa_cons (v_ 6) (sa_cons (v_ 1) (sa_cons (v_ 3) sa_nil))))) (se_call (ok_residues T) hG (hr.mono (by omega)) (by rfl) T.m_residues T.f_residues.kp T.b_residues tk (sa_cons (v_ 5) (sa_cons (v_ 7) (sa_cons (v_ 2) (sa_cons (v_ 3) sa_nil)))))))))

theorem sc_cells_below : FnScope ["levels", "shade", "depth", "found", "x", "y", "spot", "level", "digit", "cell", "number", "place", "further"] ["levels", "shade"] (defScope (top 35)) := ⟨rfl, rfl, rfl, by decide +kernel, rfl, by decide +kernel, by decide +kernel⟩
theorem ok_cells_below (T : Fx w K mg cls A FD) : FnG P w K mg base 1 (A 15) (FD 15) ["levels", "shade"] (spF (⟨K, cls, A⟩ : Cg) 2 s_cells_below) :=
  fn_ok (N := ["levels", "shade", "depth", "found", "x", "y", "spot", "level", "digit", "cell", "number", "place", "further"]) (ps := ["levels", "shade"]) (k := 0) (h := b_cells_below) T.f_cells_below sc_cells_below fun cdv A0 outer s0 H0 E0 hG hr tk =>
    (sss_cons (ss_set sc_cells_below.nd (i := 2) rfl (Or.inl rfl) (e_len rfl T.n_len (v_ 0)))
    (sss_cons (ss_if (t_eq hr rfl (v_ 1) (e_shl se_int (e_mul se_int (v_ 2)))) (sss_one (ss_ret (se_lst (sa_cons (se_tup (sa_cons se_int (sa_cons se_int (sa_cons se_int sa_nil)))) sa_nil)))) sss_nil)
    (sss_cons (ss_par3 rfl sc_cells_below.nd (i := 3) (j := 4) (l := 5) rfl rfl rfl (by decide) (by decide) (by decide) rfl rfl rfl (sa_cons (se_lst sa_nil) (sa_cons se_int (sa_cons se_int sa_nil))) rfl)
    (sss_cons (ss_forT (n := 2) (passes_of rfl) rfl rfl (si_enum rfl (by rfl) T.n_enumerate (v_ 0)) (sgs_cons (sg_name sc_cells_below.nd (i := 6) rfl (Or.inl rfl)) (sgs_cons (sg_name sc_cells_below.nd (i := 7) rfl (Or.inl rfl)) sgs_nil)) (gsC_noexc gN_noexc (gsC_noexc gN_noexc gsN_noexc)) (sss_cons (ss_set sc_cells_below.nd (i := 8) rfl (Or.inl rfl) (e_band (e_shr (v_ 1) (e_mul se_int (e_sub (e_sub (v_ 2) se_int) (v_ 6)))) se_int))
    (sss_cons (ss_forT (n := 2) (passes_of rfl) rfl rfl (si_enum rfl (by rfl) T.n_enumerate (v_ 7)) (sgs_cons (sg_name sc_cells_below.nd (i := 9) rfl (Or.inl rfl)) (sgs_cons (sg_name sc_cells_below.nd (i := 10) rfl (Or.inl rfl)) sgs_nil)) (gsC_noexc gN_noexc (gsC_noexc gN_noexc gsN_noexc)) (sss_cons (ss_set sc_cells_below.nd (i := 11) rfl (Or.inl rfl) (se_tup (sa_cons (e_add (v_ 4) (e_shl (e_band (v_ 9) se_int) (v_ 6))) (sa_cons (e_add (v_ 5) (e_shl (e_shr (v_ 9) se_int) (v_ 6))) sa_nil))))
    (sss_one (ss_if (t_lt (v_ 10) (v_ 8)) (sss_one (ss_expr (e_app rfl (v_ 3) (se_tup (sa_cons (se_ix rfl (v_ 11) se_int) (sa_cons (se_ix rfl (v_ 11) se_int) (sa_cons (e_add (v_ 6) se_int) sa_nil))))))) (sss_one (ss_if (t_eq hr rfl (v_ 10) (v_ 8)) (sss_one (ss_set sc_cells_below.nd (i := 12) rfl (Or.inl rfl) (v_ 11))) sss_nil))))) (gsC_len gN_noexc (gsC_len gN_noexc gsN_len)))
    (sss_one (ss_asg (v_ 12) (sg_tup rfl rfl (sgs_cons (sg_name sc_cells_below.nd (i := 4) rfl (Or.inl rfl)) (sgs_cons (sg_name sc_cells_below.nd (i := 5) rfl (Or.inl rfl)) sgs_nil))) (gT_noexc (gsC_noexc gN_noexc (gsC_noexc gN_noexc gsN_noexc))))))) (gsC_len gN_noexc (gsC_len gN_noexc gsN_len)))
    (sss_one (ss_ret (v_ 3)))))))

theorem sc_count_of : FnScope ["levels", "shade", "window", "x", "y", "shift"] ["levels", "shade", "window"] (defScope (top 36)) := ⟨rfl, rfl, rfl, by decide +kernel, rfl, by decide +kernel, by decide +kernel⟩
theorem ok_count_of (T : Fx w K mg cls A FD) : FnG P w K mg base 3 (A 16) (FD 16) ["levels", "shade", "window"] (spF (⟨K, cls, A⟩ : Cg) 3 s_count_of) :=
  fn_ok (N := ["levels", "shade", "window", "x", "y", "shift"]) (ps := ["levels", "shade", "window"]) (k := 2) (h := b_count_of) T.f_count_of sc_count_of fun cdv A0 outer s0 H0 E0 hG hr tk =>
    (sss_one (ss_ret (e_sum rfl rfl T.n_sum (lcT_ (by rfl) rfl sc_count_of.nd rfl (si_seq rfl (se_call (ok_cells_below T) hG (hr.mono (by omega)) (by rfl) T.m_cells_below T.f_cells_below.kp T.b_cells_below tk (sa_cons (v_ 0) (sa_cons (v_ 1) sa_nil)))) (blkOk_by (own := [("x", 3), ("y", 4), ("shift", 5)]) (by rfl)) (n := 3) rfl (by decide) (fun _ _ _ _ _ => (pg_tup rfl (pgs_cons (pg_name (i := 3) sc_count_of.nd rfl (Or.inl rfl)) (pgs_cons (pg_name (i := 4) sc_count_of.nd rfl (Or.inl rfl)) (pgs_cons (pg_name (i := 5) sc_count_of.nd rfl (Or.inl rfl)) pgs_nil))))) (fun _ _ _ _ _ => sts_nil) (fun _ _ _ _ _ => (se_call (ok_places_with T) hG (hr.mono (by omega)) (by rfl) T.m_places_with T.f_places_with.kp T.b_places_with takesW0 (sa_cons (v_ 2) (sa_cons (v_ 3) (sa_cons (v_ 4) (sa_cons (v_ 5) sa_nil))))))))))

theorem sc_dots_in : FnScope ["screen", "shade", "window"] ["screen", "shade", "window"] (defScope (top 37)) := ⟨rfl, rfl, rfl, by decide +kernel, rfl, by decide +kernel, by decide +kernel⟩
theorem ok_dots_in (T : Fx w K mg cls A FD) : FnG P w K mg base 4 (A 17) (FD 17) ["screen", "shade", "window"] (spF (⟨K, cls, A⟩ : Cg) 3 s_dots_in) :=
  fn_ok (N := ["screen", "shade", "window"]) (ps := ["screen", "shade", "window"]) (k := 3) (h := b_dots_in) T.f_dots_in sc_dots_in fun cdv A0 outer s0 H0 E0 hG hr tk =>
    (sss_one (ss_ret (se_call (ok_count_of T) hG (hr.mono (by omega)) (by rfl) T.m_count_of T.f_count_of.kp T.b_count_of tk (sa_cons (se_attr rfl (v_ 0) T.cf0.cl T.na_own_levels) (sa_cons (v_ 1) (sa_cons (v_ 2) sa_nil))))))

theorem sc_ink_of : FnScope ["screen", "width", "bands", "top", "found", "height", "shade"] ["screen", "width", "bands", "top"] (defScope (top 46)) := ⟨rfl, rfl, rfl, by decide +kernel, rfl, by decide +kernel, by decide +kernel⟩
theorem ok_ink_of (T : Fx w K mg cls A FD) : FnG P w K mg base 5 (A 18) (FD 18) ["screen", "width", "bands", "top"] (spF (⟨K, cls, A⟩ : Cg) 4 s_ink_of) :=
  fn_ok (N := ["screen", "width", "bands", "top", "found", "height", "shade"]) (ps := ["screen", "width", "bands", "top"]) (k := 4) (h := b_ink_of) T.f_ink_of sc_ink_of fun cdv A0 outer s0 H0 E0 hG hr tk =>
    (sss_cons (ss_set sc_ink_of.nd (i := 4) rfl (Or.inl rfl) se_int)
    (sss_cons (ss_for (passes_of rfl) rfl (si_seq rfl (v_ 2)) (sg_tup rfl rfl (sgs_cons (sg_name sc_ink_of.nd (i := 5) rfl (Or.inl rfl)) (sgs_cons (sg_name sc_ink_of.nd (i := 6) rfl (Or.inl rfl)) sgs_nil))) (gT_noexc (gsC_noexc gN_noexc (gsC_noexc gN_noexc gsN_noexc))) (sss_cons (ss_augI ip_add sc_ink_of.nd (i := 4) rfl (Or.inl rfl) (se_call (ok_dots_in T) hG (hr.mono (by omega)) (by rfl) T.m_dots_in T.f_dots_in.kp T.b_dots_in tk (sa_cons (v_ 0) (sa_cons (v_ 6) (sa_cons (se_tup (sa_cons se_int (sa_cons (v_ 3) (sa_cons (v_ 1) (sa_cons (v_ 5) sa_nil))))) sa_nil)))))
    (sss_one (ss_augI ip_add sc_ink_of.nd (i := 3) rfl (Or.inl rfl) (v_ 5)))))
    (sss_one (ss_ret (v_ 4)))))

theorem sc_Picture_behind : FnScope ["self", "bands", "step", "found", "count"] ["self", "bands", "step"] (defScope (inClass (top 49) 6)) := ⟨rfl, rfl, rfl, by decide +kernel, rfl, by decide +kernel, by decide +kernel⟩
theorem ok_Picture_behind (T : Fx w K mg cls A FD) : FnG P w K mg base 6 (A 19) (FD 19) ["self", "bands", "step"] (spF (⟨K, cls, A⟩ : Cg) 3 s_Picture_behind) :=
  fn_ok (N := ["self", "bands", "step", "found", "count"]) (ps := ["self", "bands", "step"]) (k := 5) (h := b_Picture_behind) T.f_Picture_behind sc_Picture_behind fun cdv A0 outer s0 H0 E0 hG hr tk =>
    (sss_cons (ss_set sc_Picture_behind.nd (i := 3) rfl (Or.inl rfl) (se_pur (se_call (ok_changed T) hG (hr.mono (by omega)) (by rfl) T.m_changed T.f_changed.kp T.b_changed tk (sa_cons (se_attr rfl (v_ 0) T.cf1.cl T.na_own_screen) (sa_cons (v_ 1) (sa_cons (v_ 2) sa_nil))))))
    (sss_cons (ss_if (st_notN (se_attr rfl (v_ 0) T.cf1.cl T.na_own_limit)) (sss_cons (ss_set sc_Picture_behind.nd (i := 4) rfl (Or.inl rfl) (se_call (ok_ink_of T) hG (hr.mono (by omega)) (by rfl) T.m_ink_of T.f_ink_of.kp T.b_ink_of tk (sa_cons (se_attr rfl (v_ 0) T.cf1.cl T.na_own_screen) (sa_cons (se_attr rfl (v_ 0) T.cf1.cl T.na_own_width) (sa_cons (v_ 3) (sa_cons se_int sa_nil))))))
    (sss_one (ss_if (t_gt (v_ 4) (se_attr rfl (v_ 0) T.cf1.cl T.na_own_limit)) (sss_one (ss_raiseF (kr := 0) "OverInk" rfl rfl tk T.xc107 (by omega) (by omega) T.xf107 (hr.mono (by omega)) T.gx107 (v_ 4))) sss_nil))) sss_nil)
    (sss_one (ss_ret (v_ 3)))))

theorem sc_Picture_perform : FnScope ["self", "step", "found"] ["self", "step"] (defScope (inClass (top 49) 7)) := ⟨rfl, rfl, rfl, by decide +kernel, rfl, by decide +kernel, by decide +kernel⟩
theorem ok_Picture_perform (T : Fx w K mg cls A FD) : FnG P w K mg base 7 (A 20) (FD 20) ["self", "step"] (spF (⟨K, cls, A⟩ : Cg) 2 s_Picture_perform) :=
  fn_ok (N := ["self", "step", "found"]) (ps := ["self", "step"]) (k := 6) (h := b_Picture_perform) T.f_Picture_perform sc_Picture_perform fun cdv A0 outer s0 H0 E0 hG hr tk =>
    (sss_cons (ss_set sc_Picture_perform.nd (i := 2) rfl (Or.inl rfl) (se_pur (se_meth (v_ 0) T.cf1.cl T.h_Picture_behind (ok_Picture_behind T) hG (hr.mono (by omega)) T.b_Picture_behind tk (sa_cons (se_attr rfl (v_ 0) T.cf1.cl T.na_own_bands) (sa_cons (v_ 1) sa_nil)))))
    (sss_cons (ss_expr (e_ownApp rfl (pv 0) T.cf1.cl T.na_own_past (pe_fld (pv 0) rfl) (quiet_attr rfl T.cf1.cl T.na_own_bands)))
    (sss_cons (ss_expr (e_ownApp rfl (pv 0) T.cf1.cl T.na_own_calls (pv 1) quiet_var))
    (sss_one (ss_fld (v_ 2) (v_ 0) T.cf1.cl T.na_own_bands)))))

theorem sc_Picture_insert : FnScope ["self", "row", "number", "shade"] ["self", "row", "number", "shade"] (defScope (inClass (top 49) 8)) := ⟨rfl, rfl, rfl, by decide +kernel, rfl, by decide +kernel, by decide +kernel⟩
theorem ok_Picture_insert (T : Fx w K mg cls A FD) : FnG P w K mg base 8 (A 21) (FD 21) ["self", "row", "number", "shade"] (spF (⟨K, cls, A⟩ : Cg) 4 s_Picture_insert) :=
  fn_ok (N := ["self", "row", "number", "shade"]) (ps := ["self", "row", "number", "shade"]) (k := 7) (h := b_Picture_insert) T.f_Picture_insert sc_Picture_insert fun cdv A0 outer s0 H0 E0 hG hr tk =>
    (sss_one (ss_expr (se_meth (v_ 0) T.cf1.cl T.h_Picture_perform (ok_Picture_perform T) hG (hr.mono (by omega)) T.b_Picture_perform tk (sa_cons (se_tup (sa_cons se_str (sa_cons (v_ 1) (sa_cons (v_ 2) (sa_cons (v_ 3) sa_nil))))) sa_nil))))

theorem sc_z_law_pick : FnScope ["bag", "many", "told", "seed", "turn", "first", "second", "drawn"] ["bag", "many"] (defScope (top 58)) := ⟨rfl, rfl, rfl, by decide +kernel, rfl, by decide +kernel, by decide +kernel⟩
theorem ok_z_law_pick (T : Fx w K mg cls A FD) : FnG P w K mg base 1 (A 22) (FD 22) ["bag", "many"] (spF (⟨K, cls, A⟩ : Cg) 2 s_z_law_pick) :=
  fn_ok (N := ["bag", "many", "told", "seed", "turn", "first", "second", "drawn"]) (ps := ["bag", "many"]) (k := 0) (h := b_z_law_pick) T.f_z_law_pick sc_z_law_pick fun cdv A0 outer s0 H0 E0 hG hr tk =>
    (sss_cons (ss_sub (e_add (se_ix rfl (v_ 0) se_int) se_int) (v_ 0) se_int)
    (sss_cons (ss_if (t_gt (se_ix rfl (v_ 0) se_int) se_int) (sss_cons (ss_set sc_z_law_pick.nd (i := 2) rfl (Or.inl rfl) (e_mod (e_int T.n_int (se_ix rfl (v_ 0) se_int)) (v_ 1)))
    (sss_cons (ss_sub (e_div (e_int T.n_int (se_ix rfl (v_ 0) se_int)) (v_ 1)) (v_ 0) se_int)
    (sss_one (ss_ret (v_ 2))))) sss_nil)
    (sss_cons (ss_par rfl sc_z_law_pick.nd (i := 3) (j := 4) rfl rfl (by decide) rfl rfl (sa_cons (e_int T.n_int (se_ix rfl (v_ 0) se_int)) (sa_cons (e_int T.n_int (se_ix rfl (v_ 0) se_int)) sa_nil)) rfl)
    (sss_cons (ss_set sc_z_law_pick.nd (i := 5) rfl (Or.inl rfl) (e_mod (e_int T.n_int (e_add (e_add (e_mul (e_mod (v_ 3) se_int) se_int) (e_mul (v_ 4) se_int)) se_int)) se_int))
    (sss_cons (ss_set sc_z_law_pick.nd (i := 6) rfl (Or.inl rfl) (e_mod (e_int T.n_int (e_add (e_mul (v_ 5) (v_ 5)) (e_mul (v_ 4) se_int))) se_int))
    (sss_cons (ss_set sc_z_law_pick.nd (i := 7) rfl (Or.inl rfl) (e_div (e_int T.n_int (e_add (e_mul (v_ 5) se_int) (v_ 6))) se_int))
    (sss_cons (ss_if (t_gt (v_ 1) (e_pow se_int se_int)) (sss_one (ss_set sc_z_law_pick.nd (i := 7) rfl (Or.inl rfl) (e_add (e_pow (v_ 7) se_int) (v_ 6)))) sss_nil)
    (sss_one (ss_ret (e_mod (e_int T.n_int (v_ 7)) (v_ 1)))))))))))

theorem sc_Picture_height : FnScope ["self"] ["self"] (defScope (inClass (top 49) 4)) := ⟨rfl, rfl, rfl, by decide +kernel, rfl, by decide +kernel, by decide +kernel⟩
theorem ok_Picture_height (T : Fx w K mg cls A FD) : FnG P w K mg base 2 (A 23) (FD 23) ["self"] (spF (⟨K, cls, A⟩ : Cg) 1 s_Picture_height) :=
  fn_ok (N := ["self"]) (ps := ["self"]) (k := 1) (h := b_Picture_height) T.f_Picture_height sc_Picture_height fun cdv A0 outer s0 H0 E0 hG hr tk =>
    (sss_one (ss_ret (se_call (ok_height_of T) hG (hr.mono (by omega)) (by rfl) T.m_height_of T.f_height_of.kp T.b_height_of tk (sa_cons (se_attr rfl (v_ 0) T.cf1.cl T.na_own_bands) sa_nil))))

theorem sc_require_shade : FnScope ["screen", "value"] ["screen", "value"] (defScope (top 30)) := ⟨rfl, rfl, rfl, by decide +kernel, rfl, by decide +kernel, by decide +kernel⟩
theorem ok_require_shade (T : Fx w K mg cls A FD) : FnG P w K mg base 4 (A 24) (FD 24) ["screen", "value"] (spF (⟨K, cls, A⟩ : Cg) 2 s_require_shade) :=
  fn_ok (N := ["screen", "value"]) (ps := ["screen", "value"]) (k := 3) (h := b_require_shade) T.f_require_shade sc_require_shade fun cdv A0 outer s0 H0 E0 hG hr tk =>
    (sss_one (ss_if (st_not (st_val (se_call (ok_is_shade T) hG (hr.mono (by omega)) (by rfl) T.m_is_shade T.f_is_shade.kp T.b_is_shade tk (sa_cons (v_ 0) (sa_cons (v_ 1) sa_nil))))) (sss_one (ss_raise "InvalidShade" rfl rfl tk T.xc109 (by omega) (by omega) T.xi109 T.gx109 se_str)) sss_nil))

theorem sc_is_window : FnScope ["value", "left", "top", "width", "height"] ["value"] (defScope (top 31)) := ⟨rfl, rfl, rfl, by decide +kernel, rfl, by decide +kernel, by decide +kernel⟩
theorem ok_is_window (T : Fx w K mg cls A FD) : FnG P w K mg base 3 (A 25) (FD 25) ["value"] (spF (⟨K, cls, A⟩ : Cg) 1 s_is_window) :=
  fn_ok (N := ["value", "left", "top", "width", "height"]) (ps := ["value"]) (k := 2) (h := b_is_window) T.f_is_window sc_is_window fun cdv A0 outer s0 H0 E0 hG hr tk =>
    (sss_cons (ss_if (st_bool (sw_or (st_not (st_val (e_isB "tuple" (by decide) T.cf0 T.n_isinstance T.n_tuple (by decide +kernel) rfl (v_ 0)))) (sw_or1 (t_ne hr rfl (e_len rfl T.n_len (v_ 0)) se_int)))) (sss_one (ss_ret se_bl)) sss_nil)
    (sss_cons (ss_asg (v_ 0) (sg_tup rfl rfl (sgs_cons (sg_name sc_is_window.nd (i := 1) rfl (Or.inl rfl)) (sgs_cons (sg_name sc_is_window.nd (i := 2) rfl (Or.inl rfl)) (sgs_cons (sg_name sc_is_window.nd (i := 3) rfl (Or.inl rfl)) (sgs_cons (sg_name sc_is_window.nd (i := 4) rfl (Or.inl rfl)) sgs_nil))))) (gT_noexc (gsC_noexc gN_noexc (gsC_noexc gN_noexc (gsC_noexc gN_noexc (gsC_noexc gN_noexc gsN_noexc))))))
    (sss_cons (ss_if (st_bool (sw_or (st_not (st_val (se_call (ok_is_whole T) hG (hr.mono (by omega)) (by rfl) T.m_is_whole T.f_is_whole.kp T.b_is_whole tk (sa_cons (v_ 1) (sa_cons (e_sub se_int (T.k_MOST_PLACE.elim fun _ h => e_gI h)) (sa_cons (T.k_MOST_PLACE.elim fun _ h => e_gI h) sa_nil)))))) (sw_or1 (st_not (st_val (se_call (ok_is_whole T) hG (hr.mono (by omega)) (by rfl) T.m_is_whole T.f_is_whole.kp T.b_is_whole tk (sa_cons (v_ 2) (sa_cons (e_sub se_int (T.k_MOST_PLACE.elim fun _ h => e_gI h)) (sa_cons (T.k_MOST_PLACE.elim fun _ h => e_gI h) sa_nil))))))))) (sss_one (ss_ret se_bl)) sss_nil)
    (sss_one (ss_ret (se_and (se_call (ok_is_whole T) hG (hr.mono (by omega)) (by rfl) T.m_is_whole T.f_is_whole.kp T.b_is_whole tk (sa_cons (v_ 3) (sa_cons se_int (sa_cons (T.k_MOST_PLACE.elim fun _ h => e_gI h) sa_nil)))) (se_one (se_call (ok_is_whole T) hG (hr.mono (by omega)) (by rfl) T.m_is_whole T.f_is_whole.kp T.b_is_whole tk (sa_cons (v_ 4) (sa_cons se_int (sa_cons (T.k_MOST_PLACE.elim fun _ h => e_gI h) sa_nil)))))))))))

theorem sc_require_window : FnScope ["value"] ["value"] (defScope (top 32)) := ⟨rfl, rfl, rfl, by decide +kernel, rfl, by decide +kernel, by decide +kernel⟩
theorem ok_require_window (T : Fx w K mg cls A FD) : FnG P w K mg base 4 (A 26) (FD 26) ["value"] (spF (⟨K, cls, A⟩ : Cg) 1 s_require_window) :=
  fn_ok (N := ["value"]) (ps := ["value"]) (k := 3) (h := b_require_window) T.f_require_window sc_require_window fun cdv A0 outer s0 H0 E0 hG hr tk =>
    (sss_one (ss_if (st_not (st_val (se_call (ok_is_window T) hG (hr.mono (by omega)) (by rfl) T.m_is_window T.f_is_window.kp T.b_is_window tk (sa_cons (v_ 0) sa_nil)))) (sss_one (ss_raise "InvalidWindow" rfl rfl tk T.xc110 (by omega) (by omega) T.xi110 T.gx110 se_str)) sss_nil))

theorem sc_dot_count : FnScope ["screen", "shade", "window"] ["screen", "shade", "window"] (defScope (top 38)) := ⟨rfl, rfl, rfl, by decide +kernel, rfl, by decide +kernel, by decide +kernel⟩
theorem ok_dot_count (T : Fx w K mg cls A FD) : FnG P w K mg base 5 (A 27) (FD 27) ["screen", "shade", "window"] (spF (⟨K, cls, A⟩ : Cg) 3 s_dot_count) :=
  fn_ok (N := ["screen", "shade", "window"]) (ps := ["screen", "shade", "window"]) (k := 4) (h := b_dot_count) T.f_dot_count sc_dot_count fun cdv A0 outer s0 H0 E0 hG hr tk =>
    (sss_cons (ss_expr (se_call (ok_require_screen T) hG (hr.mono (by omega)) (by rfl) T.m_require_screen T.f_require_screen.kp T.b_require_screen tk (sa_cons (v_ 0) sa_nil)))
    (sss_cons (ss_expr (se_call (ok_require_shade T) hG (hr.mono (by omega)) (by rfl) T.m_require_shade T.f_require_shade.kp T.b_require_shade tk (sa_cons (v_ 0) (sa_cons (v_ 1) sa_nil))))
    (sss_cons (ss_expr (se_call (ok_require_window T) hG (hr.mono (by omega)) (by rfl) T.m_require_window T.f_require_window.kp T.b_require_window tk (sa_cons (v_ 2) sa_nil)))
    (sss_one (ss_ret (se_call (ok_dots_in T) hG (hr.mono (by omega)) (by rfl) T.m_dots_in T.f_dots_in.kp T.b_dots_in tk (sa_cons (v_ 0) (sa_cons (v_ 1) (sa_cons (v_ 2) sa_nil)))))))))

theorem sc_z_law_filled : FnScope ["bag", "screen", "width", "long", "shades", "one", "due", "top", "shade", "height"] ["bag", "screen", "width", "long", "shades"] (defScope (top 64)) := ⟨rfl, rfl, rfl, by decide +kernel, rfl, by decide +kernel, by decide +kernel⟩
theorem ok_z_law_filled (T : Fx w K mg cls A FD) : FnG P w K mg base 9 (A 28) (FD 28) ["bag", "screen", "width", "long", "shades"] (spF2 (⟨K, cls, A⟩ : Cg) 5 s_z_law_filled) :=
  fn_ok2 (N := ["bag", "screen", "width", "long", "shades", "one", "due", "top", "shade", "height"]) (ps := ["bag", "screen", "width", "long", "shades"]) (k := 8) (h := b_z_law_filled) T.f_z_law_filled sc_z_law_filled fun cdv A0 outer s0 H0 E0 hG hr tk =>
    (sss_cons2 (ss_par3 rfl sc_z_law_filled.nd (i := 5) (j := 6) (l := 7) rfl rfl rfl (by decide) (by decide) (by decide) rfl rfl rfl (sa_cons (se_make T.mk1 (ok_Picture___init T) hG (hr.mono (by omega)) (by rfl) T.c1 T.b_Picture___init tk (sa_cons (v_ 1) (sa_cons (v_ 2) sa_nil))) (sa_cons se_int (sa_cons se_int sa_nil))) rfl)
    (sss_cons2 (ss_for (passes_of rfl) rfl (si_seq rfl (v_ 4)) (sg_name sc_z_law_filled.nd (i := 8) rfl (Or.inl rfl)) gN_noexc (sss_cons (ss_set sc_z_law_filled.nd (i := 9) rfl (Or.inl rfl) (e_add se_int (se_call (ok_z_law_pick T) hG (hr.mono (by omega)) (by rfl) T.m_z_law_pick T.f_z_law_pick.kp T.b_z_law_pick tk (sa_cons (v_ 0) (sa_cons (v_ 3) sa_nil)))))
    (sss_cons (ss_expr (se_meth (v_ 5) T.cf1.cl T.h_Picture_insert (ok_Picture_insert T) hG (hr.mono (by omega)) T.b_Picture_insert tk (sa_cons (T.p_Picture_height.elim fun _ h => se_prop (v_ 5) T.cf1.cl h (ok_Picture_height T) hG (hr.mono (by omega)) T.b_Picture_height) (sa_cons (v_ 9) (sa_cons (v_ 8) sa_nil)))))
    (sss_one (ss_par rfl sc_z_law_filled.nd (i := 6) (j := 7) rfl rfl (by decide) rfl rfl (sa_cons (e_add (v_ 6) (se_call (ok_dot_count T) hG (hr.mono (by omega)) (by rfl) T.m_dot_count T.f_dot_count.kp T.b_dot_count tk (sa_cons (v_ 1) (sa_cons (v_ 8) (sa_cons (se_tup (sa_cons se_int (sa_cons (v_ 7) (sa_cons (v_ 2) (sa_cons (v_ 9) sa_nil))))) sa_nil))))) (sa_cons (e_add (v_ 7) (v_ 9)) sa_nil)) rfl)))))
    (ss_ret2 (v_ 5) (v_ 6))))

theorem sc_require_number : FnScope ["value", "low", "high"] ["value", "low", "high"] (defScope (top 51)) := ⟨rfl, rfl, rfl, by decide +kernel, rfl, by decide +kernel, by decide +kernel⟩
theorem ok_require_number (T : Fx w K mg cls A FD) : FnG P w K mg base 3 (A 29) (FD 29) ["value", "low", "high"] (spF (⟨K, cls, A⟩ : Cg) 3 s_require_number) :=
  fn_ok (N := ["value", "low", "high"]) (ps := ["value", "low", "high"]) (k := 2) (h := b_require_number) T.f_require_number sc_require_number fun cdv A0 outer s0 H0 E0 hG hr tk =>
    (sss_one (ss_if (st_not (st_val (se_call (ok_is_whole T) hG (hr.mono (by omega)) (by rfl) T.m_is_whole T.f_is_whole.kp T.b_is_whole tk (sa_cons (v_ 0) (sa_cons (v_ 1) (sa_cons (v_ 2) sa_nil)))))) (sss_one (ss_raise "InvalidNumber" rfl rfl tk T.xc114 (by omega) (by omega) T.xi114 T.gx114 se_str)) sss_nil))

theorem sc_nth_of_window : FnScope ["screen", "window", "number", "found", "left", "x", "y", "spot", "level", "digit", "cell", "place", "many"] ["screen", "window", "number"] (defScope (top 52)) := ⟨rfl, rfl, rfl, by decide +kernel, rfl, by decide +kernel, by decide +kernel⟩
theorem ok_nth_of_window (T : Fx w K mg cls A FD) : FnG P w K mg base 3 (A 30) (FD 30) ["screen", "window", "number"] (spF (⟨K, cls, A⟩ : Cg) 3 s_nth_of_window) :=
  fn_ok (N := ["screen", "window", "number", "found", "left", "x", "y", "spot", "level", "digit", "cell", "place", "many"]) (ps := ["screen", "window", "number"]) (k := 2) (h := b_nth_of_window) T.f_nth_of_window sc_nth_of_window fun cdv A0 outer s0 H0 E0 hG hr tk =>
    (sss_cons (ss_asg (se_tup (sa_cons se_int (sa_cons (v_ 2) (sa_cons se_int (sa_cons se_int sa_nil))))) (sg_tup rfl rfl (sgs_cons (sg_name sc_nth_of_window.nd (i := 3) rfl (Or.inl rfl)) (sgs_cons (sg_name sc_nth_of_window.nd (i := 4) rfl (Or.inl rfl)) (sgs_cons (sg_name sc_nth_of_window.nd (i := 5) rfl (Or.inl rfl)) (sgs_cons (sg_name sc_nth_of_window.nd (i := 6) rfl (Or.inl rfl)) sgs_nil))))) (gT_noexc (gsC_noexc gN_noexc (gsC_noexc gN_noexc (gsC_noexc gN_noexc (gsC_noexc gN_noexc gsN_noexc))))))
    (sss_cons (ss_forT (n := 2) (passes_of rfl) rfl rfl (si_enum rfl (by rfl) T.n_enumerate (se_attr rfl (v_ 0) T.cf0.cl T.na_own_levels)) (sgs_cons (sg_name sc_nth_of_window.nd (i := 7) rfl (Or.inl rfl)) (sgs_cons (sg_name sc_nth_of_window.nd (i := 8) rfl (Or.inl rfl)) sgs_nil)) (gsC_noexc gN_noexc (gsC_noexc gN_noexc gsN_noexc)) (sss_cons (ss_for (passes_of rfl) rfl (si_range1 (by rfl) T.n_range (sa_cons se_int sa_nil)) (sg_name sc_nth_of_window.nd (i := 9) rfl (Or.inl rfl)) gN_noexc (sss_cons (ss_set sc_nth_of_window.nd (i := 10) rfl (Or.inl rfl) (e_tidx rfl (v_ 8) (v_ 9)))
    (sss_cons (ss_set sc_nth_of_window.nd (i := 11) rfl (Or.inl rfl) (se_tup (sa_cons (e_add (v_ 5) (e_shl (e_band (v_ 10) se_int) (v_ 7))) (sa_cons (e_add (v_ 6) (e_shl (e_shr (v_ 10) se_int) (v_ 7))) sa_nil))))
    (sss_cons (ss_set sc_nth_of_window.nd (i := 12) rfl (Or.inl rfl) (se_call (ok_places_with T) hG (hr.mono (by omega)) (by rfl) T.m_places_with T.f_places_with.kp T.b_places_with tk (sa_cons (v_ 1) (sa_cons (se_ix rfl (v_ 11) se_int) (sa_cons (se_ix rfl (v_ 11) se_int) (sa_cons (e_add (v_ 7) se_int) sa_nil))))))
    (sss_cons (ss_if (t_lt (v_ 4) (v_ 12)) (sss_one ss_break) sss_nil)
    (sss_one (ss_augI ip_sub sc_nth_of_window.nd (i := 4) rfl (Or.inl rfl) (v_ 12))))))))
    (sss_one (ss_par3 rfl sc_nth_of_window.nd (i := 3) (j := 5) (l := 6) rfl rfl rfl (by decide) (by decide) (by decide) rfl rfl rfl (sa_cons (e_add (e_mul se_int (v_ 3)) (v_ 9)) (sa_cons (se_ix rfl (v_ 11) se_int) (sa_cons (se_ix rfl (v_ 11) se_int) sa_nil))) rfl))) (gsC_len gN_noexc (gsC_len gN_noexc gsN_len)))
    (sss_one (ss_ret (v_ 3)))))

theorem sc_least_with : FnScope ["screen", "window", "number"] ["screen", "window", "number"] (defScope (top 54)) := ⟨rfl, rfl, rfl, by decide +kernel, rfl, by decide +kernel, by decide +kernel⟩
theorem ok_least_with (T : Fx w K mg cls A FD) : FnG P w K mg base 4 (A 31) (FD 31) ["screen", "window", "number"] (spF (⟨K, cls, A⟩ : Cg) 3 s_least_with) :=
  fn_ok (N := ["screen", "window", "number"]) (ps := ["screen", "window", "number"]) (k := 3) (h := b_least_with) T.f_least_with sc_least_with fun cdv A0 outer s0 H0 E0 hG hr tk =>
    (sss_one (ss_ret (se_if (t_eq hr rfl (v_ 2) se_int) se_int (e_add (se_call (ok_nth_of_window T) hG (hr.mono (by omega)) (by rfl) T.m_nth_of_window T.f_nth_of_window.kp T.b_nth_of_window tk (sa_cons (v_ 0) (sa_cons (v_ 1) (sa_cons (e_sub (v_ 2) se_int) sa_nil)))) se_int))))

theorem sc_places_of : FnScope ["window"] ["window"] (defScope (top 53)) := ⟨rfl, rfl, rfl, by decide +kernel, rfl, by decide +kernel, by decide +kernel⟩
theorem ok_places_of (T : Fx w K mg cls A FD) : FnG P w K mg base 1 (A 32) (FD 32) ["window"] (spF (⟨K, cls, A⟩ : Cg) 1 s_places_of) :=
  fn_ok (N := ["window"]) (ps := ["window"]) (k := 0) (h := b_places_of) T.f_places_of sc_places_of fun cdv A0 outer s0 H0 E0 hG hr tk =>
    (sss_one (ss_ret (e_mul (se_ix rfl (v_ 0) se_int) (se_ix rfl (v_ 0) se_int))))

theorem sc_least_shade : FnScope ["screen", "window", "number"] ["screen", "window", "number"] (defScope (top 55)) := ⟨rfl, rfl, rfl, by decide +kernel, rfl, by decide +kernel, by decide +kernel⟩
theorem ok_least_shade (T : Fx w K mg cls A FD) : FnG P w K mg base 5 (A 33) (FD 33) ["screen", "window", "number"] (spF (⟨K, cls, A⟩ : Cg) 3 s_least_shade) :=
  fn_ok (N := ["screen", "window", "number"]) (ps := ["screen", "window", "number"]) (k := 4) (h := b_least_shade) T.f_least_shade sc_least_shade fun cdv A0 outer s0 H0 E0 hG hr tk =>
    (sss_cons (ss_expr (se_call (ok_require_screen T) hG (hr.mono (by omega)) (by rfl) T.m_require_screen T.f_require_screen.kp T.b_require_screen tk (sa_cons (v_ 0) sa_nil)))
    (sss_cons (ss_expr (se_call (ok_require_window T) hG (hr.mono (by omega)) (by rfl) T.m_require_window T.f_require_window.kp T.b_require_window tk (sa_cons (v_ 1) sa_nil)))
    (sss_cons (ss_expr (se_call (ok_require_number T) hG (hr.mono (by omega)) (by rfl) T.m_require_number T.f_require_number.kp T.b_require_number tk (sa_cons (v_ 2) (sa_cons se_int (sa_cons (se_call (ok_places_of T) hG (hr.mono (by omega)) (by rfl) T.m_places_of T.f_places_of.kp T.b_places_of tk (sa_cons (v_ 1) sa_nil)) sa_nil)))))
    (sss_one (ss_ret (se_call (ok_least_with T) hG (hr.mono (by omega)) (by rfl) T.m_least_with T.f_least_with.kp T.b_least_with tk (sa_cons (v_ 0) (sa_cons (v_ 1) (sa_cons (v_ 2) sa_nil)))))))))

theorem sc_z_law_level : FnScope ["bag", "left", "found", "turn"] ["bag"] (defScope (top 59)) := ⟨rfl, rfl, rfl, by decide +kernel, rfl, by decide +kernel, by decide +kernel⟩
theorem ok_z_law_level (T : Fx w K mg cls A FD) : FnG P w K mg base 2 (A 34) (FD 34) ["bag"] (spF (⟨K, cls, A⟩ : Cg) 1 s_z_law_level) :=
  fn_ok (N := ["bag", "left", "found", "turn"]) (ps := ["bag"]) (k := 1) (h := b_z_law_level) T.f_z_law_level sc_z_law_level fun cdv A0 outer s0 H0 E0 hG hr tk =>
    (sss_cons (ss_par rfl sc_z_law_level.nd (i := 1) (j := 2) rfl rfl (by decide) rfl rfl (sa_cons (se_lst (sa_cons se_int (sa_cons se_int (sa_cons se_int (sa_cons se_int sa_nil))))) (sa_cons (se_lst sa_nil) sa_nil)) rfl)
    (sss_cons (ss_for (passes_of rfl) rfl (si_range1 (by rfl) T.n_range (sa_cons se_int sa_nil)) (sg_name sc_z_law_level.nd (i := 3) rfl (Or.inl rfl)) gN_noexc (sss_one (ss_expr (e_app rfl (v_ 2) (e_popAt rfl (v_ 1) (se_call (ok_z_law_pick T) hG (hr.mono (by omega)) (by rfl) T.m_z_law_pick T.f_z_law_pick.kp T.b_z_law_pick tk (sa_cons (v_ 0) (sa_cons (e_len rfl T.n_len (v_ 1)) sa_nil))))))))
    (sss_one (ss_ret (e_tuple rfl T.n_tuple (v_ 2))))))

theorem sc_z_law_levels_v2 : FnScope ["bag", "most", "turn"] ["bag", "most"] (defScope (top 60)) := ⟨rfl, rfl, rfl, by decide +kernel, rfl, by decide +kernel, by decide +kernel⟩
theorem ok_z_law_levels_v2 (T : Fx w K mg cls A FD) : FnG P w K mg base 3 (A 35) (FD 35) ["bag", "most"] (spF (⟨K, cls, A⟩ : Cg) 2 s_z_law_levels_v2) :=
  fn_ok (N := ["bag", "most", "turn"]) (ps := ["bag", "most"]) (k := 2) (h := b_z_law_levels_v2) T.f_z_law_levels_v2 sc_z_law_levels_v2 fun cdv A0 outer s0 H0 E0 hG hr tk =>
    (sss_one (ss_ret (lc1_ (by rfl) rfl sc_z_law_levels_v2.nd (si_range1 (by rfl) T.n_range (sa_cons (e_add se_int (se_call (ok_z_law_pick T) hG (hr.mono (by omega)) (by rfl) T.m_z_law_pick T.f_z_law_pick.kp T.b_z_law_pick tk (sa_cons (v_ 0) (sa_cons (v_ 1) sa_nil)))) sa_nil)) (blkOk_by (own := [("turn", 2)]) (by rfl)) (by decide) (fun _ _ _ _ _ => (pg_name (i := 2) sc_z_law_levels_v2.nd rfl (Or.inl rfl))) (fun _ _ _ _ _ => sts_nil) (fun _ _ _ _ _ => (se_call (ok_z_law_level T) hG (hr.mono (by omega)) (by rfl) T.m_z_law_level T.f_z_law_level.kp T.b_z_law_level takesW0 (sa_cons (v_ 0) sa_nil))))))

theorem sc_Picture_ink : FnScope ["self"] ["self"] (defScope (inClass (top 49) 13)) := ⟨rfl, rfl, rfl, by decide +kernel, rfl, by decide +kernel, by decide +kernel⟩
theorem ok_Picture_ink (T : Fx w K mg cls A FD) : FnG P w K mg base 6 (A 36) (FD 36) ["self"] (spF (⟨K, cls, A⟩ : Cg) 1 s_Picture_ink) :=
  fn_ok (N := ["self"]) (ps := ["self"]) (k := 5) (h := b_Picture_ink) T.f_Picture_ink sc_Picture_ink fun cdv A0 outer s0 H0 E0 hG hr tk =>
    (sss_one (ss_ret (se_call (ok_ink_of T) hG (hr.mono (by omega)) (by rfl) T.m_ink_of T.f_ink_of.kp T.b_ink_of tk (sa_cons (se_attr rfl (v_ 0) T.cf1.cl T.na_own_screen) (sa_cons (se_attr rfl (v_ 0) T.cf1.cl T.na_own_width) (sa_cons (se_attr rfl (v_ 0) T.cf1.cl T.na_own_bands) (sa_cons se_int sa_nil)))))))

theorem sc_Screen_period : FnScope ["self"] ["self"] (defScope (inClass (top 23) 4)) := ⟨rfl, rfl, rfl, by decide +kernel, rfl, by decide +kernel, by decide +kernel⟩
theorem ok_Screen_period (T : Fx w K mg cls A FD) : FnG P w K mg base 1 (A 37) (FD 37) ["self"] (spF (⟨K, cls, A⟩ : Cg) 1 s_Screen_period) :=
  fn_ok (N := ["self"]) (ps := ["self"]) (k := 0) (h := b_Screen_period) T.f_Screen_period sc_Screen_period fun cdv A0 outer s0 H0 E0 hG hr tk =>
    (sss_one (ss_ret (e_shl se_int (e_len rfl T.n_len (se_attr rfl (v_ 0) T.cf0.cl T.na_own_levels)))))

theorem sc_Screen_depth : FnScope ["self"] ["self"] (defScope (inClass (top 23) 3)) := ⟨rfl, rfl, rfl, by decide +kernel, rfl, by decide +kernel, by decide +kernel⟩
theorem ok_Screen_depth (T : Fx w K mg cls A FD) : FnG P w K mg base 1 (A 38) (FD 38) ["self"] (spF (⟨K, cls, A⟩ : Cg) 1 s_Screen_depth) :=
  fn_ok (N := ["self"]) (ps := ["self"]) (k := 0) (h := b_Screen_depth) T.f_Screen_depth sc_Screen_depth fun cdv A0 outer s0 H0 E0 hG hr tk =>
    (sss_one (ss_ret (e_len rfl T.n_len (se_attr rfl (v_ 0) T.cf0.cl T.na_own_levels))))

theorem sc_Screen_levels : FnScope ["self"] ["self"] (defScope (inClass (top 23) 2)) := ⟨rfl, rfl, rfl, by decide +kernel, rfl, by decide +kernel, by decide +kernel⟩
theorem ok_Screen_levels (T : Fx w K mg cls A FD) : FnG P w K mg base 1 (A 39) (FD 39) ["self"] (spF (⟨K, cls, A⟩ : Cg) 1 s_Screen_levels) :=
  fn_ok (N := ["self"]) (ps := ["self"]) (k := 0) (h := b_Screen_levels) T.f_Screen_levels sc_Screen_levels fun cdv A0 outer s0 H0 E0 hG hr tk =>
    (sss_one (ss_ret (e_list rfl rfl T.n_list (se_attr rfl (v_ 0) T.cf0.cl T.na_own_levels))))

theorem sc_first_levels : FnScope ["screen", "number"] ["screen", "number"] (defScope (top 28)) := ⟨rfl, rfl, rfl, by decide +kernel, rfl, by decide +kernel, by decide +kernel⟩
theorem ok_first_levels (T : Fx w K mg cls A FD) : FnG P w K mg base 5 (A 40) (FD 40) ["screen", "number"] (spF (⟨K, cls, A⟩ : Cg) 2 s_first_levels) :=
  fn_ok (N := ["screen", "number"]) (ps := ["screen", "number"]) (k := 4) (h := b_first_levels) T.f_first_levels sc_first_levels fun cdv A0 outer s0 H0 E0 hG hr tk =>
    (sss_cons (ss_expr (se_call (ok_require_screen T) hG (hr.mono (by omega)) (by rfl) T.m_require_screen T.f_require_screen.kp T.b_require_screen tk (sa_cons (v_ 0) sa_nil)))
    (sss_cons (ss_if (st_not (st_val (se_call (ok_is_whole T) hG (hr.mono (by omega)) (by rfl) T.m_is_whole T.f_is_whole.kp T.b_is_whole tk (sa_cons (v_ 1) (sa_cons se_int (sa_cons (e_len rfl T.n_len (se_attr rfl (v_ 0) T.cf0.cl T.na_own_levels)) sa_nil)))))) (sss_one (ss_raise "InvalidNumber" rfl rfl tk T.xc114 (by omega) (by omega) T.xi114 T.gx114 se_str)) sss_nil)
    (sss_one (ss_ret (se_make T.mk0 (ok_Screen___init T) hG (hr.mono (by omega)) (by rfl) T.c0 T.b_Screen___init tk (sa_cons (se_pur (se_sl rfl (T.p_Screen_levels.elim fun _ h => se_prop (v_ 0) T.cf0.cl h (ok_Screen_levels T) hG (hr.mono (by omega)) T.b_Screen_levels) so_none (so_some (v_ 1)))) sa_nil))))))

theorem sc_Screen_shades : FnScope ["self"] ["self"] (defScope (inClass (top 23) 5)) := ⟨rfl, rfl, rfl, by decide +kernel, rfl, by decide +kernel, by decide +kernel⟩
theorem ok_Screen_shades (T : Fx w K mg cls A FD) : FnG P w K mg base 1 (A 41) (FD 41) ["self"] (spF (⟨K, cls, A⟩ : Cg) 1 s_Screen_shades) :=
  fn_ok (N := ["self"]) (ps := ["self"]) (k := 0) (h := b_Screen_shades) T.f_Screen_shades sc_Screen_shades fun cdv A0 outer s0 H0 E0 hG hr tk =>
    (sss_one (ss_ret (e_shl se_int (e_mul se_int (e_len rfl T.n_len (se_attr rfl (v_ 0) T.cf0.cl T.na_own_levels))))))

theorem sc_is_operation : FnScope ["value"] ["value"] (defScope (top 42)) := ⟨rfl, rfl, rfl, by decide +kernel, rfl, by decide +kernel, by decide +kernel⟩
theorem ok_is_operation (T : Fx w K mg cls A FD) : FnG P w K mg base 1 (A 42) (FD 42) ["value"] (spF (⟨K, cls, A⟩ : Cg) 1 s_is_operation) :=
  fn_ok (N := ["value"]) (ps := ["value"]) (k := 0) (h := b_is_operation) T.f_is_operation sc_is_operation fun cdv A0 outer s0 H0 E0 hG hr tk =>
    (sss_cons (ss_if (st_bool (sw_or (st_not (st_val (e_isB "tuple" (by decide) T.cf0 T.n_isinstance T.n_tuple (by decide +kernel) rfl (v_ 0)))) (sw_or (t_eq hr rfl (v_ 0) (se_tup sa_nil)) (sw_or1 (st_not (st_val (e_isB "str" (by decide) T.cf0 T.n_isinstance T.n_str (by decide +kernel) rfl (se_ix rfl (v_ 0) se_int)))))))) (sss_one (ss_ret se_bl)) sss_nil)
    (sss_one (ss_ret (e_eq hr rfl (e_len rfl T.n_len (v_ 0)) (se_wget T.k_SIZES (se_ix rfl (v_ 0) se_int) se_int)))))

theorem sc_Picture_preview : FnScope ["self", "steps", "bands", "step"] ["self", "steps"] (defScope (inClass (top 49) 15)) := ⟨rfl, rfl, rfl, by decide +kernel, rfl, by decide +kernel, by decide +kernel⟩
theorem ok_Picture_preview (T : Fx w K mg cls A FD) : FnV P w K mg base 7 (A 43) (FD 43) ["self", "steps"] (spF (⟨K, cls, A⟩ : Cg) 2 s_Picture_preview) :=
  fn_okV (N := ["self", "steps", "bands", "step"]) (ps := ["self", "steps"]) (k := 6) (h := b_Picture_preview) T.f_Picture_preview sc_Picture_preview fun cdv A0 outer s0 H0 E0 hG hr tk =>
    (sss_cons (ss_if (st_not (st_val (e_all rfl rfl T.n_all (lc1_ (by rfl) rfl sc_Picture_preview.nd (si_seq rfl (v_ 1)) (blkOk_by (own := [("step", 3)]) (by rfl)) (by decide) (fun _ _ _ _ _ => (pg_name (i := 3) sc_Picture_preview.nd rfl (Or.inl rfl))) (fun _ _ _ _ _ => sts_nil) (fun _ _ _ _ _ => (se_call (ok_is_operation T) hG (hr.mono (by omega)) (by rfl) T.m_is_operation T.f_is_operation.kp T.b_is_operation takesW0 (sa_cons (v_ 3) sa_nil))))))) (sss_one (ss_raise "InvalidOperation" rfl rfl tk T.xc117 (by omega) (by omega) T.xi117 T.gx117 se_str)) sss_nil)
    (sss_cons (ss_set sc_Picture_preview.nd (i := 2) rfl (Or.inl rfl) (se_attr rfl (v_ 0) T.cf1.cl T.na_own_bands))
    (sss_cons (ss_for (passes_of rfl) rfl (si_seq rfl (v_ 1)) (sg_name sc_Picture_preview.nd (i := 3) rfl (Or.inl rfl)) gN_noexc (sss_one (ss_set sc_Picture_preview.nd (i := 2) rfl (Or.inl rfl) (se_pur (se_meth (v_ 0) T.cf1.cl T.h_Picture_behind (ok_Picture_behind T) hG (hr.mono (by omega)) T.b_Picture_behind tk (sa_cons (v_ 2) (sa_cons (v_ 3) sa_nil)))))))
    (sss_one (ss_ret (se_call (ok_ink_of T) hG (hr.mono (by omega)) (by rfl) T.m_ink_of T.f_ink_of.kp T.b_ink_of tk (sa_cons (se_attr rfl (v_ 0) T.cf1.cl T.na_own_screen) (sa_cons (se_attr rfl (v_ 0) T.cf1.cl T.na_own_width) (sa_cons (v_ 2) (sa_cons se_int sa_nil))))))))))

theorem sc_Picture_bands : FnScope ["self"] ["self"] (defScope (inClass (top 49) 3)) := ⟨rfl, rfl, rfl, by decide +kernel, rfl, by decide +kernel, by decide +kernel⟩
theorem ok_Picture_bands (T : Fx w K mg cls A FD) : FnG P w K mg base 1 (A 44) (FD 44) ["self"] (spF (⟨K, cls, A⟩ : Cg) 1 s_Picture_bands) :=
  fn_ok (N := ["self"]) (ps := ["self"]) (k := 0) (h := b_Picture_bands) T.f_Picture_bands sc_Picture_bands fun cdv A0 outer s0 H0 E0 hG hr tk =>
    (sss_one (ss_ret (e_list rfl rfl T.n_list (se_attr rfl (v_ 0) T.cf1.cl T.na_own_bands))))

theorem sc_z_law_again : FnScope ["one", "screen", "width", "found", "height", "shade"] ["one", "screen", "width"] (defScope (top 65)) := ⟨rfl, rfl, rfl, by decide +kernel, rfl, by decide +kernel, by decide +kernel⟩
theorem ok_z_law_again (T : Fx w K mg cls A FD) : FnG P w K mg base 9 (A 45) (FD 45) ["one", "screen", "width"] (spF (⟨K, cls, A⟩ : Cg) 3 s_z_law_again) :=
  fn_ok (N := ["one", "screen", "width", "found", "height", "shade"]) (ps := ["one", "screen", "width"]) (k := 8) (h := b_z_law_again) T.f_z_law_again sc_z_law_again fun cdv A0 outer s0 H0 E0 hG hr tk =>
    (sss_cons (ss_set sc_z_law_again.nd (i := 3) rfl (Or.inl rfl) (se_make T.mk1 (ok_Picture___init T) hG (hr.mono (by omega)) (by rfl) T.c1 T.b_Picture___init tk (sa_cons (v_ 1) (sa_cons (v_ 2) sa_nil))))
    (sss_cons (ss_for (passes_of rfl) rfl (si_seq rfl (T.p_Picture_bands.elim fun _ h => se_prop (v_ 0) T.cf1.cl h (ok_Picture_bands T) hG (hr.mono (by omega)) T.b_Picture_bands)) (sg_tup rfl rfl (sgs_cons (sg_name sc_z_law_again.nd (i := 4) rfl (Or.inl rfl)) (sgs_cons (sg_name sc_z_law_again.nd (i := 5) rfl (Or.inl rfl)) sgs_nil))) (gT_noexc (gsC_noexc gN_noexc (gsC_noexc gN_noexc gsN_noexc))) (sss_one (ss_expr (se_meth (v_ 3) T.cf1.cl T.h_Picture_insert (ok_Picture_insert T) hG (hr.mono (by omega)) T.b_Picture_insert tk (sa_cons (T.p_Picture_height.elim fun _ h => se_prop (v_ 3) T.cf1.cl h (ok_Picture_height T) hG (hr.mono (by omega)) T.b_Picture_height) (sa_cons (v_ 4) (sa_cons (v_ 5) sa_nil)))))))
    (sss_one (ss_ret (v_ 3)))))

theorem sc_rearranged : FnScope ["screen", "cells", "level", "cell"] ["screen", "cells"] (defScope (top 26)) := ⟨rfl, rfl, rfl, by decide +kernel, rfl, by decide +kernel, by decide +kernel⟩
theorem ok_rearranged (T : Fx w K mg cls A FD) : FnG P w K mg base 5 (A 46) (FD 46) ["screen", "cells"] (spF (⟨K, cls, A⟩ : Cg) 2 s_rearranged) :=
  fn_ok (N := ["screen", "cells", "level", "cell"]) (ps := ["screen", "cells"]) (k := 4) (h := b_rearranged) T.f_rearranged sc_rearranged fun cdv A0 outer s0 H0 E0 hG hr tk =>
    (sss_one (ss_ret (se_make T.mk0 (ok_Screen___init T) hG (hr.mono (by omega)) (by rfl) T.c0 T.b_Screen___init tk (sa_cons (se_pur (lc1_ (by rfl) rfl sc_rearranged.nd (si_seq rfl (se_attr rfl (v_ 0) T.cf0.cl T.na_own_levels)) (blkOk_by (own := [("level", 2)]) (by rfl)) (by decide) (fun _ _ _ _ _ => (pg_name (i := 2) sc_rearranged.nd rfl (Or.inr rfl))) (fun _ _ _ _ _ => sts_nil) (fun _ _ _ _ _ => (e_tuple rfl T.n_tuple (lc1_ (by rfl) rfl sc_rearranged.nd (si_seq rfl (v_ 1)) (blkOk_by (own := [("cell", 3)]) (by rfl)) (by decide) (fun _ _ _ _ _ => (pg_name (i := 3) sc_rearranged.nd rfl (Or.inl rfl))) (fun _ _ _ _ _ => sts_nil) (fun _ _ _ _ _ => (se_ix rfl (v_ 2) (v_ 3)))))))) sa_nil))))

theorem sc_mirrored : FnScope ["screen"] ["screen"] (defScope (top 27)) := ⟨rfl, rfl, rfl, by decide +kernel, rfl, by decide +kernel, by decide +kernel⟩
theorem ok_mirrored (T : Fx w K mg cls A FD) : FnG P w K mg base 6 (A 47) (FD 47) ["screen"] (spF (⟨K, cls, A⟩ : Cg) 1 s_mirrored) :=
  fn_ok (N := ["screen"]) (ps := ["screen"]) (k := 5) (h := b_mirrored) T.f_mirrored sc_mirrored fun cdv A0 outer s0 H0 E0 hG hr tk =>
    (sss_cons (ss_expr (se_call (ok_require_screen T) hG (hr.mono (by omega)) (by rfl) T.m_require_screen T.f_require_screen.kp T.b_require_screen tk (sa_cons (v_ 0) sa_nil)))
    (sss_one (ss_ret (se_call (ok_rearranged T) hG (hr.mono (by omega)) (by rfl) T.m_rearranged T.f_rearranged.kp T.b_rearranged tk (sa_cons (v_ 0) (sa_cons (se_tup (sa_cons se_int (sa_cons se_int (sa_cons se_int (sa_cons se_int sa_nil))))) sa_nil))))))

theorem sc_z_law_right : FnScope ["bag", "most", "long", "screen", "width", "shades", "one", "due", "height", "number", "shade", "single", "whole", "few", "part", "times", "other", "turn"] ["bag", "most", "long"] (defScope (top 66)) := ⟨rfl, rfl, rfl, by decide +kernel, rfl, by decide +kernel, by decide +kernel⟩
theorem ok_z_law_right (T : Fx w K mg cls A FD) : FnG P w K mg base 10 (A 48) (FD 48) ["bag", "most", "long"] (spF (⟨K, cls, A⟩ : Cg) 3 s_z_law_right) :=
  fn_ok (N := ["bag", "most", "long", "screen", "width", "shades", "one", "due", "height", "number", "shade", "single", "whole", "few", "part", "times", "other", "turn"]) (ps := ["bag", "most", "long"]) (k := 9) (h := b_z_law_right) T.f_z_law_right sc_z_law_right fun cdv A0 outer s0 H0 E0 hG hr tk =>
    (sss_cons (ss_set sc_z_law_right.nd (i := 3) rfl (Or.inr rfl) (se_pur (se_make T.mk0 (ok_Screen___init T) hG (hr.mono (by omega)) (by rfl) T.c0 T.b_Screen___init tk (sa_cons (se_pur (se_call (ok_z_law_levels_v2 T) hG (hr.mono (by omega)) (by rfl) T.m_z_law_levels_v2 T.f_z_law_levels_v2.kp T.b_z_law_levels_v2 tk (sa_cons (v_ 0) (sa_cons (v_ 1) sa_nil)))) sa_nil))))
    (sss_cons (ss_par rfl sc_z_law_right.nd (i := 4) (j := 5) rfl rfl (by decide) rfl rfl (sa_cons (e_add se_int (se_call (ok_z_law_pick T) hG (hr.mono (by omega)) (by rfl) T.m_z_law_pick T.f_z_law_pick.kp T.b_z_law_pick tk (sa_cons (v_ 0) (sa_cons (v_ 2) sa_nil)))) (sa_cons (se_pur (lc1_ (by rfl) rfl sc_z_law_right.nd (si_range1 (by rfl) T.n_range (sa_cons se_int sa_nil)) (blkOk_by (own := [("turn", 17)]) (by rfl)) (by decide) (fun _ _ _ _ _ => (pg_name (i := 17) sc_z_law_right.nd rfl (Or.inl rfl))) (fun _ _ _ _ _ => sts_nil) (fun _ _ _ _ _ => (se_call (ok_z_law_pick T) hG (hr.mono (by omega)) (by rfl) T.m_z_law_pick T.f_z_law_pick.kp T.b_z_law_pick takesW0 (sa_cons (v_ 0) (sa_cons (e_add (T.p_Screen_shades.elim fun _ h => se_prop (v_ 3) T.cf0.cl h (ok_Screen_shades T) hG (hr.mono (by omega)) T.b_Screen_shades) se_int) sa_nil)))))) sa_nil)) rfl)
    (sss_cons (ss_asg2 (ok_z_law_filled T) hG (hr.mono (by omega)) (by rfl) T.m_z_law_filled T.f_z_law_filled.kp T.b_z_law_filled tk (sa_cons (v_ 0) (sa_cons (v_ 3) (sa_cons (v_ 4) (sa_cons (v_ 2) (sa_cons (v_ 5) sa_nil))))) rfl rfl sc_z_law_right.nd (i := 6) (j := 7) rfl rfl (Or.inl rfl) (Or.inl rfl))
    (sss_cons (ss_if (t_ne hr rfl (se_meth0 (v_ 6) T.cf1.cl T.h_Picture_ink (ok_Picture_ink T) hG (hr.mono (by omega)) T.b_Picture_ink tk) (v_ 7)) (sss_one (ss_ret se_bl)) sss_nil)
    (sss_cons (ss_set sc_z_law_right.nd (i := 8) rfl (Or.inl rfl) (e_add se_int (se_call (ok_z_law_pick T) hG (hr.mono (by omega)) (by rfl) T.m_z_law_pick T.f_z_law_pick.kp T.b_z_law_pick tk (sa_cons (v_ 0) (sa_cons (v_ 2) sa_nil)))))
    (sss_cons (ss_set sc_z_law_right.nd (i := 9) rfl (Or.inl rfl) (se_call (ok_z_law_pick T) hG (hr.mono (by omega)) (by rfl) T.m_z_law_pick T.f_z_law_pick.kp T.b_z_law_pick tk (sa_cons (v_ 0) (sa_cons (e_add (e_mul (v_ 4) (v_ 8)) se_int) sa_nil))))
    (sss_cons (ss_set sc_z_law_right.nd (i := 10) rfl (Or.inl rfl) (se_call (ok_least_shade T) hG (hr.mono (by omega)) (by rfl) T.m_least_shade T.f_least_shade.kp T.b_least_shade tk (sa_cons (v_ 3) (sa_cons (se_tup (sa_cons se_int (sa_cons se_int (sa_cons (v_ 4) (sa_cons (v_ 8) sa_nil))))) (sa_cons (v_ 9) sa_nil)))))
    (sss_cons (ss_set sc_z_law_right.nd (i := 11) rfl (Or.inl rfl) (se_make T.mk1 (ok_Picture___init T) hG (hr.mono (by omega)) (by rfl) T.c1 T.b_Picture___init tk (sa_cons (v_ 3) (sa_cons (v_ 4) sa_nil))))
    (sss_cons (ss_expr (se_meth (v_ 11) T.cf1.cl T.h_Picture_insert (ok_Picture_insert T) hG (hr.mono (by omega)) T.b_Picture_insert tk (sa_cons se_int (sa_cons (v_ 8) (sa_cons (v_ 10) sa_nil)))))
    (sss_cons (ss_if (st_bool (sw_or (t_lt (se_meth0 (v_ 11) T.cf1.cl T.h_Picture_ink (ok_Picture_ink T) hG (hr.mono (by omega)) T.b_Picture_ink tk) (v_ 9)) (sw_or1 (t_ne hr rfl (se_meth0 (v_ 11) T.cf1.cl T.h_Picture_ink (ok_Picture_ink T) hG (hr.mono (by omega)) T.b_Picture_ink tk) (se_call (ok_dot_count T) hG (hr.mono (by omega)) (by rfl) T.m_dot_count T.f_dot_count.kp T.b_dot_count tk (sa_cons (v_ 3) (sa_cons (v_ 10) (sa_cons (se_tup (sa_cons se_int (sa_cons se_int (sa_cons (v_ 4) (sa_cons (v_ 8) sa_nil))))) sa_nil)))))))) (sss_one (ss_ret se_bl)) sss_nil)
    (sss_cons (ss_if (st_bool (sw_and (t_gt (v_ 10) se_int) (sw_and1 (t_ge (se_methV (v_ 11) T.cf1.cl T.h_Picture_preview (ok_Picture_preview T) hG (hr.mono (by omega)) T.b_Picture_preview tk (sa_cons (se_tup (sa_cons se_str (sa_cons se_int (sa_cons (v_ 8) (sa_cons (e_sub (v_ 10) se_int) sa_nil))))) sa_nil)) (v_ 9))))) (sss_one (ss_ret se_bl)) sss_nil)
    (sss_cons (ss_set sc_z_law_right.nd (i := 12) rfl (Or.inl rfl) (e_mul (T.p_Screen_period.elim fun _ h => se_prop (v_ 3) T.cf0.cl h (ok_Screen_period T) hG (hr.mono (by omega)) T.b_Screen_period) (e_add se_int (se_call (ok_z_law_pick T) hG (hr.mono (by omega)) (by rfl) T.m_z_law_pick T.f_z_law_pick.kp T.b_z_law_pick tk (sa_cons (v_ 0) (sa_cons se_int sa_nil))))))
    (sss_cons (ss_if (t_ne hr rfl (se_meth0 (se_call (ok_z_law_again T) hG (hr.mono (by omega)) (by rfl) T.m_z_law_again T.f_z_law_again.kp T.b_z_law_again tk (sa_cons (v_ 6) (sa_cons (v_ 3) (sa_cons (v_ 12) sa_nil)))) T.cf1.cl T.h_Picture_ink (ok_Picture_ink T) hG (hr.mono (by omega)) T.b_Picture_ink tk) (se_meth0 (se_call (ok_z_law_again T) hG (hr.mono (by omega)) (by rfl) T.m_z_law_again T.f_z_law_again.kp T.b_z_law_again tk (sa_cons (v_ 6) (sa_cons (se_pur (se_call (ok_mirrored T) hG (hr.mono (by omega)) (by rfl) T.m_mirrored T.f_mirrored.kp T.b_mirrored tk (sa_cons (v_ 3) sa_nil))) (sa_cons (v_ 12) sa_nil)))) T.cf1.cl T.h_Picture_ink (ok_Picture_ink T) hG (hr.mono (by omega)) T.b_Picture_ink tk)) (sss_one (ss_ret se_bl)) sss_nil)
    (sss_cons (ss_if (t_eq hr rfl (T.p_Screen_depth.elim fun _ h => se_prop (v_ 3) T.cf0.cl h (ok_Screen_depth T) hG (hr.mono (by omega)) T.b_Screen_depth) se_int) (sss_one (ss_ret se_bl)) sss_nil)
    (sss_cons (ss_par rfl sc_z_law_right.nd (i := 13) (j := 14) rfl rfl (by decide) rfl rfl (sa_cons (se_pur (se_call (ok_first_levels T) hG (hr.mono (by omega)) (by rfl) T.m_first_levels T.f_first_levels.kp T.b_first_levels tk (sa_cons (v_ 3) (sa_cons (e_add se_int (se_call (ok_z_law_pick T) hG (hr.mono (by omega)) (by rfl) T.m_z_law_pick T.f_z_law_pick.kp T.b_z_law_pick tk (sa_cons (v_ 0) (sa_cons (e_sub (T.p_Screen_depth.elim fun _ h => se_prop (v_ 3) T.cf0.cl h (ok_Screen_depth T) hG (hr.mono (by omega)) T.b_Screen_depth) se_int) sa_nil)))) sa_nil)))) (sa_cons (se_make T.mk1 (ok_Picture___init T) hG (hr.mono (by omega)) (by rfl) T.c1 T.b_Picture___init tk (sa_cons (v_ 3) (sa_cons (v_ 4) sa_nil))) sa_nil)) rfl)
    (sss_cons (ss_set sc_z_law_right.nd (i := 15) rfl (Or.inl rfl) (e_div (T.p_Screen_shades.elim fun _ h => se_prop (v_ 3) T.cf0.cl h (ok_Screen_shades T) hG (hr.mono (by omega)) T.b_Screen_shades) (T.p_Screen_shades.elim fun _ h => se_prop (v_ 13) T.cf0.cl h (ok_Screen_shades T) hG (hr.mono (by omega)) T.b_Screen_shades)))
    (sss_cons (ss_set sc_z_law_right.nd (i := 16) rfl (Or.inl rfl) (se_make T.mk1 (ok_Picture___init T) hG (hr.mono (by omega)) (by rfl) T.c1 T.b_Picture___init tk (sa_cons (v_ 13) (sa_cons (v_ 4) sa_nil))))
    (sss_cons (ss_for (passes_of rfl) rfl (si_seq rfl (v_ 5)) (sg_name sc_z_law_right.nd (i := 10) rfl (Or.inl rfl)) gN_noexc (sss_cons (ss_expr (se_meth (v_ 14) T.cf1.cl T.h_Picture_insert (ok_Picture_insert T) hG (hr.mono (by omega)) T.b_Picture_insert tk (sa_cons (T.p_Picture_height.elim fun _ h => se_prop (v_ 14) T.cf1.cl h (ok_Picture_height T) hG (hr.mono (by omega)) T.b_Picture_height) (sa_cons (e_add se_int (v_ 8)) (sa_cons (e_mul (e_div (v_ 10) (v_ 15)) (v_ 15)) sa_nil)))))
    (sss_one (ss_expr (se_meth (v_ 16) T.cf1.cl T.h_Picture_insert (ok_Picture_insert T) hG (hr.mono (by omega)) T.b_Picture_insert tk (sa_cons (T.p_Picture_height.elim fun _ h => se_prop (v_ 16) T.cf1.cl h (ok_Picture_height T) hG (hr.mono (by omega)) T.b_Picture_height) (sa_cons (e_add se_int (v_ 8)) (sa_cons (e_div (v_ 10) (v_ 15)) sa_nil))))))))
    (sss_one (ss_ret (e_eq hr rfl (se_meth0 (v_ 14) T.cf1.cl T.h_Picture_ink (ok_Picture_ink T) hG (hr.mono (by omega)) T.b_Picture_ink tk) (se_meth0 (v_ 16) T.cf1.cl T.h_Picture_ink (ok_Picture_ink T) hG (hr.mono (by omega)) T.b_Picture_ink tk))))))))))))))))))))))

theorem sc_law : FnScope ["script", "cell", "bag"] ["script"] (defScope (top 67)) := ⟨rfl, rfl, rfl, by decide +kernel, rfl, by decide +kernel, by decide +kernel⟩
theorem ok_law (T : Fx w K mg cls A FD) : FnG P w K mg base 11 (A 49) (FD 49) ["script"] (spF (⟨K, cls, A⟩ : Cg) 1 s_law) :=
  fn_ok (N := ["script", "cell", "bag"]) (ps := ["script"]) (k := 10) (h := b_law) T.f_law sc_law fun cdv A0 outer s0 H0 E0 hG hr tk =>
    (sss_cons (ss_for (passes_of rfl) rfl (si_seq rfl (e_add (se_sl rfl (v_ 0) so_none (so_some se_int)) (se_lst (sa_cons se_int sa_nil)))) (sg_name sc_law.nd (i := 1) rfl (Or.inl rfl)) gN_noexc (sss_cons (ss_set sc_law.nd (i := 2) rfl (Or.inl rfl) (se_call (ok_z_law_bag T) hG (hr.mono (by omega)) (by rfl) T.m_z_law_bag T.f_z_law_bag.kp T.b_z_law_bag tk (sa_cons (v_ 1) sa_nil)))
    (sss_one (ss_if (st_bool (sw_or (st_not (st_val (se_call (ok_z_law_right T) hG (hr.mono (by omega)) (by rfl) T.m_z_law_right T.f_z_law_right.kp T.b_z_law_right tk (sa_cons (v_ 2) (sa_cons se_int (sa_cons se_int sa_nil)))))) (sw_or1 (st_not (st_val (se_call (ok_z_law_right T) hG (hr.mono (by omega)) (by rfl) T.m_z_law_right T.f_z_law_right.kp T.b_z_law_right tk (sa_cons (v_ 2) (sa_cons se_int (sa_cons (e_pow se_int se_int) sa_nil))))))))) (sss_one (ss_ret se_bl)) sss_nil))))
    (sss_one (ss_ret se_bl)))
end
end K70

set_option Elab.async false
set_option linter.all false
set_option maxRecDepth 100000
set_option maxHeartbeats 4000000
set_option exponentiation.threshold 2000
namespace K70
open PySem PySem.Spec PyProof.Rows L2 Dd Lib
theorem filled_i {ls : List (List Int)} (lok : LvOk ls) {w L : Int} (w0 : 1 ≤ w) (w1 : w ≤ (1000000000000000000000000000000 : Int)) (L0 : 1 ≤ L) (L1 : L ≤ 10000000000000000000000000000) {T : List Int} (hT : T.length = 3) (rT : ∀ s ∈ T, 0 ≤ s ∧ s ≤ 4 ^ ls.length)
    {st : Store} {m : Nat} {c : Cell} {C : Nat} (hm : m < st.length) (hb : BagC c C) (hC : C + 10 ≤ 1000000) :
    ∃ o d st', s_z_law_filled [.r m, .p (.scr (lvD ls)), .p (.int w), .p (.int L), .p (.lst (T.map .int))] (st.set m c) = .ok o d st' ∧
      ∃ (R : List Int) (c' : Cell) (k : List D) (P : List (List Bd)), o = pic ls w (rle R) k (pst P) ∧ d = .int (inkR ls w R 0) ∧ st' = st.set m c' ∧ BagC c' (C + 3) ∧ k.length = 3 ∧ P.length = 3 ∧ (rle R).length ≤ 7 ∧ 1 ≤ R.length ∧ (R.length : Int) ≤ 3 * L ∧ ∀ s ∈ R, 0 ≤ s ∧ s ≤ 4 ^ ls.length := by
  obtain ⟨l1, l50, hp⟩ := id lok
  refine runF2_wp (h := b_z_law_filled) (n := 10) ?_
  have pm : ∀ S : Sg, makeK 1 s_Picture___init 3 [.p (.scr (lvD ls)), .p (.int w)] S = .ok (.r S.st.length) ⟨S.sl, S.st ++ [.mu (pic ls w [] [] [])]⟩ := fun S => picture_make w0 w1
  unfold b_z_law_filled startS
  simp! [bnd_bnd, sSq2_ap, sq2K_nx, pm]
  refine wp_bnd (wp_loop (I := fun j S => ∃ (R : List Int) (c' : Cell) (k : List D) (P : List (List Bd)) (s8 s9 : Option Dd.R), S = ⟨[some (.r m), some (.p (.scr (lvD ls))), some (.p (.int w)), some (.p (.int L)), some (.p (.lst (T.map .int))), some (.r st.length), some (.p (.int (inkR ls w R 0))), some (.p (.int (R.length : Int))), s8, s9], st.set m c' ++ [.mu (pic ls w (rle R) k (pst P))]⟩ ∧
      BagC c' (C + j) ∧ k.length = j ∧ P.length = j ∧ (rle R).length + 1 ≤ 2 ^ j ∧ j ≤ R.length ∧ (R.length : Int) ≤ j * L ∧ ∀ s ∈ R, 0 ≤ s ∧ s ≤ 4 ^ ls.length) ?_ (fun _ _ _ => trivial) ?_ ?_)
  · exact ⟨[], c, [], [], none, none, rfl, hb, rfl, rfl, by decide, Nat.le_refl _, by simp, by simp⟩
  · rintro j d S hj ⟨R, c', k, P, s8, s9, rfl, B, hk, hP, hrl, hRl, hRL, hR⟩
    rw [List.getElem?_map] at hj
    obtain ⟨s, hs, rfl⟩ := Option.map_eq_some_iff.mp hj
    obtain ⟨s0, s1⟩ := rT s (List.mem_of_getElem? hs)
    have j3 : j < 3 := by rw [← hT]; exact (List.getElem?_eq_some_iff.mp hs).1
    have jj : (2 : Nat) ^ j ≤ 4 ∧ (j : Int) * L ≤ 2 * L := by
      rcases (show j = 0 ∨ j = 1 ∨ j = 2 by omega) with rfl | rfl | rfl
      · exact ⟨by decide, by simp only [Int.natCast_zero, Int.zero_mul]; omega⟩
      · exact ⟨by decide, by simp only [Int.natCast_one, Int.one_mul]; omega⟩
      · exact ⟨by decide, Int.le_refl _⟩
    rw [bind_bnd]
    simp! [bnd_bnd]
    refine wp_bnd (wp_draw (pick_d (m := L) (by omega) (by omega)) hm B (by omega) fun v4 c4 ⟨x4, e4, a4, b4⟩ B4 => ?_); subst e4
    obtain ⟨h, hh⟩ : ∃ k : Nat, 1 + x4 = (k : Int) := ⟨(1 + x4).toNat, by omega⟩
    have g1 := rle_ins_len R R.length h s (by omega)
    have ins := fun st' q => insP (n := st.length) (w := w) (R := R) (c := k) (P := P) lok (by omega) (row := R.length) (num := h) (s := s) (Nat.le_refl _) (by omega) (by omega) s0 s1 (by omega) (by omega) st' q
    rw [ins_end] at ins g1
    have ph := fun (st' : Store) (q : st'[st.length]? = some (.mu (pic ls w (rle R) k (pst P)))) => pic_height (by omega) q
    rw [rle_hgt] at ph
    have dc := fun st' => dot_count_i ls l50 hp s0 s1 (show WinOk 0 (R.length : Int) w (h : Int) from ⟨by decide, by decide, by omega, by omega, w0, w1, by omega, by omega⟩) st'
    unfold winD at dc
    have gx : ∀ (x : Cell) (Z : Store), (st.set m c4 ++ x :: Z)[st.length]? = some x := fun x Z => by rw [get_set_app0]; rfl
    simp! [bnd_bnd, hh, propU_ap, propK_r, gx, pic_prop, noX_ok, ph, methU_r 1, methC_r, pic_meth (m := "insert") (by rfl), ins, dc]
    have e1 : (R.length : Int) + (h : Int) = ((R ++ List.replicate h s).length : Int) := by simp
    rw [← ink_end, e1]
    have jL : ((j + 1 : Nat) : Int) * L = (j : Int) * L + L := by rw [Int.natCast_add, Int.add_mul, Int.natCast_one, Int.one_mul]
    have p2 : (2 : Nat) ^ (j + 1) = 2 ^ j * 2 := Nat.pow_succ ..
    refine wp_ok ⟨_, _, _, _, _, _, rfl, B4, by simp [hk], by simp [hP], by omega, by rw [List.length_append, List.length_replicate]; omega, by rw [List.length_append, List.length_replicate, jL]; omega, fun z hz => ?_⟩
    rcases List.mem_append.mp hz with q | q
    · exact hR z q
    · rw [(List.mem_replicate.mp q).2]; exact ⟨s0, s1⟩
  · rintro S ⟨R, c', k, P, s8, s9, rfl, B, hk, hP, hrl, hRl, hRL, hR⟩
    rw [List.length_map, hT] at *
    simp! [bnd_bnd, sq2K_nx, sRt2_ap]
    exact wp_ok ⟨_, _, _, rfl, by rw [List.length_set]; exact Nat.le_refl _, by show (List.set st m c' ++ _)[_]? = _; rw [get_set_app0]; rfl, R, c', k, P, rfl, rfl, by simp! [], B, hk, hP, by omega, by omega, hRL, hR⟩
/-! ### the same bands by another screen and width -/
theorem again_i {ls ls2 : List (List Int)} (lok : LvOk ls2) {w w2 : Int} (w0 : 1 ≤ w2) (w1 : w2 ≤ (1000000000000000000000000000000 : Int)) {R : List Int} (hR : ∀ s ∈ R, 0 ≤ s ∧ s ≤ 4 ^ ls2.length) (hrl : (rle R).length ≤ 7) (hRl : (R.length : Int) ≤ (1000000000000000000000000000000 : Int)) {k : List D} {P : List (List Bd)} {m : Nat} {st : Store} (hm : st[m]? = some (.mu (pic ls w (rle R) k (pst P)))) :
    ∃ (k2 : List D) (P2 : List (List Bd)), s_z_law_again [.r m, .p (.scr (lvD ls2)), .p (.int w2)] st = .ok (.new (pic ls2 w2 (rle R) k2 (pst P2))) st := by
  suffices h : WpF (s_z_law_again [.r m, .p (.scr (lvD ls2)), .p (.int w2)] st) fun a st' => ∃ (k2 : List D) (P2 : List (List Bd)), a = .new (pic ls2 w2 (rle R) k2 (pst P2)) ∧ st' = st by
    obtain ⟨a, st', e, k2, P2, rfl, rfl⟩ := h
    exact ⟨k2, P2, e⟩
  have pm : ∀ S : Sg, makeK 1 s_Picture___init 3 [.p (.scr (lvD ls2)), .p (.int w2)] S = .ok (.r S.st.length) ⟨S.sl, S.st ++ [.mu (pic ls2 w2 [] [] [])]⟩ := fun S => picture_make w0 w1
  have gm : ∀ Z : Store, (st ++ Z)[m]? = some (.mu (pic ls w (rle R) k (pst P))) := fun Z => get_old hm
  have pb := fun (st' : Store) (q : st'[m]? = some (.mu (pic ls w (rle R) k (pst P)))) => pic_bands (by omega) q
  unfold s_z_law_again b_z_law_again
  simp! [bnd_bnd, pm, propU_ap, propK_r, gm, pic_prop, noX_ok, pb]
  refine wpf_bnd (wp_loop (I := fun j S => ∃ (k2 : List D) (P2 : List (List Bd)) (s4 s5 : Option Dd.R), S = ⟨[some (.r m), some (.p (.scr (lvD ls2))), some (.p (.int w2)), some (.r st.length), s4, s5], st ++ [.mu (pic ls2 w2 (rle (bRows ((rle R).take j))) k2 (pst P2)), .mu (.lst (pbsD (rle R)))]⟩ ∧ k2.length = j ∧ P2.length = j) ?_ ?_ ?_ ?_)
  · exact ⟨[], [], none, none, rfl, rfl, rfl⟩
  · rintro j S ⟨k2, P2, s4, s5, rfl, _⟩
    show getLK ((st ++ _)[_]?) = _
    rw [get_app]; rfl
  · rintro j d S hj ⟨k2, P2, s4, s5, rfl, hk, hP⟩
    obtain ⟨b, hb, rfl⟩ := bs_get hj
    have jl := (List.getElem?_eq_some_iff.mp hb).1
    have hbm := List.mem_of_getElem? hb
    obtain ⟨q1, q2⟩ := rle_mem hbm
    obtain ⟨s0, s1⟩ := hR b.2 q1
    have b0 : 0 < b.1 := (rle_ok R).1.pos b hbm
    have tk := take_snoc hb
    have eR : bRows ((rle R).take (j + 1)) = bRows ((rle R).take j) ++ List.replicate b.1 b.2 := by
      rw [tk, bRows_app]
      congr 1
      show List.replicate b.1 b.2 ++ [] = _
      rw [List.append_nil]
    have hl : (rle (bRows ((rle R).take j))).length ≤ 3000 := by
      have np : ∀ x ∈ (rle R).take j, 0 < x.1 := fun x hx => (rle_ok R).1.pos x (List.mem_of_mem_take hx)
      rw [← rle_mrg np]
      have := bMrg_len ((rle R).take j)
      rw [List.length_take] at this
      omega
    generalize hQ : bRows ((rle R).take j) = Q at *
    have ins := fun st' q => insP (n := st.length) (w := w2) (R := Q) (c := k2) (P := P2) lok hl (row := Q.length) (num := b.1) (s := b.2) (Nat.le_refl _) b0 (by omega) s0 s1 (by omega) (by omega) st' q
    rw [ins_end] at ins
    have ph := fun (st' : Store) (q : st'[st.length]? = some (.mu (pic ls2 w2 (rle Q) k2 (pst P2)))) => pic_height (by omega) q
    rw [rle_hgt] at ph
    have gx : ∀ (x : Cell) (Z : Store), (st ++ x :: Z)[st.length]? = some x := fun x Z => by rw [get_app0]; rfl
    have sx : ∀ (x y : Cell) (Z : Store), (st ++ x :: Z).set st.length y = st ++ y :: Z := fun x y Z => by rw [set_app0]; rfl
    rw [bind_bnd]
    simp! [bnd_bnd, pbD, propU_ap, propK_r, gx, pic_prop, noX_ok, ph, methU_r 1, methC_r, pic_meth (m := "insert") (by rfl), ins, sx]
    rw [eR]
    exact wp_ok ⟨_, _, _, _, rfl, by simp [hk], by simp [hP]⟩
  · rintro S ⟨k2, P2, s4, s5, rfl, hk, hP⟩
    rw [pbsD_len, List.take_length, (rle_ok R).2]
    simp! [bnd_bnd]
    rw [finishR_mu (o := pic ls2 w2 (rle R) k2 (pst P2)) (by rw [get_app0]; rfl) (Nat.le_refl _), List.take_left]
    exact wpf_ok ⟨k2, P2, rfl, rfl⟩
theorem right_d {most : Int} (m0 : 0 < most) (m1 : most ≤ 50) {L : Int} (L0 : 1 ≤ L) (L1 : L ≤ 10000000000000000000000000000) : Draws s_z_law_right (fun n => [.r n, .p (.int most), .p (.int L)]) (fun v => v = .bl true) 320 := by
  apply dr_of
  intro st n c C hn hb hC
  have p200 : (2 : Int) ^ 200 = 1606938044258990275541962092341162602522202993782792835301376 := by decide
  unfold s_z_law_right b_z_law_right
  simp! [bnd_bnd]
  refine wpf_bnd (wp_drawL0 (levels2_d m0 m1) hn hb (by omega) fun v1 c1 ⟨ls, e1, lok, l4⟩ B1 => ?_); subst e1
  obtain ⟨d1, d2, hp⟩ := id lok
  have f4 := four_pos ls.length
  obtain ⟨q1, q2⟩ := four_bd d2
  have q3 : (2 : Int) ^ 100 < 2 ^ 199 := by decide
  simp! [bnd_bnd, screen_make ls lok, pureC_obj objD_scr]
  refine wpf_bnd (wp_draw (pick_d (m := L) (by omega) (by omega)) hn B1 (by omega) fun v2 c2 ⟨x2, e2, a2, b2⟩ B2 => ?_); subst e2
  obtain ⟨w, hw⟩ : ∃ w, 1 + x2 = w := ⟨_, rfl⟩
  have w0 : 1 ≤ w := by omega
  have wL : w ≤ L := by omega
  have w1 : w ≤ (1000000000000000000000000000000 : Int) := by omega
  simp! [bnd_bnd, shades_p ls d2, hw]
  refine wpf_bnd (wp_lcFin (wp_lc (I := fun i acc S => ∃ (c' : Cell) (T : List Int), acc = T.map D.int ∧ T.length = i ∧ (∀ s ∈ T, 0 ≤ s ∧ s ≤ 4 ^ ls.length) ∧ S = ⟨[some (.r n), some (.p (.int most)), some (.p (.int L)), some (.p (.scr (lvD ls))), none, none, none, none, none, none, none, none, none, none, none, none, none, none], st.set n c' ++ [.fz (lvD ls), .dead]⟩ ∧ BagC c' (C + 251 + i)) ?_ ?_ ?_ ?_ ?_))
  · exact ⟨c2, [], rfl, rfl, by simp, rfl, B2⟩
  · intros; trivial
  · simp
  · rintro i q acc S hi hla ⟨c', T, rfl, hl, hT, rfl, B⟩
    have hi4 : i < 3 := (List.getElem?_eq_some_iff.mp hi).1
    rw [lcB1_ap]
    simp! [bnd_bnd, shades_p ls d2]
    refine wp_bnd (wp_draw (pick_d (m := 4 ^ ls.length + 1) (by omega) (by omega)) hn B (by omega) fun v3 c3 ⟨x3, e3, a3, b3⟩ B3 => ?_); subst e3
    simp! [bnd_bnd]
    exact wp_ok ⟨c3, T ++ [x3], by rw [List.map_append]; rfl, by simp [hl], fun s hs => by
      rcases List.mem_append.mp hs with h | h
      · exact hT s h
      · rcases List.mem_singleton.mp h with rfl; omega, rfl, BagC.mono B3 (by omega)⟩
  · rintro acc S ⟨c3, T, rfl, hT, rT, rfl, B3⟩
    have hT : T.length = 3 := hT
    have B3 : BagC c3 (C + 251 + 3) := B3
    refine ⟨by rw [List.length_map]; omega, ?_⟩
    simp! [bnd_bnd, sAsg2_ap]
    obtain ⟨o, dd, st2, eF, R, c4, k, P, rfl, rfl, rfl, B4, hk, hP, hrl, hR1, hRL, hR⟩ := filled_i (st := st ++ [Cell.fz (lvD ls), Cell.dead, Cell.fz (List.map D.int T)]) (m := n) (c := c3) lok w0 w1 L0 L1 hT rT (by rw [List.length_append]; omega) B3 (by omega)
    have sa : ∀ x : Cell, (st ++ [Cell.fz (lvD ls), Cell.dead, Cell.fz (List.map D.int T)]).set n x = st.set n x ++ [Cell.fz (lvD ls), Cell.dead, Cell.fz (List.map D.int T)] := fun x => List.set_append_left _ _ hn
    rw [sa, sa] at eF
    have ik := fun (st' : Store) (q : st'[st.length + 3]? = some (.mu (pic ls w (rle R) k (pst P)))) => pic_ink lok w0 w1 (by omega) q
    rw [eF, applyF2_ok]
    have g3 : ∀ (c : Cell) (a b d e : Cell) (Z : Store), (st.set n c ++ a :: b :: d :: e :: Z)[st.length + 3]? = some e := fun c a b d e Z => by rw [get_set_app]; rfl
    simp! [bnd_bnd, methU_r 1, methC_r, g3, pic_meth (m := "ink") (by rfl), ik, opNeD_i]
    refine wpf_bnd (wp_draw (pick_d (m := L) (by omega) (by omega)) hn B4 (by omega) fun v5 c5 ⟨x5, e5, a5, b5⟩ B5 => ?_); subst e5
    obtain ⟨h, hh⟩ : ∃ k : Nat, 1 + x5 = (k : Int) := ⟨(1 + x5).toNat, by omega⟩
    have h1 : 1 ≤ h := by omega
    have hL : (h : Int) ≤ L := by omega
    have wh : w * (h : Int) ≤ 10000000000000000000000000000 * 10000000000000000000000000000 := Int.mul_le_mul (by omega) (by omega) (by omega) (by decide)
    have wh0 : 0 ≤ w * (h : Int) := Int.mul_nonneg (by omega) (by omega)
    have mw : CMulW w (h : Int) := cmulw (n := 120) (m := 120) (Bt.of ⟨by omega, Int.lt_of_le_of_lt w1 (by decide)⟩) (Bt.of ⟨by omega, Int.lt_of_le_of_lt (show (h : Int) ≤ (1000000000000000000000000000000 : Int) by omega) (by decide)⟩)
    have win : WinOk 0 0 w (h : Int) := ⟨by decide, by decide, by decide, by decide, w0, w1, by omega, by omega⟩
    simp! [bnd_bnd, hh, opMul_i mw]
    refine wpf_bnd (wp_draw (pick_d (m := w * (h : Int) + 1) (by omega) (Int.lt_of_le_of_lt (show w * (h : Int) + 1 ≤ 100000000000000000000000000000000000000000000000000000001 by omega) (by decide))) hn B5 (by omega) fun v6 c6 ⟨num, e6, a6, b6⟩ B6 => ?_); subst e6
    have lsi := fun st => least_shade_i d2 hp win (n := num) a6 (by omega) st
    obtain ⟨s0, s1, sn, sp⟩ := lst_is d2 hp win (n := num) a6 (by omega)
    unfold winD at lsi
    generalize lst ls 0 0 w (h : Int) num = s at *
    have pm : ∀ S : Sg, makeK 1 s_Picture___init 3 [.p (.scr (lvD ls)), .p (.int w)] S = .ok (.r S.st.length) ⟨S.sl, S.st ++ [.mu (pic ls w [] [] [])]⟩ := fun S => picture_make w0 w1
    have ins : ∀ st' : Store, st'[st.length + 4]? = some (.mu (pic ls w [] [] [])) → s_Picture_insert [.r (st.length + 4), .p (.int 0), .p (.int (h : Int)), .p (.int s)] st' = .ok (.val .non) (st'.set (st.length + 4) (.mu (pic ls w (rle (List.replicate h s)) [Lib.stI 0 h s] (pst [[]])))) := fun st' q => by
      have := insP (n := st.length + 4) (w := w) (R := []) (c := []) (P := []) lok (by decide) (row := 0) (num := h) (s := s) (Nat.le_refl _) h1 (by omega) s0 s1 (by decide) (by decide) st' q
      have e := ins_end [] h s
      rw [show ([] : List Int).length = 0 from rfl, List.nil_append] at e
      rw [e] at this
      exact this
    have ik1 := fun (st' : Store) (q : st'[st.length + 4]? = some (.mu (pic ls w (rle (List.replicate h s)) [Lib.stI 0 h s] (pst [[]])))) => pic_ink lok w0 w1 (by rw [List.length_replicate]; omega) q
    rw [inkR_rep] at ik1
    have dc := fun st' => dot_count_i ls d2 hp s0 s1 win st'
    unfold winD at dc
    have g4 : ∀ (c : Cell) (a b d e f : Cell) (Z : Store), (st.set n c ++ a :: b :: d :: e :: f :: Z)[st.length + 4]? = some f := fun c a b d e f Z => by rw [get_set_app]; rfl
    have s4 : ∀ (c : Cell) (a b d e f g : Cell) (Z : Store), (st.set n c ++ a :: b :: d :: e :: f :: Z).set (st.length + 4) g = st.set n c ++ a :: b :: d :: e :: g :: Z := fun c a b d e f g Z => by rw [← List.length_set (as := st) (i := n) (a := c), set_app]; rfl
    have nlt : ¬ Lib.cnt ls s 0 0 w (h : Int) < num := by omega
    simp! [bnd_bnd, lsi, pm, methU_r 1, methC_r, g4, s4, pic_meth (m := "insert") (by rfl), ins, pic_meth (m := "ink") (by rfl), ik1, dc, nlt, opNeD_i]
    refine wpf_ite (fun h0 => ?_) ?_
    · have cg := chg_pnt (ls := ls) (R := List.replicate h s) lok (by rw [rle_rep (by omega)]; show 1 ≤ 3000; decide) (row := 0) (num := h) (s := s - 1) (by rw [List.length_replicate]; omega) h1 (by rw [List.length_replicate]; omega) (by omega) (by omega)
      have er : rPnt (List.replicate h s) 0 h (s - 1) = List.replicate h (s - 1) := by
        unfold rPnt
        rw [List.take_zero, List.nil_append, List.drop_of_length_le (by rw [List.length_replicate]; omega), List.append_nil]
      rw [er] at cg
      have pv : ∀ st' : Store, st'[st.length + 4]? = some (.mu (pic ls w (rle (List.replicate h s)) [Lib.stI 0 h s] (pst [[]]))) → s_Picture_preview [.r (st.length + 4), .p (.tup [.tup [.str (Str.ofString "paint"), .int 0, .int (h : Int), .int (s - 1)]])] st' = .ok (.val (.int (Lib.cnt ls (s - 1) 0 0 w (h : Int)))) st' := fun st' q => by
        have := preview_i lok w0 w1 (R := List.replicate h s) (R' := List.replicate h (s - 1)) (vs := [Lib.stP 0 h (s - 1)]) ⟨_, cg.1, cg.2, rfl⟩ (show 1 ≤ 1000 by decide) (by rw [List.length_replicate]; omega) q
        rw [inkR_rep] at this
        exact this
      have nge : ¬ num ≤ Lib.cnt ls (s - 1) 0 0 w (h : Int) := by have := sp h0; omega
      simp! [bnd_bnd, pic_meth (m := "preview") (by rfl), pv, g4, nge]
    simp! [bnd_bnd, period_p ls d2]
    refine wpf_bnd (wp_draw (pick_d (m := 5) (by decide) (by decide)) hn B6 (by omega) fun v7 c7 ⟨x7, e7, a7, b7⟩ B7 => ?_); subst e7
    have q50 : (2 : Int) ^ ls.length ≤ 2 ^ 50 := pow_bd d2
    have q51 : (2 : Int) ^ 50 = 1125899906842624 := by decide
    have tp := two_pos ls.length
    have W1 : 2 ^ ls.length * (1 + x7) ≤ 1125899906842624 * 5 := Int.mul_le_mul (by omega) (by omega) (by omega) (by decide)
    have W0 : 1 ≤ 2 ^ ls.length * (1 + x7) := by
      have := Int.mul_le_mul (show (1 : Int) ≤ 2 ^ ls.length by omega) (show (1 : Int) ≤ 1 + x7 by omega) (by decide) (by omega)
      omega
    have mm : CMulW (2 ^ ls.length) (1 + x7) := cmulw (n := 60) (m := 60) (Bt.of ⟨by omega, by omega⟩) (Bt.of ⟨by omega, by omega⟩)
    obtain ⟨k2, P2, ag⟩ := again_i (w := w) lok W0 (by omega) (R := R) hR hrl (by omega) (k := k) (P := P) (m := st.length + 3) (st := List.set st n c7 ++ [Cell.fz (lvD ls), Cell.dead, Cell.fz (List.map D.int T), Cell.mu (pic ls w (rle R) k (pst P)), Cell.mu (pic ls w (rle (List.replicate h s)) [Lib.stI 0 h s] (pst [[]]))]) (g3 _ _ _ _ _ _)
    obtain ⟨W, hW⟩ : ∃ W : Int, W = 2 ^ ls.length * (1 + x7) := ⟨_, rfl⟩
    have mi := mirrored_i lok
    have lokM : LvOk (rea [1, 0, 3, 2] ls) := ⟨by rw [rea_len]; exact d1, by rw [rea_len]; exact d2, rea_lvs (by decide) hp⟩
    rw [← hW] at ag W0 W1
    obtain ⟨k3, P3, ag2⟩ := again_i (w := w) lokM W0 (by omega) (R := R) (by rw [rea_len]; exact hR) hrl (by omega) (k := k) (P := P) (m := st.length + 3) (st := List.set st n c7 ++ [Cell.fz (lvD ls), Cell.dead, Cell.fz (List.map D.int T), Cell.mu (pic ls w (rle R) k (pst P)), Cell.mu (pic ls w (rle (List.replicate h s)) [Lib.stI 0 h s] (pst [[]])), Cell.mu (pic ls W (rle R) k2 (pst P2)), Cell.dead]) (g3 _ _ _ _ _ _)
    have g5 : ∀ (c : Cell) (a b d e f g : Cell) (Z : Store), (st.set n c ++ a :: b :: d :: e :: f :: g :: Z)[st.length + 5]? = some g := fun c a b d e f g Z => by rw [get_set_app]; rfl
    have g7 : ∀ (c : Cell) (a b d e f g i j : Cell) (Z : Store), (st.set n c ++ a :: b :: d :: e :: f :: g :: i :: j :: Z)[st.length + 7]? = some j := fun c a b d e f g i j Z => by rw [get_set_app]; rfl
    have ikA := fun (st' : Store) (q : st'[st.length + 5]? = some (.mu (pic ls W (rle R) k2 (pst P2)))) => pic_ink lok W0 (by omega) (by omega) q
    have ikB := fun (st' : Store) (q : st'[st.length + 7]? = some (.mu (pic (rea [1, 0, 3, 2] ls) W (rle R) k3 (pst P3)))) => pic_ink lokM W0 (by omega) (by omega) q
    have eqM := mir_whole lok (q := 1 + x7) (by omega) hR 0
    rw [← hW] at eqM
    rw [eqM] at ikB
    have dp := depth_p ls
    simp! [bnd_bnd, opMul_i mm, ← hW, methU_r 1, ag, methC_r, g5, g7, pic_meth (m := "ink") (by rfl), ikA, mi, pureC_obj objD_scr, ag2, ikB, opNeD_i, dp, opEqD_i]
    by_cases hd1 : ((ls.length : Nat) : Int) = 1
    · rw [if_pos hd1]
      exact wpf_ok ⟨_, c7, rfl, rfl, rfl, BagC.mono B7 (by omega)⟩
    rw [if_neg hd1]
    generalize hJ : [Cell.fz (lvD ls), Cell.dead, Cell.fz (List.map D.int T), Cell.mu (pic ls w (rle R) k (pst P)), Cell.mu (pic ls w (rle (List.replicate h s)) [Lib.stI 0 h s] (pst [[]])), Cell.mu (pic ls W (rle R) k2 (pst P2)), Cell.dead, Cell.mu (pic (rea [1, 0, 3, 2] ls) W (rle R) k3 (pst P3))] = J
    refine wpf_bnd (wp_draw (pick_d (m := ((ls.length : Nat) : Int) - 1) (by omega) (by omega)) hn B7 (by omega) fun v8 c8 ⟨x8, e8, a8, b8⟩ B8 => ?_); subst e8
    obtain ⟨f, hf⟩ : ∃ f : Nat, 1 + x8 = (f : Int) := ⟨(1 + x8).toNat, by omega⟩
    have f1 : 1 ≤ f := by omega
    have f2 : f < ls.length := by omega
    have fl := fun st => first_levels_i lok f1 (show f ≤ ls.length by omega) st
    have lt : (ls.take f).length = f := by rw [List.length_take]; omega
    have lokF : LvOk (ls.take f) := ⟨by omega, by omega, fun z hz => hp z (List.mem_of_mem_take hz)⟩
    have shF := shades_p (ls.take f) (by omega)
    rw [lt] at shF
    have pm2 : ∀ S : Sg, makeK 1 s_Picture___init 3 [.p (.scr (lvD (ls.take f))), .p (.int w)] S = .ok (.r S.st.length) ⟨S.sl, S.st ++ [.mu (pic (ls.take f) w [] [] [])]⟩ := fun S => picture_make w0 w1
    have e4 : (4 : Int) ^ ls.length = 4 ^ (ls.length - f) * 4 ^ f := by rw [← Int.pow_add]; congr 1; omega
    have t0 := four_pos (ls.length - f)
    have t4 := four_pos f
    have dv4 : (4 : Int) ^ ls.length / 4 ^ f = 4 ^ (ls.length - f) := by rw [e4, Int.mul_ediv_cancel _ (Int.ne_of_gt t4)]
    have cd4 : CDivW ((4 : Int) ^ ls.length) (4 ^ f) := cdivw t4 (Int.lt_of_le_of_lt (p4le (show f ≤ 50 by omega)) (by decide))
    simp! [bnd_bnd, hf, fl, pureC_obj objD_scr, pm, shades_p ls d2, shF, opDiv_i cd4, dv4, pm2]
    obtain ⟨U, hU⟩ : ∃ U : Int, U = 4 ^ (ls.length - f) := ⟨_, rfl⟩
    rw [← hU] at t0 e4
    rw [← hU]
    obtain ⟨H, hH⟩ : ∃ H : Nat, H = h + 1 := ⟨_, rfl⟩
    have h4 : 1 + (h : Int) = (H : Int) := by omega
    have U100 : U < ((2 ^ 102 : Nat) : Int) := by rw [hU]; exact Int.lt_of_le_of_lt (p4le (show ls.length - f ≤ 50 by omega)) (by decide)
    refine wpf_bnd (wp_loop (I := fun j S => ∃ (Q : List Int) (kA kB : List D) (PA PB : List (List Bd)) (s10 : Option Dd.R), S = ⟨[some (.r n), some (.p (.int most)), some (.p (.int L)), some (.p (.scr (lvD ls))), some (.p (.int w)), some (.p (.lst (T.map .int))), some (.r (st.length + 3)), some (.p (.int (inkR ls w R 0))), some (.p (.int (h : Int))), some (.p (.int num)), s10, some (.r (st.length + 4)), some (.p (.int W)), some (.p (.scr (lvD (ls.take f)))), some (.r (st.length + (J.length + 1))), some (.p (.int U)), some (.r (st.length + (J.length + 2))), none],
        st.set n c8 ++ (J ++ [Cell.dead, Cell.mu (pic ls w (rle (Q.map fun q => q * U)) kA (pst PA)), Cell.mu (pic (ls.take f) w (rle Q) kB (pst PB))])⟩ ∧ kA.length = j ∧ kB.length = j ∧ PA.length = j ∧ PB.length = j ∧ Q.length = j * H ∧ (rle (Q.map fun q => q * U)).length + 1 ≤ 2 ^ j ∧ (rle Q).length + 1 ≤ 2 ^ j ∧ ∀ q ∈ Q, 0 ≤ q ∧ q ≤ 4 ^ f) ?_ (fun _ _ _ => trivial) ?_ ?_)
    · exact ⟨[], [], [], [], [], _, rfl, rfl, rfl, rfl, rfl, by simp, by show 0 + 1 ≤ 1; decide, by show 0 + 1 ≤ 1; decide, by simp⟩
    · rintro j d S hj ⟨Q, kA, kB, PA, PB, s10, rfl, hkA, hkB, hPA, hPB, hQl, hrA, hrB, hQ⟩
      rw [List.getElem?_map] at hj
      obtain ⟨z, hz, rfl⟩ := Option.map_eq_some_iff.mp hj
      obtain ⟨z0, z1⟩ := rT z (List.mem_of_getElem? hz)
      have j3 : j < 3 := by rw [← hT]; exact (List.getElem?_eq_some_iff.mp hz).1
      have j4 : (2 : Nat) ^ j ≤ 4 := by rcases (show j = 0 ∨ j = 1 ∨ j = 2 by omega) with rfl | rfl | rfl <;> decide
      obtain ⟨q, hq⟩ : ∃ q, z / U = q := ⟨_, rfl⟩
      have qa : 0 ≤ q := hq ▸ Int.ediv_nonneg z0 (Int.le_of_lt t0)
      have qb : q ≤ 4 ^ f := by
        have := Int.ediv_le_ediv t0 z1
        rw [e4, Int.mul_ediv_cancel_left _ (Int.ne_of_gt t0), hq] at this
        exact this
      have qU : 0 ≤ q * U := Int.mul_nonneg qa (Int.le_of_lt t0)
      have qU2 : q * U ≤ 4 ^ ls.length := by
        rw [e4, Int.mul_comm U]
        exact Int.mul_le_mul_of_nonneg_right qb (Int.le_of_lt t0)
      have f102 : (4 : Int) ^ f < ((2 ^ 102 : Nat) : Int) := Int.lt_of_le_of_lt (p4le (show f ≤ 50 by omega)) (by decide)
      have f103 : (4 : Int) ^ ls.length < ((2 ^ 102 : Nat) : Int) := Int.lt_of_le_of_lt (p4le d2) (by decide)
      have qU2' : U ≤ 4 ^ 50 := by rw [hU]; exact p4le (by omega)
      have dz : CDivW z U := cdivw t0 (Int.lt_of_le_of_lt (qU2' : U ≤ 4 ^ 50) (by decide))
      have mz : CMulW q U := cmulw (n := 102) (m := 102) (Bt.of ⟨by omega, by omega⟩) (Bt.of ⟨by omega, U100⟩)
      have gA := rle_ins_len (Q.map fun q => q * U) (Q.map fun q => q * U).length H (q * U) (by omega)
      have gB := rle_ins_len Q Q.length H q (by omega)
      have iA := fun st' y => insP (n := st.length + (J.length + 1)) (w := w) (R := Q.map fun q => q * U) (c := kA) (P := PA) lok (by omega) (row := (Q.map fun q => q * U).length) (num := H) (s := q * U) (Nat.le_refl _) (by omega) (by omega) qU qU2 (by omega) (by omega) st' y
      have iB := fun st' y => insP (n := st.length + (J.length + 2)) (w := w) (R := Q) (c := kB) (P := PB) lokF (by omega) (row := Q.length) (num := H) (s := q) (Nat.le_refl _) (by omega) (by omega) qa (by rw [lt]; exact qb) (by omega) (by omega) st' y
      rw [ins_end] at iA iB gA gB
      have pA := fun (st' : Store) (y : st'[st.length + (J.length + 1)]? = some (.mu (pic ls w (rle (Q.map fun q => q * U)) kA (pst PA)))) => pic_height (by omega) y
      have pB := fun (st' : Store) (y : st'[st.length + (J.length + 2)]? = some (.mu (pic (ls.take f) w (rle Q) kB (pst PB)))) => pic_height (by omega) y
      rw [rle_hgt] at pA pB
      have eM : (Q.map fun q => q * U) ++ List.replicate H (q * U) = (Q ++ List.replicate H q).map fun q => q * U := by rw [List.map_append, List.map_replicate]
      rw [eM] at iA gA
      rw [List.length_map] at iA pA
      rw [bind_bnd]
      have g1 : ∀ (a b d : Cell), (st.set n c8 ++ (J ++ [a, b, d]))[st.length + (J.length + 1)]? = some b := fun a b d => by rw [get_set_app, get_app]; rfl
      have g2 : ∀ (a b d : Cell), (st.set n c8 ++ (J ++ [a, b, d]))[st.length + (J.length + 2)]? = some d := fun a b d => by rw [get_set_app, get_app]; rfl
      have u1 : ∀ (a b d e : Cell), (st.set n c8 ++ (J ++ [a, b, d])).set (st.length + (J.length + 1)) e = st.set n c8 ++ (J ++ [a, e, d]) := fun a b d e => by rw [← List.length_set (as := st) (i := n) (a := c8), set_app, set_app]; rfl
      have u2 : ∀ (a b d e : Cell), (st.set n c8 ++ (J ++ [a, b, d])).set (st.length + (J.length + 2)) e = st.set n c8 ++ (J ++ [a, b, e]) := fun a b d e => by rw [← List.length_set (as := st) (i := n) (a := c8), set_app, set_app]; rfl
      simp! [bnd_bnd, h4, propU_ap, propK_r, g1, g2, u1, u2, pic_prop, noX_ok, pA, pB, methU_r 1, methC_r, pic_meth (m := "insert") (by rfl), opDiv_i dz, hq, opMul_i mz, iA, iB]
      have p2 : (2 : Nat) ^ (j + 1) = 2 ^ j * 2 := Nat.pow_succ ..
      refine wp_ok ⟨_, _, _, _, _, _, rfl, by simp [hkA], by simp [hkB], by simp [hPA], by simp [hPB], by rw [List.length_append, List.length_replicate, hQl, Nat.succ_mul], by omega, by omega, fun y hy => ?_⟩
      rcases List.mem_append.mp hy with t | t
      · exact hQ y t
      · rw [(List.mem_replicate.mp t).2]; exact ⟨qa, qb⟩
    · rintro S ⟨Q, kA, kB, PA, PB, s10, rfl, hkA, hkB, hPA, hPB, hQl, hrA, hrB, hQ⟩
      rw [List.length_map, hT] at hQl
      have kA' := fun (st' : Store) (y : st'[st.length + (J.length + 1)]? = some (.mu (pic ls w (rle (Q.map fun q => q * U)) kA (pst PA)))) => pic_ink lok w0 w1 (by rw [List.length_map]; omega) y
      have kB' := fun (st' : Store) (y : st'[st.length + (J.length + 2)]? = some (.mu (pic (ls.take f) w (rle Q) kB (pst PB)))) => pic_ink lokF w0 w1 (by omega) y
      have eqI := few_ink lok f1 f2 (show 0 ≤ w by omega) hQ 0
      rw [← hU] at eqI
      rw [eqI] at kA'
      have g1 : ∀ (a b d : Cell), (st.set n c8 ++ (J ++ [a, b, d]))[st.length + (J.length + 1)]? = some b := fun a b d => by rw [get_set_app, get_app]; rfl
      have g2 : ∀ (a b d : Cell), (st.set n c8 ++ (J ++ [a, b, d]))[st.length + (J.length + 2)]? = some d := fun a b d => by rw [get_set_app, get_app]; rfl
      simp! [bnd_bnd, methU_r 1, methC_r, g1, g2, pic_meth (m := "ink") (by rfl), kA', kB', opEqD_i]
      exact wpf_ok ⟨_, c8, rfl, by simp! [], rfl, BagC.mono B8 (by omega)⟩
theorem law_true : ∀ ns : List Int, ns.length ≤ 63 → ∃ st, s_law [.p (.scp (ns.map D.int))] [] = .ok (.val (.bl true)) st := by
  intro ns hn
  suffices h : WpF (s_law [.p (.scp (ns.map D.int))] []) fun a _ => a = .val (.bl true) by
    obtain ⟨_, st, e, rfl⟩ := h
    exact ⟨st, e⟩
  unfold s_law b_law
  simp! [bnd_bnd, slE_ap, opt0_ap, opt1_ci, opSl_scp (l := ns.map D.int) (by rw [List.length_map]; omega), opAdd_rr, cutD_k4, catK_ap (cellsk_len (k := 4) (by decide))]
  have q28 : CPowW 10 28 := by decide
  refine wpf_bnd (wp_loop (I := fun _ S => ∃ k1 k2 X, S = ⟨[some (.p (.scp (ns.map D.int))), k1, k2], X⟩ ∧ X[2]? = some (.mu (.lst ((ns.take 4).map D.int ++ [D.int 0])))) ?_ ?_ ?_ ?_)
  · exact ⟨_, _, _, rfl, rfl⟩
  · rintro j S ⟨k1, k2, X, rfl, hX⟩
    simp! [hX]
  · rintro j d S hj ⟨k1, k2, X, rfl, hX⟩
    obtain ⟨i, rfl⟩ := cellk_at hj
    rw [bind_bnd]
    simp! [bnd_bnd, bag_i]
    refine wp_bnd (wp_drawE (l := []) (right_d (most := 3) (L := 40) (by decide) (by decide) (by decide) (by decide)) (bag0 i) (by omega) fun v1 c1 e1 B1 => ?_); subst e1
    simp! [bnd_bnd, opPow_i q28]
    refine wp_bnd (wp_drawE (l := []) (right_d (most := 50) (L := 10000000000000000000000000000) (by decide) (by decide) (by decide) (by decide)) B1 (by omega) fun v2 c2 e2 B2 => ?_); subst e2
    simp! [bnd_bnd]
    exact wp_ok ⟨_, _, _, rfl, get_old hX⟩
  · rintro S ⟨k1, k2, X, rfl, hX⟩
    simp! [bnd_bnd]
    exact wpf_ok rfl
end K70

set_option Elab.async false
set_option linter.all false
set_option maxRecDepth 100000
set_option maxHeartbeats 4000000
namespace K70
open PySem PySem.Spec PyProof.Rows L2 Dd Lib
theorem all_mk {P : Program} {w : World} {K : PySem.W.Frag} {h : Heap} {mg : Str → Option Value} {fa : Addr} (X : K.In h) (G : h.Ns mainGlobals mg) (hfa : mg "law" = some (.ref fa))
    {C1 : Addr}
    {C0 : Addr}
    {C100 : Addr}
    {C101 N101 : Addr} {q101 : Str} {bs101 sub101 : List Value} {ab101 : Bool} {sn101 : List Str} {col101 : Option Bool} {dd101 : Option Addr} {k0_101 k1_101 k2_101 k3_101 k5_101 : Option Value}
    {fx101 : Addr} {xod101 xan101 : Option Addr} {xsl101 : Array (Option Value)} {xoc101 xdc101 xpm101 xcd101 xct101 : Value}
    {C107 N107 : Addr} {q107 : Str} {bs107 sub107 : List Value} {ab107 : Bool} {sn107 : List Str} {col107 : Option Bool} {dd107 : Option Addr} {k0_107 k1_107 k2_107 k3_107 k5_107 : Option Value}
    {fx107 : Addr} {xod107 xan107 : Option Addr} {xsl107 : Array (Option Value)} {xoc107 xdc107 xpm107 xcd107 xct107 : Value}
    {C108 N108 : Addr} {q108 : Str} {bs108 sub108 : List Value} {hd108 ab108 : Bool} {sn108 : List Str} {col108 : Option Bool} {dd108 : Option Addr} {k0_108 k1_108 k2_108 k3_108 k5_108 : Option Value}
    {C109 N109 : Addr} {q109 : Str} {bs109 sub109 : List Value} {hd109 ab109 : Bool} {sn109 : List Str} {col109 : Option Bool} {dd109 : Option Addr} {k0_109 k1_109 k2_109 k3_109 k5_109 : Option Value}
    {C110 N110 : Addr} {q110 : Str} {bs110 sub110 : List Value} {hd110 ab110 : Bool} {sn110 : List Str} {col110 : Option Bool} {dd110 : Option Addr} {k0_110 k1_110 k2_110 k3_110 k5_110 : Option Value}
    {C114 N114 : Addr} {q114 : Str} {bs114 sub114 : List Value} {hd114 ab114 : Bool} {sn114 : List Str} {col114 : Option Bool} {dd114 : Option Addr} {k0_114 k1_114 k2_114 k3_114 k5_114 : Option Value}
    {C115 N115 : Addr} {q115 : Str} {bs115 sub115 : List Value} {hd115 ab115 : Bool} {sn115 : List Str} {col115 : Option Bool} {dd115 : Option Addr} {k0_115 k1_115 k2_115 k3_115 k5_115 : Option Value}
    {C117 N117 : Addr} {q117 : Str} {bs117 sub117 : List Value} {hd117 ab117 : Bool} {sn117 : List Str} {col117 : Option Bool} {dd117 : Option Addr} {k0_117 k1_117 k2_117 k3_117 k5_117 : Option Value}
    {f0 : Addr} {od0 an0 : Option Addr} {sl0 : Array (Option Value)} {oc0 kV0 dc0 pm0 cd0 ct0 : Value}
    {f1 : Addr} {od1 an1 : Option Addr} {sl1 : Array (Option Value)} {oc1 kV1 dc1 pm1 cd1 ct1 : Value}
    {f2 : Addr} {od2 an2 : Option Addr} {sl2 : Array (Option Value)} {oc2 kV2 dc2 pm2 cd2 ct2 : Value}
    {f3 : Addr} {od3 an3 : Option Addr} {sl3 : Array (Option Value)} {oc3 kV3 dc3 pm3 cd3 ct3 : Value}
    {f4 : Addr} {od4 an4 : Option Addr} {sl4 : Array (Option Value)} {oc4 kV4 dc4 pm4 cd4 ct4 : Value}
    {f5 : Addr} {od5 an5 : Option Addr} {sl5 : Array (Option Value)} {oc5 kV5 dc5 pm5 cd5 ct5 : Value}
    {f6 : Addr} {od6 an6 : Option Addr} {sl6 : Array (Option Value)} {oc6 kV6 dc6 pm6 cd6 ct6 : Value}
    {f7 : Addr} {od7 an7 : Option Addr} {sl7 : Array (Option Value)} {oc7 kV7 dc7 pm7 cd7 ct7 : Value}
    {f8 : Addr} {od8 an8 : Option Addr} {sl8 : Array (Option Value)} {oc8 kV8 dc8 pm8 cd8 ct8 : Value}
    {f9 : Addr} {od9 an9 : Option Addr} {sl9 : Array (Option Value)} {oc9 kV9 dc9 pm9 cd9 ct9 : Value}
    {f10 : Addr} {od10 an10 : Option Addr} {sl10 : Array (Option Value)} {oc10 kV10 dc10 pm10 cd10 ct10 : Value}
    {f11 : Addr} {od11 an11 : Option Addr} {sl11 : Array (Option Value)} {oc11 kV11 dc11 pm11 cd11 ct11 : Value}
    {f12 : Addr} {od12 an12 : Option Addr} {sl12 : Array (Option Value)} {oc12 kV12 dc12 pm12 cd12 ct12 : Value}
    {f13 : Addr} {od13 an13 : Option Addr} {sl13 : Array (Option Value)} {oc13 kV13 dc13 pm13 cd13 ct13 : Value}
    {f14 : Addr} {od14 an14 : Option Addr} {sl14 : Array (Option Value)} {oc14 kV14 dc14 pm14 cd14 ct14 : Value}
    {f15 : Addr} {od15 an15 : Option Addr} {sl15 : Array (Option Value)} {oc15 kV15 dc15 pm15 cd15 ct15 : Value}
    {f16 : Addr} {od16 an16 : Option Addr} {sl16 : Array (Option Value)} {oc16 kV16 dc16 pm16 cd16 ct16 : Value}
    {f17 : Addr} {od17 an17 : Option Addr} {sl17 : Array (Option Value)} {oc17 kV17 dc17 pm17 cd17 ct17 : Value}
    {f18 : Addr} {od18 an18 : Option Addr} {sl18 : Array (Option Value)} {oc18 kV18 dc18 pm18 cd18 ct18 : Value}
    {f19 : Addr} {od19 an19 : Option Addr} {sl19 : Array (Option Value)} {oc19 kV19 dc19 pm19 cd19 ct19 : Value}
    {f20 : Addr} {od20 an20 : Option Addr} {sl20 : Array (Option Value)} {oc20 kV20 dc20 pm20 cd20 ct20 : Value}
    {f21 : Addr} {od21 an21 : Option Addr} {sl21 : Array (Option Value)} {oc21 kV21 dc21 pm21 cd21 ct21 : Value}
    {f22 : Addr} {od22 an22 : Option Addr} {sl22 : Array (Option Value)} {oc22 kV22 dc22 pm22 cd22 ct22 : Value}
    {f23 : Addr} {od23 an23 : Option Addr} {sl23 : Array (Option Value)} {oc23 kV23 dc23 pm23 cd23 ct23 : Value}
    {p23 : Addr} {r23 : List Value}
    {f24 : Addr} {od24 an24 : Option Addr} {sl24 : Array (Option Value)} {oc24 kV24 dc24 pm24 cd24 ct24 : Value}
    {f25 : Addr} {od25 an25 : Option Addr} {sl25 : Array (Option Value)} {oc25 kV25 dc25 pm25 cd25 ct25 : Value}
    {f26 : Addr} {od26 an26 : Option Addr} {sl26 : Array (Option Value)} {oc26 kV26 dc26 pm26 cd26 ct26 : Value}
    {f27 : Addr} {od27 an27 : Option Addr} {sl27 : Array (Option Value)} {oc27 kV27 dc27 pm27 cd27 ct27 : Value}
    {f28 : Addr} {od28 an28 : Option Addr} {sl28 : Array (Option Value)} {oc28 kV28 dc28 pm28 cd28 ct28 : Value}
    {f29 : Addr} {od29 an29 : Option Addr} {sl29 : Array (Option Value)} {oc29 kV29 dc29 pm29 cd29 ct29 : Value}
    {f30 : Addr} {od30 an30 : Option Addr} {sl30 : Array (Option Value)} {oc30 kV30 dc30 pm30 cd30 ct30 : Value}
    {f31 : Addr} {od31 an31 : Option Addr} {sl31 : Array (Option Value)} {oc31 kV31 dc31 pm31 cd31 ct31 : Value}
    {f32 : Addr} {od32 an32 : Option Addr} {sl32 : Array (Option Value)} {oc32 kV32 dc32 pm32 cd32 ct32 : Value}
    {f33 : Addr} {od33 an33 : Option Addr} {sl33 : Array (Option Value)} {oc33 kV33 dc33 pm33 cd33 ct33 : Value}
    {f34 : Addr} {od34 an34 : Option Addr} {sl34 : Array (Option Value)} {oc34 kV34 dc34 pm34 cd34 ct34 : Value}
    {f35 : Addr} {od35 an35 : Option Addr} {sl35 : Array (Option Value)} {oc35 kV35 dc35 pm35 cd35 ct35 : Value}
    {f36 : Addr} {od36 an36 : Option Addr} {sl36 : Array (Option Value)} {oc36 kV36 dc36 pm36 cd36 ct36 : Value}
    {f37 : Addr} {od37 an37 : Option Addr} {sl37 : Array (Option Value)} {oc37 kV37 dc37 pm37 cd37 ct37 : Value}
    {p37 : Addr} {r37 : List Value}
    {f38 : Addr} {od38 an38 : Option Addr} {sl38 : Array (Option Value)} {oc38 kV38 dc38 pm38 cd38 ct38 : Value}
    {p38 : Addr} {r38 : List Value}
    {f39 : Addr} {od39 an39 : Option Addr} {sl39 : Array (Option Value)} {oc39 kV39 dc39 pm39 cd39 ct39 : Value}
    {p39 : Addr} {r39 : List Value}
    {f40 : Addr} {od40 an40 : Option Addr} {sl40 : Array (Option Value)} {oc40 kV40 dc40 pm40 cd40 ct40 : Value}
    {f41 : Addr} {od41 an41 : Option Addr} {sl41 : Array (Option Value)} {oc41 kV41 dc41 pm41 cd41 ct41 : Value}
    {p41 : Addr} {r41 : List Value}
    {f42 : Addr} {od42 an42 : Option Addr} {sl42 : Array (Option Value)} {oc42 kV42 dc42 pm42 cd42 ct42 : Value}
    {f43 : Addr} {od43 an43 : Option Addr} {sl43 : Array (Option Value)} {oc43 kV43 dc43 pm43 cd43 ct43 : Value}
    {f44 : Addr} {od44 an44 : Option Addr} {sl44 : Array (Option Value)} {oc44 kV44 dc44 pm44 cd44 ct44 : Value}
    {p44 : Addr} {r44 : List Value}
    {f45 : Addr} {od45 an45 : Option Addr} {sl45 : Array (Option Value)} {oc45 kV45 dc45 pm45 cd45 ct45 : Value}
    {f46 : Addr} {od46 an46 : Option Addr} {sl46 : Array (Option Value)} {oc46 kV46 dc46 pm46 cd46 ct46 : Value}
    {f47 : Addr} {od47 an47 : Option Addr} {sl47 : Array (Option Value)} {oc47 kV47 dc47 pm47 cd47 ct47 : Value}
    {f48 : Addr} {od48 an48 : Option Addr} {sl48 : Array (Option Value)} {oc48 kV48 dc48 pm48 cd48 ct48 : Value}
    {f49 : Addr} {od49 an49 : Option Addr} {sl49 : Array (Option Value)} {oc49 kV49 dc49 pm49 cd49 ct49 : Value}
    {t_MOST_LEVELS : Tok}
    {t_MOST_NUMBER : Tok}
    {t_MOST_PLACE : Tok}
    {da_SIZES : Addr} {dt_SIZES0 : Tok} {dt_SIZES1 : Tok} {dt_SIZES2 : Tok}
    {de_SIZES : Array DictEntry} {dn_SIZES : Nat}
    (aC1 : PySem.W.nsIn K mainGlobals "Picture" = some (some (.ref C1)))
    (pg1 : PySem.W.plainGet K C1 Str.empty = true)
    (hd1 : PySem.W.hasDictIn K C1 = true)
    (po1 : PySem.W.plainOver K C1 = true)
    (sa1 : PySem.W.findIn K (.ref C1) "__setattr__" = some (some (.builtin "object.__setattr__")))
    (mk1 : PySem.W.makesIn K C1 = true)
    (kc1 : PySem.W.keepIn K (.ref C1) = true)
    (ha1 : PySem.W.findIn K (.ref C1) "__class__" = some (some (.builtin "object.__class__")))
    (hn1 : PySem.W.specialIn K (.builtin "object.__class__") "__get__" = some (some (.builtin "getset_descriptor.__get__")))
    (tk1 : PySem.W.takesIn K (.builtin "object.__class__") = some true)
    (mro1 : PySem.W.mroIn K C1 (.type "object") = some true)
    (ty1 : PySem.W.typeIn K (.ref C1) = some (.type "type"))
    (y1bool : PySem.W.subIn K (.ref C1) (.type "bool") = some false)
    (y1int : PySem.W.subIn K (.ref C1) (.type "int") = some false)
    (y1str : PySem.W.subIn K (.ref C1) (.type "str") = some false)
    (y1tuple : PySem.W.subIn K (.ref C1) (.type "tuple") = some false)
    (y1list : PySem.W.subIn K (.ref C1) (.type "list") = some false)
    (y1dict : PySem.W.subIn K (.ref C1) (.type "dict") = some false)
    (z1NoneType : PySem.W.subIn K (.type "NoneType") (.ref C1) = some false)
    (z1bool : PySem.W.subIn K (.type "bool") (.ref C1) = some false)
    (z1int : PySem.W.subIn K (.type "int") (.ref C1) = some false)
    (z1str : PySem.W.subIn K (.type "str") (.ref C1) = some false)
    (z1tuple : PySem.W.subIn K (.type "tuple") (.ref C1) = some false)
    (z1list : PySem.W.subIn K (.type "list") (.ref C1) = some false)
    (z1dict : PySem.W.subIn K (.type "dict") (.ref C1) = some false)
    (nf1own_limit : PySem.W.findIn K (.ref C1) "own_limit" = some none)
    (nf1own_screen : PySem.W.findIn K (.ref C1) "own_screen" = some none)
    (nf1own_width : PySem.W.findIn K (.ref C1) "own_width" = some none)
    (nf1own_bands : PySem.W.findIn K (.ref C1) "own_bands" = some none)
    (nf1own_calls : PySem.W.findIn K (.ref C1) "own_calls" = some none)
    (nf1own_past : PySem.W.findIn K (.ref C1) "own_past" = some none)
    (aC0 : PySem.W.nsIn K mainGlobals "Screen" = some (some (.ref C0)))
    (pg0 : PySem.W.plainGet K C0 Str.empty = true)
    (hd0 : PySem.W.hasDictIn K C0 = true)
    (po0 : PySem.W.plainOver K C0 = true)
    (sa0 : PySem.W.findIn K (.ref C0) "__setattr__" = some (some (.builtin "object.__setattr__")))
    (mk0 : PySem.W.makesIn K C0 = true)
    (kc0 : PySem.W.keepIn K (.ref C0) = true)
    (ha0 : PySem.W.findIn K (.ref C0) "__class__" = some (some (.builtin "object.__class__")))
    (hn0 : PySem.W.specialIn K (.builtin "object.__class__") "__get__" = some (some (.builtin "getset_descriptor.__get__")))
    (tk0 : PySem.W.takesIn K (.builtin "object.__class__") = some true)
    (mro0 : PySem.W.mroIn K C0 (.type "object") = some true)
    (ty0 : PySem.W.typeIn K (.ref C0) = some (.type "type"))
    (y0bool : PySem.W.subIn K (.ref C0) (.type "bool") = some false)
    (y0int : PySem.W.subIn K (.ref C0) (.type "int") = some false)
    (y0str : PySem.W.subIn K (.ref C0) (.type "str") = some false)
    (y0tuple : PySem.W.subIn K (.ref C0) (.type "tuple") = some false)
    (y0list : PySem.W.subIn K (.ref C0) (.type "list") = some false)
    (y0dict : PySem.W.subIn K (.ref C0) (.type "dict") = some false)
    (z0NoneType : PySem.W.subIn K (.type "NoneType") (.ref C0) = some false)
    (z0bool : PySem.W.subIn K (.type "bool") (.ref C0) = some false)
    (z0int : PySem.W.subIn K (.type "int") (.ref C0) = some false)
    (z0str : PySem.W.subIn K (.type "str") (.ref C0) = some false)
    (z0tuple : PySem.W.subIn K (.type "tuple") (.ref C0) = some false)
    (z0list : PySem.W.subIn K (.type "list") (.ref C0) = some false)
    (z0dict : PySem.W.subIn K (.type "dict") (.ref C0) = some false)
    (nf0own_levels : PySem.W.findIn K (.ref C0) "own_levels" = some none)
    (ax101 : PySem.W.nsIn K mainGlobals "InvalidLevels" = some (some (.ref C101)))
    (xo101 : K.lookup C101 = some (excClassObj "InvalidLevels" q101 C101 N101 bs101 [.ref C100, .type "ValueError", .type "Exception", .type "BaseException", .type "object"] true sn101 sub101 ab101 col101 dd101 k0_101 k1_101 k2_101 k3_101 k5_101 "ValueError.__new__"))
    (xa101 : PySem.W.findIn K (.ref C101) "__getattribute__" = some (some (.builtin "BaseException.__getattribute__")))
    (xg101 : PySem.W.findIn K (.ref C101) "__getattr__" = some none)
    (xh101 : PySem.W.findIn K (.ref C101) "__class__" = some (some (.builtin "object.__class__")))
    (xk101 : PySem.W.keepIn K (.ref C101) = true)
    (xs101 : PySem.W.findIn K (.ref C101) "__setattr__" = some (some (.builtin "object.__setattr__")))
    (xn101 : PySem.W.findIn K (.ref C101) "level" = some none)
    (xd101 : PySem.W.hasDictIn K C101 = true)
    (xt101 : PySem.W.findIn K (.ref C101) "__init__" = some (some (.ref fx101)))
    (xf101 : PySem.W.typeIn K (.ref fx101) = some (.type "function"))
    (xl101 : K.lookup fx101 = some ⟨xoc101, xod101, .func (PySem.W.fnOf "__init__" "InvalidLevels.__init__" (defArgs (inClass (top 6) 0)) (defBody (inClass (top 6) 0)) (defScope (inClass (top 6) 0)) .none .none xdc101 xpm101 xan101 xcd101 xct101), xsl101⟩)
    (xc101 : PySem.W.codeIn K xcd101 "InvalidLevels.__init__" = true)
    (ax107 : PySem.W.nsIn K mainGlobals "OverInk" = some (some (.ref C107)))
    (xo107 : K.lookup C107 = some (excClassObj "OverInk" q107 C107 N107 bs107 [.ref C100, .type "ValueError", .type "Exception", .type "BaseException", .type "object"] true sn107 sub107 ab107 col107 dd107 k0_107 k1_107 k2_107 k3_107 k5_107 "ValueError.__new__"))
    (xa107 : PySem.W.findIn K (.ref C107) "__getattribute__" = some (some (.builtin "BaseException.__getattribute__")))
    (xg107 : PySem.W.findIn K (.ref C107) "__getattr__" = some none)
    (xh107 : PySem.W.findIn K (.ref C107) "__class__" = some (some (.builtin "object.__class__")))
    (xk107 : PySem.W.keepIn K (.ref C107) = true)
    (xs107 : PySem.W.findIn K (.ref C107) "__setattr__" = some (some (.builtin "object.__setattr__")))
    (xn107 : PySem.W.findIn K (.ref C107) "count" = some none)
    (xd107 : PySem.W.hasDictIn K C107 = true)
    (xt107 : PySem.W.findIn K (.ref C107) "__init__" = some (some (.ref fx107)))
    (xf107 : PySem.W.typeIn K (.ref fx107) = some (.type "function"))
    (xl107 : K.lookup fx107 = some ⟨xoc107, xod107, .func (PySem.W.fnOf "__init__" "OverInk.__init__" (defArgs (inClass (top 7) 0)) (defBody (inClass (top 7) 0)) (defScope (inClass (top 7) 0)) .none .none xdc107 xpm107 xan107 xcd107 xct107), xsl107⟩)
    (xc107 : PySem.W.codeIn K xcd107 "OverInk.__init__" = true)
    (ax108 : PySem.W.nsIn K mainGlobals "InvalidScreen" = some (some (.ref C108)))
    (xo108 : K.lookup C108 = some (excClassObj "InvalidScreen" q108 C108 N108 bs108 [.ref C100, .type "ValueError", .type "Exception", .type "BaseException", .type "object"] hd108 sn108 sub108 ab108 col108 dd108 k0_108 k1_108 k2_108 k3_108 k5_108 "ValueError.__new__"))
    (xa108 : PySem.W.findIn K (.ref C108) "__getattribute__" = some (some (.builtin "BaseException.__getattribute__")))
    (xg108 : PySem.W.findIn K (.ref C108) "__getattr__" = some none)
    (xh108 : PySem.W.findIn K (.ref C108) "__class__" = some (some (.builtin "object.__class__")))
    (xk108 : PySem.W.keepIn K (.ref C108) = true)
    (xi108 : PySem.W.excIn K C108 [.type "ValueError", .type "Exception", .type "BaseException", .type "object"] "ValueError.__new__" = true)
    (ax109 : PySem.W.nsIn K mainGlobals "InvalidShade" = some (some (.ref C109)))
    (xo109 : K.lookup C109 = some (excClassObj "InvalidShade" q109 C109 N109 bs109 [.ref C100, .type "ValueError", .type "Exception", .type "BaseException", .type "object"] hd109 sn109 sub109 ab109 col109 dd109 k0_109 k1_109 k2_109 k3_109 k5_109 "ValueError.__new__"))
    (xa109 : PySem.W.findIn K (.ref C109) "__getattribute__" = some (some (.builtin "BaseException.__getattribute__")))
    (xg109 : PySem.W.findIn K (.ref C109) "__getattr__" = some none)
    (xh109 : PySem.W.findIn K (.ref C109) "__class__" = some (some (.builtin "object.__class__")))
    (xk109 : PySem.W.keepIn K (.ref C109) = true)
    (xi109 : PySem.W.excIn K C109 [.type "ValueError", .type "Exception", .type "BaseException", .type "object"] "ValueError.__new__" = true)
    (ax110 : PySem.W.nsIn K mainGlobals "InvalidWindow" = some (some (.ref C110)))
    (xo110 : K.lookup C110 = some (excClassObj "InvalidWindow" q110 C110 N110 bs110 [.ref C100, .type "ValueError", .type "Exception", .type "BaseException", .type "object"] hd110 sn110 sub110 ab110 col110 dd110 k0_110 k1_110 k2_110 k3_110 k5_110 "ValueError.__new__"))
    (xa110 : PySem.W.findIn K (.ref C110) "__getattribute__" = some (some (.builtin "BaseException.__getattribute__")))
    (xg110 : PySem.W.findIn K (.ref C110) "__getattr__" = some none)
    (xh110 : PySem.W.findIn K (.ref C110) "__class__" = some (some (.builtin "object.__class__")))
    (xk110 : PySem.W.keepIn K (.ref C110) = true)
    (xi110 : PySem.W.excIn K C110 [.type "ValueError", .type "Exception", .type "BaseException", .type "object"] "ValueError.__new__" = true)
    (ax114 : PySem.W.nsIn K mainGlobals "InvalidNumber" = some (some (.ref C114)))
    (xo114 : K.lookup C114 = some (excClassObj "InvalidNumber" q114 C114 N114 bs114 [.ref C100, .type "ValueError", .type "Exception", .type "BaseException", .type "object"] hd114 sn114 sub114 ab114 col114 dd114 k0_114 k1_114 k2_114 k3_114 k5_114 "ValueError.__new__"))
    (xa114 : PySem.W.findIn K (.ref C114) "__getattribute__" = some (some (.builtin "BaseException.__getattribute__")))
    (xg114 : PySem.W.findIn K (.ref C114) "__getattr__" = some none)
    (xh114 : PySem.W.findIn K (.ref C114) "__class__" = some (some (.builtin "object.__class__")))
    (xk114 : PySem.W.keepIn K (.ref C114) = true)
    (xi114 : PySem.W.excIn K C114 [.type "ValueError", .type "Exception", .type "BaseException", .type "object"] "ValueError.__new__" = true)
    (ax115 : PySem.W.nsIn K mainGlobals "InvalidRows" = some (some (.ref C115)))
    (xo115 : K.lookup C115 = some (excClassObj "InvalidRows" q115 C115 N115 bs115 [.ref C100, .type "ValueError", .type "Exception", .type "BaseException", .type "object"] hd115 sn115 sub115 ab115 col115 dd115 k0_115 k1_115 k2_115 k3_115 k5_115 "ValueError.__new__"))
    (xa115 : PySem.W.findIn K (.ref C115) "__getattribute__" = some (some (.builtin "BaseException.__getattribute__")))
    (xg115 : PySem.W.findIn K (.ref C115) "__getattr__" = some none)
    (xh115 : PySem.W.findIn K (.ref C115) "__class__" = some (some (.builtin "object.__class__")))
    (xk115 : PySem.W.keepIn K (.ref C115) = true)
    (xi115 : PySem.W.excIn K C115 [.type "ValueError", .type "Exception", .type "BaseException", .type "object"] "ValueError.__new__" = true)
    (ax117 : PySem.W.nsIn K mainGlobals "InvalidOperation" = some (some (.ref C117)))
    (xo117 : K.lookup C117 = some (excClassObj "InvalidOperation" q117 C117 N117 bs117 [.ref C100, .type "ValueError", .type "Exception", .type "BaseException", .type "object"] hd117 sn117 sub117 ab117 col117 dd117 k0_117 k1_117 k2_117 k3_117 k5_117 "ValueError.__new__"))
    (xa117 : PySem.W.findIn K (.ref C117) "__getattribute__" = some (some (.builtin "BaseException.__getattribute__")))
    (xg117 : PySem.W.findIn K (.ref C117) "__getattr__" = some none)
    (xh117 : PySem.W.findIn K (.ref C117) "__class__" = some (some (.builtin "object.__class__")))
    (xk117 : PySem.W.keepIn K (.ref C117) = true)
    (xi117 : PySem.W.excIn K C117 [.type "ValueError", .type "Exception", .type "BaseException", .type "object"] "ValueError.__new__" = true)
    (a0 : PySem.W.nsIn K mainGlobals "_law_bag" = some (some (.ref f0)))
    (l0 : K.lookup f0 = some ⟨oc0, od0, .func (PySem.W.fnOf "_law_bag" "_law_bag" (defArgs (top 57)) (defBody (top 57)) (defScope (top 57)) .none kV0 dc0 pm0 an0 cd0 ct0), sl0⟩)
    (c0 : PySem.W.codeIn K cd0 "_law_bag" = true)
    (k0 : PySem.W.keepIn K (.ref f0) = true)
    (a1 : PySem.W.nsIn K mainGlobals "is_int" = some (some (.ref f1)))
    (l1 : K.lookup f1 = some ⟨oc1, od1, .func (PySem.W.fnOf "is_int" "is_int" (defArgs (top 2)) (defBody (top 2)) (defScope (top 2)) .none kV1 dc1 pm1 an1 cd1 ct1), sl1⟩)
    (c1 : PySem.W.codeIn K cd1 "is_int" = true)
    (k1 : PySem.W.keepIn K (.ref f1) = true)
    (a2 : PySem.W.nsIn K mainGlobals "is_level" = some (some (.ref f2)))
    (l2 : K.lookup f2 = some ⟨oc2, od2, .func (PySem.W.fnOf "is_level" "is_level" (defArgs (top 22)) (defBody (top 22)) (defScope (top 22)) .none kV2 dc2 pm2 an2 cd2 ct2), sl2⟩)
    (c2 : PySem.W.codeIn K cd2 "is_level" = true)
    (k2 : PySem.W.keepIn K (.ref f2) = true)
    (a3 : PySem.W.findIn K (.ref C0) "__init__" = some (some (.ref f3)))
    (i3 : PySem.W.isFn K (.ref f3) = true)
    (l3 : K.lookup f3 = some ⟨oc3, od3, .func (PySem.W.fnOf "__init__" "Screen.__init__" (defArgs (inClass (top 23) 0)) (defBody (inClass (top 23) 0)) (defScope (inClass (top 23) 0)) .none kV3 dc3 pm3 an3 cd3 ct3), sl3⟩)
    (c3 : PySem.W.codeIn K cd3 "Screen.__init__" = true)
    (k3 : PySem.W.keepIn K (.ref f3) = true)
    (a4 : PySem.W.nsIn K mainGlobals "require_screen" = some (some (.ref f4)))
    (l4 : K.lookup f4 = some ⟨oc4, od4, .func (PySem.W.fnOf "require_screen" "require_screen" (defArgs (top 18)) (defBody (top 18)) (defScope (top 18)) .none kV4 dc4 pm4 an4 cd4 ct4), sl4⟩)
    (c4 : PySem.W.codeIn K cd4 "require_screen" = true)
    (k4 : PySem.W.keepIn K (.ref f4) = true)
    (a5 : PySem.W.nsIn K mainGlobals "is_whole" = some (some (.ref f5)))
    (l5 : K.lookup f5 = some ⟨oc5, od5, .func (PySem.W.fnOf "is_whole" "is_whole" (defArgs (top 3)) (defBody (top 3)) (defScope (top 3)) .none kV5 dc5 pm5 an5 cd5 ct5), sl5⟩)
    (c5 : PySem.W.codeIn K cd5 "is_whole" = true)
    (k5 : PySem.W.keepIn K (.ref f5) = true)
    (a6 : PySem.W.findIn K (.ref C1) "__init__" = some (some (.ref f6)))
    (i6 : PySem.W.isFn K (.ref f6) = true)
    (l6 : K.lookup f6 = some ⟨oc6, od6, .func (PySem.W.fnOf "__init__" "Picture.__init__" (defArgs (inClass (top 49) 0)) (defBody (inClass (top 49) 0)) (defScope (inClass (top 49) 0)) .none kV6 dc6 pm6 an6 cd6 ct6), sl6⟩)
    (c6 : PySem.W.codeIn K cd6 "Picture.__init__" = true)
    (k6 : PySem.W.keepIn K (.ref f6) = true)
    (a7 : PySem.W.nsIn K mainGlobals "merged" = some (some (.ref f7)))
    (l7 : K.lookup f7 = some ⟨oc7, od7, .func (PySem.W.fnOf "merged" "merged" (defArgs (top 43)) (defBody (top 43)) (defScope (top 43)) .none kV7 dc7 pm7 an7 cd7 ct7), sl7⟩)
    (c7 : PySem.W.codeIn K cd7 "merged" = true)
    (k7 : PySem.W.keepIn K (.ref f7) = true)
    (a8 : PySem.W.nsIn K mainGlobals "height_of" = some (some (.ref f8)))
    (l8 : K.lookup f8 = some ⟨oc8, od8, .func (PySem.W.fnOf "height_of" "height_of" (defArgs (top 44)) (defBody (top 44)) (defScope (top 44)) .none kV8 dc8 pm8 an8 cd8 ct8), sl8⟩)
    (c8 : PySem.W.codeIn K cd8 "height_of" = true)
    (k8 : PySem.W.keepIn K (.ref f8) = true)
    (a9 : PySem.W.nsIn K mainGlobals "require_rows" = some (some (.ref f9)))
    (l9 : K.lookup f9 = some ⟨oc9, od9, .func (PySem.W.fnOf "require_rows" "require_rows" (defArgs (top 47)) (defBody (top 47)) (defScope (top 47)) .none kV9 dc9 pm9 an9 cd9 ct9), sl9⟩)
    (c9 : PySem.W.codeIn K cd9 "require_rows" = true)
    (k9 : PySem.W.keepIn K (.ref f9) = true)
    (a10 : PySem.W.nsIn K mainGlobals "is_shade" = some (some (.ref f10)))
    (l10 : K.lookup f10 = some ⟨oc10, od10, .func (PySem.W.fnOf "is_shade" "is_shade" (defArgs (top 21)) (defBody (top 21)) (defScope (top 21)) .none kV10 dc10 pm10 an10 cd10 ct10), sl10⟩)
    (c10 : PySem.W.codeIn K cd10 "is_shade" = true)
    (k10 : PySem.W.keepIn K (.ref f10) = true)
    (a11 : PySem.W.nsIn K mainGlobals "part_of" = some (some (.ref f11)))
    (l11 : K.lookup f11 = some ⟨oc11, od11, .func (PySem.W.fnOf "part_of" "part_of" (defArgs (top 45)) (defBody (top 45)) (defScope (top 45)) .none kV11 dc11 pm11 an11 cd11 ct11), sl11⟩)
    (c11 : PySem.W.codeIn K cd11 "part_of" = true)
    (k11 : PySem.W.keepIn K (.ref f11) = true)
    (a12 : PySem.W.nsIn K mainGlobals "changed" = some (some (.ref f12)))
    (l12 : K.lookup f12 = some ⟨oc12, od12, .func (PySem.W.fnOf "changed" "changed" (defArgs (top 48)) (defBody (top 48)) (defScope (top 48)) .none kV12 dc12 pm12 an12 cd12 ct12), sl12⟩)
    (c12 : PySem.W.codeIn K cd12 "changed" = true)
    (k12 : PySem.W.keepIn K (.ref f12) = true)
    (a13 : PySem.W.nsIn K mainGlobals "residues" = some (some (.ref f13)))
    (l13 : K.lookup f13 = some ⟨oc13, od13, .func (PySem.W.fnOf "residues" "residues" (defArgs (top 33)) (defBody (top 33)) (defScope (top 33)) .none kV13 dc13 pm13 an13 cd13 ct13), sl13⟩)
    (c13 : PySem.W.codeIn K cd13 "residues" = true)
    (k13 : PySem.W.keepIn K (.ref f13) = true)
    (a14 : PySem.W.nsIn K mainGlobals "places_with" = some (some (.ref f14)))
    (l14 : K.lookup f14 = some ⟨oc14, od14, .func (PySem.W.fnOf "places_with" "places_with" (defArgs (top 34)) (defBody (top 34)) (defScope (top 34)) .none kV14 dc14 pm14 an14 cd14 ct14), sl14⟩)
    (c14 : PySem.W.codeIn K cd14 "places_with" = true)
    (k14 : PySem.W.keepIn K (.ref f14) = true)
    (a15 : PySem.W.nsIn K mainGlobals "cells_below" = some (some (.ref f15)))
    (l15 : K.lookup f15 = some ⟨oc15, od15, .func (PySem.W.fnOf "cells_below" "cells_below" (defArgs (top 35)) (defBody (top 35)) (defScope (top 35)) .none kV15 dc15 pm15 an15 cd15 ct15), sl15⟩)
    (c15 : PySem.W.codeIn K cd15 "cells_below" = true)
    (k15 : PySem.W.keepIn K (.ref f15) = true)
    (a16 : PySem.W.nsIn K mainGlobals "count_of" = some (some (.ref f16)))
    (l16 : K.lookup f16 = some ⟨oc16, od16, .func (PySem.W.fnOf "count_of" "count_of" (defArgs (top 36)) (defBody (top 36)) (defScope (top 36)) .none kV16 dc16 pm16 an16 cd16 ct16), sl16⟩)
    (c16 : PySem.W.codeIn K cd16 "count_of" = true)
    (k16 : PySem.W.keepIn K (.ref f16) = true)
    (a17 : PySem.W.nsIn K mainGlobals "dots_in" = some (some (.ref f17)))
    (l17 : K.lookup f17 = some ⟨oc17, od17, .func (PySem.W.fnOf "dots_in" "dots_in" (defArgs (top 37)) (defBody (top 37)) (defScope (top 37)) .none kV17 dc17 pm17 an17 cd17 ct17), sl17⟩)
    (c17 : PySem.W.codeIn K cd17 "dots_in" = true)
    (k17 : PySem.W.keepIn K (.ref f17) = true)
    (a18 : PySem.W.nsIn K mainGlobals "ink_of" = some (some (.ref f18)))
    (l18 : K.lookup f18 = some ⟨oc18, od18, .func (PySem.W.fnOf "ink_of" "ink_of" (defArgs (top 46)) (defBody (top 46)) (defScope (top 46)) .none kV18 dc18 pm18 an18 cd18 ct18), sl18⟩)
    (c18 : PySem.W.codeIn K cd18 "ink_of" = true)
    (k18 : PySem.W.keepIn K (.ref f18) = true)
    (a19 : PySem.W.findIn K (.ref C1) "behind" = some (some (.ref f19)))
    (i19 : PySem.W.isFn K (.ref f19) = true)
    (l19 : K.lookup f19 = some ⟨oc19, od19, .func (PySem.W.fnOf "behind" "Picture.behind" (defArgs (inClass (top 49) 6)) (defBody (inClass (top 49) 6)) (defScope (inClass (top 49) 6)) .none kV19 dc19 pm19 an19 cd19 ct19), sl19⟩)
    (c19 : PySem.W.codeIn K cd19 "Picture.behind" = true)
    (k19 : PySem.W.keepIn K (.ref f19) = true)
    (a20 : PySem.W.findIn K (.ref C1) "perform" = some (some (.ref f20)))
    (i20 : PySem.W.isFn K (.ref f20) = true)
    (l20 : K.lookup f20 = some ⟨oc20, od20, .func (PySem.W.fnOf "perform" "Picture.perform" (defArgs (inClass (top 49) 7)) (defBody (inClass (top 49) 7)) (defScope (inClass (top 49) 7)) .none kV20 dc20 pm20 an20 cd20 ct20), sl20⟩)
    (c20 : PySem.W.codeIn K cd20 "Picture.perform" = true)
    (k20 : PySem.W.keepIn K (.ref f20) = true)
    (a21 : PySem.W.findIn K (.ref C1) "insert" = some (some (.ref f21)))
    (i21 : PySem.W.isFn K (.ref f21) = true)
    (l21 : K.lookup f21 = some ⟨oc21, od21, .func (PySem.W.fnOf "insert" "Picture.insert" (defArgs (inClass (top 49) 8)) (defBody (inClass (top 49) 8)) (defScope (inClass (top 49) 8)) .none kV21 dc21 pm21 an21 cd21 ct21), sl21⟩)
    (c21 : PySem.W.codeIn K cd21 "Picture.insert" = true)
    (k21 : PySem.W.keepIn K (.ref f21) = true)
    (a22 : PySem.W.nsIn K mainGlobals "_law_pick" = some (some (.ref f22)))
    (l22 : K.lookup f22 = some ⟨oc22, od22, .func (PySem.W.fnOf "_law_pick" "_law_pick" (defArgs (top 58)) (defBody (top 58)) (defScope (top 58)) .none kV22 dc22 pm22 an22 cd22 ct22), sl22⟩)
    (c22 : PySem.W.codeIn K cd22 "_law_pick" = true)
    (k22 : PySem.W.keepIn K (.ref f22) = true)
    (a23 : PySem.W.findIn K (.ref C1) "height" = some (some (.ref p23)))
    (b23 : PySem.W.specialIn K (.ref p23) "__get__" = some (some (.builtin "property.__get__")))
    (d23 : PySem.W.takesIn K (.ref p23) = some true)
    (e23 : PySem.W.recIn K p23 "property" = some (.ref f23 :: r23))
    (l23 : K.lookup f23 = some ⟨oc23, od23, .func (PySem.W.fnOf "height" "Picture.height" (defArgs (inClass (top 49) 4)) (defBody (inClass (top 49) 4)) (defScope (inClass (top 49) 4)) .none kV23 dc23 pm23 an23 cd23 ct23), sl23⟩)
    (c23 : PySem.W.codeIn K cd23 "Picture.height" = true)
    (k23 : PySem.W.keepIn K (.ref f23) = true)
    (a24 : PySem.W.nsIn K mainGlobals "require_shade" = some (some (.ref f24)))
    (l24 : K.lookup f24 = some ⟨oc24, od24, .func (PySem.W.fnOf "require_shade" "require_shade" (defArgs (top 30)) (defBody (top 30)) (defScope (top 30)) .none kV24 dc24 pm24 an24 cd24 ct24), sl24⟩)
    (c24 : PySem.W.codeIn K cd24 "require_shade" = true)
    (k24 : PySem.W.keepIn K (.ref f24) = true)
    (a25 : PySem.W.nsIn K mainGlobals "is_window" = some (some (.ref f25)))
    (l25 : K.lookup f25 = some ⟨oc25, od25, .func (PySem.W.fnOf "is_window" "is_window" (defArgs (top 31)) (defBody (top 31)) (defScope (top 31)) .none kV25 dc25 pm25 an25 cd25 ct25), sl25⟩)
    (c25 : PySem.W.codeIn K cd25 "is_window" = true)
    (k25 : PySem.W.keepIn K (.ref f25) = true)
    (a26 : PySem.W.nsIn K mainGlobals "require_window" = some (some (.ref f26)))
    (l26 : K.lookup f26 = some ⟨oc26, od26, .func (PySem.W.fnOf "require_window" "require_window" (defArgs (top 32)) (defBody (top 32)) (defScope (top 32)) .none kV26 dc26 pm26 an26 cd26 ct26), sl26⟩)
    (c26 : PySem.W.codeIn K cd26 "require_window" = true)
    (k26 : PySem.W.keepIn K (.ref f26) = true)
    (a27 : PySem.W.nsIn K mainGlobals "dot_count" = some (some (.ref f27)))
    (l27 : K.lookup f27 = some ⟨oc27, od27, .func (PySem.W.fnOf "dot_count" "dot_count" (defArgs (top 38)) (defBody (top 38)) (defScope (top 38)) .none kV27 dc27 pm27 an27 cd27 ct27), sl27⟩)
    (c27 : PySem.W.codeIn K cd27 "dot_count" = true)
    (k27 : PySem.W.keepIn K (.ref f27) = true)
    (a28 : PySem.W.nsIn K mainGlobals "_law_filled" = some (some (.ref f28)))
    (l28 : K.lookup f28 = some ⟨oc28, od28, .func (PySem.W.fnOf "_law_filled" "_law_filled" (defArgs (top 64)) (defBody (top 64)) (defScope (top 64)) .none kV28 dc28 pm28 an28 cd28 ct28), sl28⟩)
    (c28 : PySem.W.codeIn K cd28 "_law_filled" = true)
    (k28 : PySem.W.keepIn K (.ref f28) = true)
    (a29 : PySem.W.nsIn K mainGlobals "require_number" = some (some (.ref f29)))
    (l29 : K.lookup f29 = some ⟨oc29, od29, .func (PySem.W.fnOf "require_number" "require_number" (defArgs (top 51)) (defBody (top 51)) (defScope (top 51)) .none kV29 dc29 pm29 an29 cd29 ct29), sl29⟩)
    (c29 : PySem.W.codeIn K cd29 "require_number" = true)
    (k29 : PySem.W.keepIn K (.ref f29) = true)
    (a30 : PySem.W.nsIn K mainGlobals "nth_of_window" = some (some (.ref f30)))
    (l30 : K.lookup f30 = some ⟨oc30, od30, .func (PySem.W.fnOf "nth_of_window" "nth_of_window" (defArgs (top 52)) (defBody (top 52)) (defScope (top 52)) .none kV30 dc30 pm30 an30 cd30 ct30), sl30⟩)
    (c30 : PySem.W.codeIn K cd30 "nth_of_window" = true)
    (k30 : PySem.W.keepIn K (.ref f30) = true)
    (a31 : PySem.W.nsIn K mainGlobals "least_with" = some (some (.ref f31)))
    (l31 : K.lookup f31 = some ⟨oc31, od31, .func (PySem.W.fnOf "least_with" "least_with" (defArgs (top 54)) (defBody (top 54)) (defScope (top 54)) .none kV31 dc31 pm31 an31 cd31 ct31), sl31⟩)
    (c31 : PySem.W.codeIn K cd31 "least_with" = true)
    (k31 : PySem.W.keepIn K (.ref f31) = true)
    (a32 : PySem.W.nsIn K mainGlobals "places_of" = some (some (.ref f32)))
    (l32 : K.lookup f32 = some ⟨oc32, od32, .func (PySem.W.fnOf "places_of" "places_of" (defArgs (top 53)) (defBody (top 53)) (defScope (top 53)) .none kV32 dc32 pm32 an32 cd32 ct32), sl32⟩)
    (c32 : PySem.W.codeIn K cd32 "places_of" = true)
    (k32 : PySem.W.keepIn K (.ref f32) = true)
    (a33 : PySem.W.nsIn K mainGlobals "least_shade" = some (some (.ref f33)))
    (l33 : K.lookup f33 = some ⟨oc33, od33, .func (PySem.W.fnOf "least_shade" "least_shade" (defArgs (top 55)) (defBody (top 55)) (defScope (top 55)) .none kV33 dc33 pm33 an33 cd33 ct33), sl33⟩)
    (c33 : PySem.W.codeIn K cd33 "least_shade" = true)
    (k33 : PySem.W.keepIn K (.ref f33) = true)
    (a34 : PySem.W.nsIn K mainGlobals "_law_level" = some (some (.ref f34)))
    (l34 : K.lookup f34 = some ⟨oc34, od34, .func (PySem.W.fnOf "_law_level" "_law_level" (defArgs (top 59)) (defBody (top 59)) (defScope (top 59)) .none kV34 dc34 pm34 an34 cd34 ct34), sl34⟩)
    (c34 : PySem.W.codeIn K cd34 "_law_level" = true)
    (k34 : PySem.W.keepIn K (.ref f34) = true)
    (a35 : PySem.W.nsIn K mainGlobals "_law_levels" = some (some (.ref f35)))
    (l35 : K.lookup f35 = some ⟨oc35, od35, .func (PySem.W.fnOf "_law_levels" "_law_levels" (defArgs (top 60)) (defBody (top 60)) (defScope (top 60)) .none kV35 dc35 pm35 an35 cd35 ct35), sl35⟩)
    (c35 : PySem.W.codeIn K cd35 "_law_levels" = true)
    (k35 : PySem.W.keepIn K (.ref f35) = true)
    (a36 : PySem.W.findIn K (.ref C1) "ink" = some (some (.ref f36)))
    (i36 : PySem.W.isFn K (.ref f36) = true)
    (l36 : K.lookup f36 = some ⟨oc36, od36, .func (PySem.W.fnOf "ink" "Picture.ink" (defArgs (inClass (top 49) 13)) (defBody (inClass (top 49) 13)) (defScope (inClass (top 49) 13)) .none kV36 dc36 pm36 an36 cd36 ct36), sl36⟩)
    (c36 : PySem.W.codeIn K cd36 "Picture.ink" = true)
    (k36 : PySem.W.keepIn K (.ref f36) = true)
    (a37 : PySem.W.findIn K (.ref C0) "period" = some (some (.ref p37)))
    (b37 : PySem.W.specialIn K (.ref p37) "__get__" = some (some (.builtin "property.__get__")))
    (d37 : PySem.W.takesIn K (.ref p37) = some true)
    (e37 : PySem.W.recIn K p37 "property" = some (.ref f37 :: r37))
    (l37 : K.lookup f37 = some ⟨oc37, od37, .func (PySem.W.fnOf "period" "Screen.period" (defArgs (inClass (top 23) 4)) (defBody (inClass (top 23) 4)) (defScope (inClass (top 23) 4)) .none kV37 dc37 pm37 an37 cd37 ct37), sl37⟩)
    (c37 : PySem.W.codeIn K cd37 "Screen.period" = true)
    (k37 : PySem.W.keepIn K (.ref f37) = true)
    (a38 : PySem.W.findIn K (.ref C0) "depth" = some (some (.ref p38)))
    (b38 : PySem.W.specialIn K (.ref p38) "__get__" = some (some (.builtin "property.__get__")))
    (d38 : PySem.W.takesIn K (.ref p38) = some true)
    (e38 : PySem.W.recIn K p38 "property" = some (.ref f38 :: r38))
    (l38 : K.lookup f38 = some ⟨oc38, od38, .func (PySem.W.fnOf "depth" "Screen.depth" (defArgs (inClass (top 23) 3)) (defBody (inClass (top 23) 3)) (defScope (inClass (top 23) 3)) .none kV38 dc38 pm38 an38 cd38 ct38), sl38⟩)
    (c38 : PySem.W.codeIn K cd38 "Screen.depth" = true)
    (k38 : PySem.W.keepIn K (.ref f38) = true)
    (a39 : PySem.W.findIn K (.ref C0) "levels" = some (some (.ref p39)))
    (b39 : PySem.W.specialIn K (.ref p39) "__get__" = some (some (.builtin "property.__get__")))
    (d39 : PySem.W.takesIn K (.ref p39) = some true)
    (e39 : PySem.W.recIn K p39 "property" = some (.ref f39 :: r39))
    (l39 : K.lookup f39 = some ⟨oc39, od39, .func (PySem.W.fnOf "levels" "Screen.levels" (defArgs (inClass (top 23) 2)) (defBody (inClass (top 23) 2)) (defScope (inClass (top 23) 2)) .none kV39 dc39 pm39 an39 cd39 ct39), sl39⟩)
    (c39 : PySem.W.codeIn K cd39 "Screen.levels" = true)
    (k39 : PySem.W.keepIn K (.ref f39) = true)
    (a40 : PySem.W.nsIn K mainGlobals "first_levels" = some (some (.ref f40)))
    (l40 : K.lookup f40 = some ⟨oc40, od40, .func (PySem.W.fnOf "first_levels" "first_levels" (defArgs (top 28)) (defBody (top 28)) (defScope (top 28)) .none kV40 dc40 pm40 an40 cd40 ct40), sl40⟩)
    (c40 : PySem.W.codeIn K cd40 "first_levels" = true)
    (k40 : PySem.W.keepIn K (.ref f40) = true)
    (a41 : PySem.W.findIn K (.ref C0) "shades" = some (some (.ref p41)))
    (b41 : PySem.W.specialIn K (.ref p41) "__get__" = some (some (.builtin "property.__get__")))
    (d41 : PySem.W.takesIn K (.ref p41) = some true)
    (e41 : PySem.W.recIn K p41 "property" = some (.ref f41 :: r41))
    (l41 : K.lookup f41 = some ⟨oc41, od41, .func (PySem.W.fnOf "shades" "Screen.shades" (defArgs (inClass (top 23) 5)) (defBody (inClass (top 23) 5)) (defScope (inClass (top 23) 5)) .none kV41 dc41 pm41 an41 cd41 ct41), sl41⟩)
    (c41 : PySem.W.codeIn K cd41 "Screen.shades" = true)
    (k41 : PySem.W.keepIn K (.ref f41) = true)
    (a42 : PySem.W.nsIn K mainGlobals "is_operation" = some (some (.ref f42)))
    (l42 : K.lookup f42 = some ⟨oc42, od42, .func (PySem.W.fnOf "is_operation" "is_operation" (defArgs (top 42)) (defBody (top 42)) (defScope (top 42)) .none kV42 dc42 pm42 an42 cd42 ct42), sl42⟩)
    (c42 : PySem.W.codeIn K cd42 "is_operation" = true)
    (k42 : PySem.W.keepIn K (.ref f42) = true)
    (a43 : PySem.W.findIn K (.ref C1) "preview" = some (some (.ref f43)))
    (i43 : PySem.W.isFn K (.ref f43) = true)
    (l43 : K.lookup f43 = some ⟨oc43, od43, .func (PySem.W.fnOf "preview" "Picture.preview" (defArgs (inClass (top 49) 15)) (defBody (inClass (top 49) 15)) (defScope (inClass (top 49) 15)) .none kV43 dc43 pm43 an43 cd43 ct43), sl43⟩)
    (c43 : PySem.W.codeIn K cd43 "Picture.preview" = true)
    (k43 : PySem.W.keepIn K (.ref f43) = true)
    (a44 : PySem.W.findIn K (.ref C1) "bands" = some (some (.ref p44)))
    (b44 : PySem.W.specialIn K (.ref p44) "__get__" = some (some (.builtin "property.__get__")))
    (d44 : PySem.W.takesIn K (.ref p44) = some true)
    (e44 : PySem.W.recIn K p44 "property" = some (.ref f44 :: r44))
    (l44 : K.lookup f44 = some ⟨oc44, od44, .func (PySem.W.fnOf "bands" "Picture.bands" (defArgs (inClass (top 49) 3)) (defBody (inClass (top 49) 3)) (defScope (inClass (top 49) 3)) .none kV44 dc44 pm44 an44 cd44 ct44), sl44⟩)
    (c44 : PySem.W.codeIn K cd44 "Picture.bands" = true)
    (k44 : PySem.W.keepIn K (.ref f44) = true)
    (a45 : PySem.W.nsIn K mainGlobals "_law_again" = some (some (.ref f45)))
    (l45 : K.lookup f45 = some ⟨oc45, od45, .func (PySem.W.fnOf "_law_again" "_law_again" (defArgs (top 65)) (defBody (top 65)) (defScope (top 65)) .none kV45 dc45 pm45 an45 cd45 ct45), sl45⟩)
    (c45 : PySem.W.codeIn K cd45 "_law_again" = true)
    (k45 : PySem.W.keepIn K (.ref f45) = true)
    (a46 : PySem.W.nsIn K mainGlobals "rearranged" = some (some (.ref f46)))
    (l46 : K.lookup f46 = some ⟨oc46, od46, .func (PySem.W.fnOf "rearranged" "rearranged" (defArgs (top 26)) (defBody (top 26)) (defScope (top 26)) .none kV46 dc46 pm46 an46 cd46 ct46), sl46⟩)
    (c46 : PySem.W.codeIn K cd46 "rearranged" = true)
    (k46 : PySem.W.keepIn K (.ref f46) = true)
    (a47 : PySem.W.nsIn K mainGlobals "mirrored" = some (some (.ref f47)))
    (l47 : K.lookup f47 = some ⟨oc47, od47, .func (PySem.W.fnOf "mirrored" "mirrored" (defArgs (top 27)) (defBody (top 27)) (defScope (top 27)) .none kV47 dc47 pm47 an47 cd47 ct47), sl47⟩)
    (c47 : PySem.W.codeIn K cd47 "mirrored" = true)
    (k47 : PySem.W.keepIn K (.ref f47) = true)
    (a48 : PySem.W.nsIn K mainGlobals "_law_right" = some (some (.ref f48)))
    (l48 : K.lookup f48 = some ⟨oc48, od48, .func (PySem.W.fnOf "_law_right" "_law_right" (defArgs (top 66)) (defBody (top 66)) (defScope (top 66)) .none kV48 dc48 pm48 an48 cd48 ct48), sl48⟩)
    (c48 : PySem.W.codeIn K cd48 "_law_right" = true)
    (k48 : PySem.W.keepIn K (.ref f48) = true)
    (a49 : PySem.W.nsIn K mainGlobals "law" = some (some (.ref f49)))
    (l49 : K.lookup f49 = some ⟨oc49, od49, .func (PySem.W.fnOf "law" "law" (defArgs (top 67)) (defBody (top 67)) (defScope (top 67)) .none kV49 dc49 pm49 an49 cd49 ct49), sl49⟩)
    (c49 : PySem.W.codeIn K cd49 "law" = true)
    (k49 : PySem.W.keepIn K (.ref f49) = true)
    (n_all : PySem.W.nsIn K mainGlobals "all" = some none)
    (n_bool : PySem.W.nsIn K mainGlobals "bool" = some none)
    (n_enumerate : PySem.W.nsIn K mainGlobals "enumerate" = some none)
    (n_int : PySem.W.nsIn K mainGlobals "int" = some none)
    (n_isinstance : PySem.W.nsIn K mainGlobals "isinstance" = some none)
    (n_len : PySem.W.nsIn K mainGlobals "len" = some none)
    (n_list : PySem.W.nsIn K mainGlobals "list" = some none)
    (n_max : PySem.W.nsIn K mainGlobals "max" = some none)
    (n_min : PySem.W.nsIn K mainGlobals "min" = some none)
    (n_range : PySem.W.nsIn K mainGlobals "range" = some none)
    (n_sorted : PySem.W.nsIn K mainGlobals "sorted" = some none)
    (n_str : PySem.W.nsIn K mainGlobals "str" = some none)
    (n_sum : PySem.W.nsIn K mainGlobals "sum" = some none)
    (n_tuple : PySem.W.nsIn K mainGlobals "tuple" = some none)
    (q_MOST_LEVELS : PySem.W.nsIn K mainGlobals "MOST_LEVELS" = some (some (.int 50 t_MOST_LEVELS)))
    (q_MOST_NUMBER : PySem.W.nsIn K mainGlobals "MOST_NUMBER" = some (some (.int 1000000000000000000000000000000 t_MOST_NUMBER)))
    (q_MOST_PLACE : PySem.W.nsIn K mainGlobals "MOST_PLACE" = some (some (.int 1000000000000000000000000000000 t_MOST_PLACE)))
    (q_SIZES : PySem.W.nsIn K mainGlobals "SIZES" = some (some (.ref da_SIZES)))
    (dl_SIZES : K.lookup da_SIZES = some ⟨.type "dict", none, .dict de_SIZES dn_SIZES, #[]⟩)
    (dk_SIZES : de_SIZES.toList.map He.keyOf = He.keysIn w.params ["insert", "remove", "paint"])
    (dz_SIZES : (da_SIZES == sysModules) = false)
    (di_SIZES0 : PySem.W.nsIn K da_SIZES "insert" = some (some (.int 4 dt_SIZES0)))
    (di_SIZES1 : PySem.W.nsIn K da_SIZES "remove" = some (some (.int 3 dt_SIZES1)))
    (di_SIZES2 : PySem.W.nsIn K da_SIZES "paint" = some (some (.int 4 dt_SIZES2))) :
    ∃ (cls fna : Nat → Addr) (fd : FuncData), (∀ (s : Shared) (v : Value), BindsTo s fd ⟨[v], []⟩ [("script", v)]) ∧ ∀ base : Heap, K.In base → base.Ns mainGlobals mg → FnG P w K mg base 11 fa fd ["script"] (spF ⟨K, cls, fna⟩ 1 s_law) := by
  have e : f49 = fa := by have q := hfa.symm.trans (PySem.W.mg_of X G a49); cases q; rfl
  subst e
  have F0 := fun_mk (st := (top 57)) l0 c0 k0
  have B0 := F0.binds (ps := ["cell"]) fun _ _ _ _ _ _ us hl => match us, hl with | [_], _ => rfl
  have F1 := fun_mk (st := (top 2)) l1 c1 k1
  have B1 := F1.binds (ps := ["value"]) fun _ _ _ _ _ _ us hl => match us, hl with | [_], _ => rfl
  have F2 := fun_mk (st := (top 22)) l2 c2 k2
  have B2 := F2.binds (ps := ["value"]) fun _ _ _ _ _ _ us hl => match us, hl with | [_], _ => rfl
  have F3 := fun_mk (st := (inClass (top 23) 0)) l3 c3 k3
  have B3 := F3.binds (ps := ["self", "levels"]) fun _ _ _ _ _ _ us hl => match us, hl with | [_, _], _ => rfl
  have F4 := fun_mk (st := (top 18)) l4 c4 k4
  have B4 := F4.binds (ps := ["value"]) fun _ _ _ _ _ _ us hl => match us, hl with | [_], _ => rfl
  have F5 := fun_mk (st := (top 3)) l5 c5 k5
  have B5 := F5.binds (ps := ["value", "low", "high"]) fun _ _ _ _ _ _ us hl => match us, hl with | [_, _, _], _ => rfl
  have F6 := fun_mk (st := (inClass (top 49) 0)) l6 c6 k6
  have B6 := F6.binds (ps := ["self", "screen", "width"]) fun _ _ _ _ _ _ us hl => match us, hl with | [_, _, _], _ => rfl
  have F7 := fun_mk (st := (top 43)) l7 c7 k7
  have B7 := F7.binds (ps := ["bands"]) fun _ _ _ _ _ _ us hl => match us, hl with | [_], _ => rfl
  have F8 := fun_mk (st := (top 44)) l8 c8 k8
  have B8 := F8.binds (ps := ["bands"]) fun _ _ _ _ _ _ us hl => match us, hl with | [_], _ => rfl
  have F9 := fun_mk (st := (top 47)) l9 c9 k9
  have B9 := F9.binds (ps := ["bands", "row", "number"]) fun _ _ _ _ _ _ us hl => match us, hl with | [_, _, _], _ => rfl
  have F10 := fun_mk (st := (top 21)) l10 c10 k10
  have B10 := F10.binds (ps := ["screen", "value"]) fun _ _ _ _ _ _ us hl => match us, hl with | [_, _], _ => rfl
  have F11 := fun_mk (st := (top 45)) l11 c11 k11
  have B11 := F11.binds (ps := ["bands", "begin", "end"]) fun _ _ _ _ _ _ us hl => match us, hl with | [_, _, _], _ => rfl
  have F12 := fun_mk (st := (top 48)) l12 c12 k12
  have B12 := F12.binds (ps := ["screen", "bands", "step"]) fun _ _ _ _ _ _ us hl => match us, hl with | [_, _, _], _ => rfl
  have F13 := fun_mk (st := (top 33)) l13 c13 k13
  have B13 := F13.binds (ps := ["first", "many", "residue", "shift"]) fun _ _ _ _ _ _ us hl => match us, hl with | [_, _, _, _], _ => rfl
  have F14 := fun_mk (st := (top 34)) l14 c14 k14
  have B14 := F14.binds (ps := ["window", "x", "y", "shift"]) fun _ _ _ _ _ _ us hl => match us, hl with | [_, _, _, _], _ => rfl
  have F15 := fun_mk (st := (top 35)) l15 c15 k15
  have B15 := F15.binds (ps := ["levels", "shade"]) fun _ _ _ _ _ _ us hl => match us, hl with | [_, _], _ => rfl
  have F16 := fun_mk (st := (top 36)) l16 c16 k16
  have B16 := F16.binds (ps := ["levels", "shade", "window"]) fun _ _ _ _ _ _ us hl => match us, hl with | [_, _, _], _ => rfl
  have F17 := fun_mk (st := (top 37)) l17 c17 k17
  have B17 := F17.binds (ps := ["screen", "shade", "window"]) fun _ _ _ _ _ _ us hl => match us, hl with | [_, _, _], _ => rfl
  have F18 := fun_mk (st := (top 46)) l18 c18 k18
  have B18 := F18.binds (ps := ["screen", "width", "bands", "top"]) fun _ _ _ _ _ _ us hl => match us, hl with | [_, _, _, _], _ => rfl
  have F19 := fun_mk (st := (inClass (top 49) 6)) l19 c19 k19
  have B19 := F19.binds (ps := ["self", "bands", "step"]) fun _ _ _ _ _ _ us hl => match us, hl with | [_, _, _], _ => rfl
  have F20 := fun_mk (st := (inClass (top 49) 7)) l20 c20 k20
  have B20 := F20.binds (ps := ["self", "step"]) fun _ _ _ _ _ _ us hl => match us, hl with | [_, _], _ => rfl
  have F21 := fun_mk (st := (inClass (top 49) 8)) l21 c21 k21
  have B21 := F21.binds (ps := ["self", "row", "number", "shade"]) fun _ _ _ _ _ _ us hl => match us, hl with | [_, _, _, _], _ => rfl
  have F22 := fun_mk (st := (top 58)) l22 c22 k22
  have B22 := F22.binds (ps := ["bag", "many"]) fun _ _ _ _ _ _ us hl => match us, hl with | [_, _], _ => rfl
  have F23 := fun_mk (st := (inClass (top 49) 4)) l23 c23 k23
  have B23 := F23.binds (ps := ["self"]) fun _ _ _ _ _ _ us hl => match us, hl with | [_], _ => rfl
  have F24 := fun_mk (st := (top 30)) l24 c24 k24
  have B24 := F24.binds (ps := ["screen", "value"]) fun _ _ _ _ _ _ us hl => match us, hl with | [_, _], _ => rfl
  have F25 := fun_mk (st := (top 31)) l25 c25 k25
  have B25 := F25.binds (ps := ["value"]) fun _ _ _ _ _ _ us hl => match us, hl with | [_], _ => rfl
  have F26 := fun_mk (st := (top 32)) l26 c26 k26
  have B26 := F26.binds (ps := ["value"]) fun _ _ _ _ _ _ us hl => match us, hl with | [_], _ => rfl
  have F27 := fun_mk (st := (top 38)) l27 c27 k27
  have B27 := F27.binds (ps := ["screen", "shade", "window"]) fun _ _ _ _ _ _ us hl => match us, hl with | [_, _, _], _ => rfl
  have F28 := fun_mk (st := (top 64)) l28 c28 k28
  have B28 := F28.binds (ps := ["bag", "screen", "width", "long", "shades"]) fun _ _ _ _ _ _ us hl => match us, hl with | [_, _, _, _, _], _ => rfl
  have F29 := fun_mk (st := (top 51)) l29 c29 k29
  have B29 := F29.binds (ps := ["value", "low", "high"]) fun _ _ _ _ _ _ us hl => match us, hl with | [_, _, _], _ => rfl
  have F30 := fun_mk (st := (top 52)) l30 c30 k30
  have B30 := F30.binds (ps := ["screen", "window", "number"]) fun _ _ _ _ _ _ us hl => match us, hl with | [_, _, _], _ => rfl
  have F31 := fun_mk (st := (top 54)) l31 c31 k31
  have B31 := F31.binds (ps := ["screen", "window", "number"]) fun _ _ _ _ _ _ us hl => match us, hl with | [_, _, _], _ => rfl
  have F32 := fun_mk (st := (top 53)) l32 c32 k32
  have B32 := F32.binds (ps := ["window"]) fun _ _ _ _ _ _ us hl => match us, hl with | [_], _ => rfl
  have F33 := fun_mk (st := (top 55)) l33 c33 k33
  have B33 := F33.binds (ps := ["screen", "window", "number"]) fun _ _ _ _ _ _ us hl => match us, hl with | [_, _, _], _ => rfl
  have F34 := fun_mk (st := (top 59)) l34 c34 k34
  have B34 := F34.binds (ps := ["bag"]) fun _ _ _ _ _ _ us hl => match us, hl with | [_], _ => rfl
  have F35 := fun_mk (st := (top 60)) l35 c35 k35
  have B35 := F35.binds (ps := ["bag", "most"]) fun _ _ _ _ _ _ us hl => match us, hl with | [_, _], _ => rfl
  have F36 := fun_mk (st := (inClass (top 49) 13)) l36 c36 k36
  have B36 := F36.binds (ps := ["self"]) fun _ _ _ _ _ _ us hl => match us, hl with | [_], _ => rfl
  have F37 := fun_mk (st := (inClass (top 23) 4)) l37 c37 k37
  have B37 := F37.binds (ps := ["self"]) fun _ _ _ _ _ _ us hl => match us, hl with | [_], _ => rfl
  have F38 := fun_mk (st := (inClass (top 23) 3)) l38 c38 k38
  have B38 := F38.binds (ps := ["self"]) fun _ _ _ _ _ _ us hl => match us, hl with | [_], _ => rfl
  have F39 := fun_mk (st := (inClass (top 23) 2)) l39 c39 k39
  have B39 := F39.binds (ps := ["self"]) fun _ _ _ _ _ _ us hl => match us, hl with | [_], _ => rfl
  have F40 := fun_mk (st := (top 28)) l40 c40 k40
  have B40 := F40.binds (ps := ["screen", "number"]) fun _ _ _ _ _ _ us hl => match us, hl with | [_, _], _ => rfl
  have F41 := fun_mk (st := (inClass (top 23) 5)) l41 c41 k41
  have B41 := F41.binds (ps := ["self"]) fun _ _ _ _ _ _ us hl => match us, hl with | [_], _ => rfl
  have F42 := fun_mk (st := (top 42)) l42 c42 k42
  have B42 := F42.binds (ps := ["value"]) fun _ _ _ _ _ _ us hl => match us, hl with | [_], _ => rfl
  have F43 := fun_mk (st := (inClass (top 49) 15)) l43 c43 k43
  have B43 : BindsV (PySem.W.fnOf "preview" "Picture.preview" (defArgs (inClass (top 49) 15)) (defBody (inClass (top 49) 15)) (defScope (inClass (top 49) 15)) .none kV43 dc43 pm43 an43 cd43 ct43) ["self", "steps"] := fun u us => ⟨_, _, rfl, match us with | [] => rfl | _ :: _ => rfl⟩
  have F44 := fun_mk (st := (inClass (top 49) 3)) l44 c44 k44
  have B44 := F44.binds (ps := ["self"]) fun _ _ _ _ _ _ us hl => match us, hl with | [_], _ => rfl
  have F45 := fun_mk (st := (top 65)) l45 c45 k45
  have B45 := F45.binds (ps := ["one", "screen", "width"]) fun _ _ _ _ _ _ us hl => match us, hl with | [_, _, _], _ => rfl
  have F46 := fun_mk (st := (top 26)) l46 c46 k46
  have B46 := F46.binds (ps := ["screen", "cells"]) fun _ _ _ _ _ _ us hl => match us, hl with | [_, _], _ => rfl
  have F47 := fun_mk (st := (top 27)) l47 c47 k47
  have B47 := F47.binds (ps := ["screen"]) fun _ _ _ _ _ _ us hl => match us, hl with | [_], _ => rfl
  have F48 := fun_mk (st := (top 66)) l48 c48 k48
  have B48 := F48.binds (ps := ["bag", "most", "long"]) fun _ _ _ _ _ _ us hl => match us, hl with | [_, _, _], _ => rfl
  have F49 := fun_mk (st := (top 67)) l49 c49 k49
  have B49 := F49.binds (ps := ["script"]) fun _ _ _ _ _ _ us hl => match us, hl with | [_], _ => rfl
  have CF1 : ClsF K C1 := ClsF.of ⟨pg1, hd1, po1, sa1⟩ ha1 hn1 tk1 mro1 ty1 (by intro t ht; simp only [List.mem_cons, List.not_mem_nil, or_false] at ht; rcases ht with rfl | rfl | rfl | rfl | rfl | rfl <;> assumption) (by intro t ht; simp only [List.mem_cons, List.not_mem_nil, or_false] at ht; rcases ht with rfl | rfl | rfl | rfl | rfl | rfl | rfl <;> assumption)
  have CF0 : ClsF K C0 := ClsF.of ⟨pg0, hd0, po0, sa0⟩ ha0 hn0 tk0 mro0 ty0 (by intro t ht; simp only [List.mem_cons, List.not_mem_nil, or_false] at ht; rcases ht with rfl | rfl | rfl | rfl | rfl | rfl <;> assumption) (by intro t ht; simp only [List.mem_cons, List.not_mem_nil, or_false] at ht; rcases ht with rfl | rfl | rfl | rfl | rfl | rfl | rfl <;> assumption)
  have X101 : XcF K (fun j => [C0, C1, 0, 0, 0, 0, 0, 0, 0, 0, 0, 0, 0, 0, 0, 0, 0, 0, 0, 0, 0, 0, 0, 0, 0, 0, 0, 0, 0, 0, 0, 0, 0, 0, 0, 0, 0, 0, 0, 0, 0, 0, 0, 0, 0, 0, 0, 0, 0, 0, 0, 0, 0, 0, 0, 0, 0, 0, 0, 0, 0, 0, 0, 0, 0, 0, 0, 0, 0, 0, 0, 0, 0, 0, 0, 0, 0, 0, 0, 0, 0, 0, 0, 0, 0, 0, 0, 0, 0, 0, 0, 0, 0, 0, 0, 0, 0, 0, 0, 0, C100, C101, 0, 0, 0, 0, 0, C107, C108, C109, C110, 0, 0, 0, C114, C115, 0, C117, 0, 0].getD j 0) 101 := ⟨⟨_, _, _, _, _, _, _, _, _, _, _, _, _, _, xo101⟩, xa101, xg101, xh101, xk101⟩
  have X107 : XcF K (fun j => [C0, C1, 0, 0, 0, 0, 0, 0, 0, 0, 0, 0, 0, 0, 0, 0, 0, 0, 0, 0, 0, 0, 0, 0, 0, 0, 0, 0, 0, 0, 0, 0, 0, 0, 0, 0, 0, 0, 0, 0, 0, 0, 0, 0, 0, 0, 0, 0, 0, 0, 0, 0, 0, 0, 0, 0, 0, 0, 0, 0, 0, 0, 0, 0, 0, 0, 0, 0, 0, 0, 0, 0, 0, 0, 0, 0, 0, 0, 0, 0, 0, 0, 0, 0, 0, 0, 0, 0, 0, 0, 0, 0, 0, 0, 0, 0, 0, 0, 0, 0, C100, C101, 0, 0, 0, 0, 0, C107, C108, C109, C110, 0, 0, 0, C114, C115, 0, C117, 0, 0].getD j 0) 107 := ⟨⟨_, _, _, _, _, _, _, _, _, _, _, _, _, _, xo107⟩, xa107, xg107, xh107, xk107⟩
  have X108 : XcF K (fun j => [C0, C1, 0, 0, 0, 0, 0, 0, 0, 0, 0, 0, 0, 0, 0, 0, 0, 0, 0, 0, 0, 0, 0, 0, 0, 0, 0, 0, 0, 0, 0, 0, 0, 0, 0, 0, 0, 0, 0, 0, 0, 0, 0, 0, 0, 0, 0, 0, 0, 0, 0, 0, 0, 0, 0, 0, 0, 0, 0, 0, 0, 0, 0, 0, 0, 0, 0, 0, 0, 0, 0, 0, 0, 0, 0, 0, 0, 0, 0, 0, 0, 0, 0, 0, 0, 0, 0, 0, 0, 0, 0, 0, 0, 0, 0, 0, 0, 0, 0, 0, C100, C101, 0, 0, 0, 0, 0, C107, C108, C109, C110, 0, 0, 0, C114, C115, 0, C117, 0, 0].getD j 0) 108 := ⟨⟨_, _, _, _, _, _, _, _, _, _, _, _, _, _, xo108⟩, xa108, xg108, xh108, xk108⟩
  have X109 : XcF K (fun j => [C0, C1, 0, 0, 0, 0, 0, 0, 0, 0, 0, 0, 0, 0, 0, 0, 0, 0, 0, 0, 0, 0, 0, 0, 0, 0, 0, 0, 0, 0, 0, 0, 0, 0, 0, 0, 0, 0, 0, 0, 0, 0, 0, 0, 0, 0, 0, 0, 0, 0, 0, 0, 0, 0, 0, 0, 0, 0, 0, 0, 0, 0, 0, 0, 0, 0, 0, 0, 0, 0, 0, 0, 0, 0, 0, 0, 0, 0, 0, 0, 0, 0, 0, 0, 0, 0, 0, 0, 0, 0, 0, 0, 0, 0, 0, 0, 0, 0, 0, 0, C100, C101, 0, 0, 0, 0, 0, C107, C108, C109, C110, 0, 0, 0, C114, C115, 0, C117, 0, 0].getD j 0) 109 := ⟨⟨_, _, _, _, _, _, _, _, _, _, _, _, _, _, xo109⟩, xa109, xg109, xh109, xk109⟩
  have X110 : XcF K (fun j => [C0, C1, 0, 0, 0, 0, 0, 0, 0, 0, 0, 0, 0, 0, 0, 0, 0, 0, 0, 0, 0, 0, 0, 0, 0, 0, 0, 0, 0, 0, 0, 0, 0, 0, 0, 0, 0, 0, 0, 0, 0, 0, 0, 0, 0, 0, 0, 0, 0, 0, 0, 0, 0, 0, 0, 0, 0, 0, 0, 0, 0, 0, 0, 0, 0, 0, 0, 0, 0, 0, 0, 0, 0, 0, 0, 0, 0, 0, 0, 0, 0, 0, 0, 0, 0, 0, 0, 0, 0, 0, 0, 0, 0, 0, 0, 0, 0, 0, 0, 0, C100, C101, 0, 0, 0, 0, 0, C107, C108, C109, C110, 0, 0, 0, C114, C115, 0, C117, 0, 0].getD j 0) 110 := ⟨⟨_, _, _, _, _, _, _, _, _, _, _, _, _, _, xo110⟩, xa110, xg110, xh110, xk110⟩
  have X114 : XcF K (fun j => [C0, C1, 0, 0, 0, 0, 0, 0, 0, 0, 0, 0, 0, 0, 0, 0, 0, 0, 0, 0, 0, 0, 0, 0, 0, 0, 0, 0, 0, 0, 0, 0, 0, 0, 0, 0, 0, 0, 0, 0, 0, 0, 0, 0, 0, 0, 0, 0, 0, 0, 0, 0, 0, 0, 0, 0, 0, 0, 0, 0, 0, 0, 0, 0, 0, 0, 0, 0, 0, 0, 0, 0, 0, 0, 0, 0, 0, 0, 0, 0, 0, 0, 0, 0, 0, 0, 0, 0, 0, 0, 0, 0, 0, 0, 0, 0, 0, 0, 0, 0, C100, C101, 0, 0, 0, 0, 0, C107, C108, C109, C110, 0, 0, 0, C114, C115, 0, C117, 0, 0].getD j 0) 114 := ⟨⟨_, _, _, _, _, _, _, _, _, _, _, _, _, _, xo114⟩, xa114, xg114, xh114, xk114⟩
  have X115 : XcF K (fun j => [C0, C1, 0, 0, 0, 0, 0, 0, 0, 0, 0, 0, 0, 0, 0, 0, 0, 0, 0, 0, 0, 0, 0, 0, 0, 0, 0, 0, 0, 0, 0, 0, 0, 0, 0, 0, 0, 0, 0, 0, 0, 0, 0, 0, 0, 0, 0, 0, 0, 0, 0, 0, 0, 0, 0, 0, 0, 0, 0, 0, 0, 0, 0, 0, 0, 0, 0, 0, 0, 0, 0, 0, 0, 0, 0, 0, 0, 0, 0, 0, 0, 0, 0, 0, 0, 0, 0, 0, 0, 0, 0, 0, 0, 0, 0, 0, 0, 0, 0, 0, C100, C101, 0, 0, 0, 0, 0, C107, C108, C109, C110, 0, 0, 0, C114, C115, 0, C117, 0, 0].getD j 0) 115 := ⟨⟨_, _, _, _, _, _, _, _, _, _, _, _, _, _, xo115⟩, xa115, xg115, xh115, xk115⟩
  have X117 : XcF K (fun j => [C0, C1, 0, 0, 0, 0, 0, 0, 0, 0, 0, 0, 0, 0, 0, 0, 0, 0, 0, 0, 0, 0, 0, 0, 0, 0, 0, 0, 0, 0, 0, 0, 0, 0, 0, 0, 0, 0, 0, 0, 0, 0, 0, 0, 0, 0, 0, 0, 0, 0, 0, 0, 0, 0, 0, 0, 0, 0, 0, 0, 0, 0, 0, 0, 0, 0, 0, 0, 0, 0, 0, 0, 0, 0, 0, 0, 0, 0, 0, 0, 0, 0, 0, 0, 0, 0, 0, 0, 0, 0, 0, 0, 0, 0, 0, 0, 0, 0, 0, 0, C100, C101, 0, 0, 0, 0, 0, C107, C108, C109, C110, 0, 0, 0, C114, C115, 0, C117, 0, 0].getD j 0) 117 := ⟨⟨_, _, _, _, _, _, _, _, _, _, _, _, _, _, xo117⟩, xa117, xg117, xh117, xk117⟩
  have XF101 : XfF K (fun j => [C0, C1, 0, 0, 0, 0, 0, 0, 0, 0, 0, 0, 0, 0, 0, 0, 0, 0, 0, 0, 0, 0, 0, 0, 0, 0, 0, 0, 0, 0, 0, 0, 0, 0, 0, 0, 0, 0, 0, 0, 0, 0, 0, 0, 0, 0, 0, 0, 0, 0, 0, 0, 0, 0, 0, 0, 0, 0, 0, 0, 0, 0, 0, 0, 0, 0, 0, 0, 0, 0, 0, 0, 0, 0, 0, 0, 0, 0, 0, 0, 0, 0, 0, 0, 0, 0, 0, 0, 0, 0, 0, 0, 0, 0, 0, 0, 0, 0, 0, 0, C100, C101, 0, 0, 0, 0, 0, C107, C108, C109, C110, 0, 0, 0, C114, C115, 0, C117, 0, 0].getD j 0) 101 := ⟨xs101, xn101, xd101, fx101, xt101, xf101, xinit_level ⟨_, _, _, _, _, _, _, _, _, _, _, _, _, _, _, xo101, rfl⟩ xs101 xn101 xl101 xc101⟩
  have XF107 : XfF K (fun j => [C0, C1, 0, 0, 0, 0, 0, 0, 0, 0, 0, 0, 0, 0, 0, 0, 0, 0, 0, 0, 0, 0, 0, 0, 0, 0, 0, 0, 0, 0, 0, 0, 0, 0, 0, 0, 0, 0, 0, 0, 0, 0, 0, 0, 0, 0, 0, 0, 0, 0, 0, 0, 0, 0, 0, 0, 0, 0, 0, 0, 0, 0, 0, 0, 0, 0, 0, 0, 0, 0, 0, 0, 0, 0, 0, 0, 0, 0, 0, 0, 0, 0, 0, 0, 0, 0, 0, 0, 0, 0, 0, 0, 0, 0, 0, 0, 0, 0, 0, 0, C100, C101, 0, 0, 0, 0, 0, C107, C108, C109, C110, 0, 0, 0, C114, C115, 0, C117, 0, 0].getD j 0) 107 := ⟨xs107, xn107, xd107, fx107, xt107, xf107, xinit_count ⟨_, _, _, _, _, _, _, _, _, _, _, _, _, _, _, xo107, rfl⟩ xs107 xn107 xl107 xc107⟩
  have T : Fx w K mg (fun j => [C0, C1, 0, 0, 0, 0, 0, 0, 0, 0, 0, 0, 0, 0, 0, 0, 0, 0, 0, 0, 0, 0, 0, 0, 0, 0, 0, 0, 0, 0, 0, 0, 0, 0, 0, 0, 0, 0, 0, 0, 0, 0, 0, 0, 0, 0, 0, 0, 0, 0, 0, 0, 0, 0, 0, 0, 0, 0, 0, 0, 0, 0, 0, 0, 0, 0, 0, 0, 0, 0, 0, 0, 0, 0, 0, 0, 0, 0, 0, 0, 0, 0, 0, 0, 0, 0, 0, 0, 0, 0, 0, 0, 0, 0, 0, 0, 0, 0, 0, 0, C100, C101, 0, 0, 0, 0, 0, C107, C108, C109, C110, 0, 0, 0, C114, C115, 0, C117, 0, 0].getD j 0) (fun j => [f0, f1, f2, f3, f4, f5, f6, f7, f8, f9, f10, f11, f12, f13, f14, f15, f16, f17, f18, f19, f20, f21, f22, f23, f24, f25, f26, f27, f28, f29, f30, f31, f32, f33, f34, f35, f36, f37, f38, f39, f40, f41, f42, f43, f44, f45, f46, f47, f48, f49].getD j 0) (fun j => [(PySem.W.fnOf "_law_bag" "_law_bag" (defArgs (top 57)) (defBody (top 57)) (defScope (top 57)) .none kV0 dc0 pm0 an0 cd0 ct0), (PySem.W.fnOf "is_int" "is_int" (defArgs (top 2)) (defBody (top 2)) (defScope (top 2)) .none kV1 dc1 pm1 an1 cd1 ct1), (PySem.W.fnOf "is_level" "is_level" (defArgs (top 22)) (defBody (top 22)) (defScope (top 22)) .none kV2 dc2 pm2 an2 cd2 ct2), (PySem.W.fnOf "__init__" "Screen.__init__" (defArgs (inClass (top 23) 0)) (defBody (inClass (top 23) 0)) (defScope (inClass (top 23) 0)) .none kV3 dc3 pm3 an3 cd3 ct3), (PySem.W.fnOf "require_screen" "require_screen" (defArgs (top 18)) (defBody (top 18)) (defScope (top 18)) .none kV4 dc4 pm4 an4 cd4 ct4), (PySem.W.fnOf "is_whole" "is_whole" (defArgs (top 3)) (defBody (top 3)) (defScope (top 3)) .none kV5 dc5 pm5 an5 cd5 ct5), (PySem.W.fnOf "__init__" "Picture.__init__" (defArgs (inClass (top 49) 0)) (defBody (inClass (top 49) 0)) (defScope (inClass (top 49) 0)) .none kV6 dc6 pm6 an6 cd6 ct6), (PySem.W.fnOf "merged" "merged" (defArgs (top 43)) (defBody (top 43)) (defScope (top 43)) .none kV7 dc7 pm7 an7 cd7 ct7), (PySem.W.fnOf "height_of" "height_of" (defArgs (top 44)) (defBody (top 44)) (defScope (top 44)) .none kV8 dc8 pm8 an8 cd8 ct8), (PySem.W.fnOf "require_rows" "require_rows" (defArgs (top 47)) (defBody (top 47)) (defScope (top 47)) .none kV9 dc9 pm9 an9 cd9 ct9), (PySem.W.fnOf "is_shade" "is_shade" (defArgs (top 21)) (defBody (top 21)) (defScope (top 21)) .none kV10 dc10 pm10 an10 cd10 ct10), (PySem.W.fnOf "part_of" "part_of" (defArgs (top 45)) (defBody (top 45)) (defScope (top 45)) .none kV11 dc11 pm11 an11 cd11 ct11), (PySem.W.fnOf "changed" "changed" (defArgs (top 48)) (defBody (top 48)) (defScope (top 48)) .none kV12 dc12 pm12 an12 cd12 ct12), (PySem.W.fnOf "residues" "residues" (defArgs (top 33)) (defBody (top 33)) (defScope (top 33)) .none kV13 dc13 pm13 an13 cd13 ct13), (PySem.W.fnOf "places_with" "places_with" (defArgs (top 34)) (defBody (top 34)) (defScope (top 34)) .none kV14 dc14 pm14 an14 cd14 ct14), (PySem.W.fnOf "cells_below" "cells_below" (defArgs (top 35)) (defBody (top 35)) (defScope (top 35)) .none kV15 dc15 pm15 an15 cd15 ct15), (PySem.W.fnOf "count_of" "count_of" (defArgs (top 36)) (defBody (top 36)) (defScope (top 36)) .none kV16 dc16 pm16 an16 cd16 ct16), (PySem.W.fnOf "dots_in" "dots_in" (defArgs (top 37)) (defBody (top 37)) (defScope (top 37)) .none kV17 dc17 pm17 an17 cd17 ct17), (PySem.W.fnOf "ink_of" "ink_of" (defArgs (top 46)) (defBody (top 46)) (defScope (top 46)) .none kV18 dc18 pm18 an18 cd18 ct18), (PySem.W.fnOf "behind" "Picture.behind" (defArgs (inClass (top 49) 6)) (defBody (inClass (top 49) 6)) (defScope (inClass (top 49) 6)) .none kV19 dc19 pm19 an19 cd19 ct19), (PySem.W.fnOf "perform" "Picture.perform" (defArgs (inClass (top 49) 7)) (defBody (inClass (top 49) 7)) (defScope (inClass (top 49) 7)) .none kV20 dc20 pm20 an20 cd20 ct20), (PySem.W.fnOf "insert" "Picture.insert" (defArgs (inClass (top 49) 8)) (defBody (inClass (top 49) 8)) (defScope (inClass (top 49) 8)) .none kV21 dc21 pm21 an21 cd21 ct21), (PySem.W.fnOf "_law_pick" "_law_pick" (defArgs (top 58)) (defBody (top 58)) (defScope (top 58)) .none kV22 dc22 pm22 an22 cd22 ct22), (PySem.W.fnOf "height" "Picture.height" (defArgs (inClass (top 49) 4)) (defBody (inClass (top 49) 4)) (defScope (inClass (top 49) 4)) .none kV23 dc23 pm23 an23 cd23 ct23), (PySem.W.fnOf "require_shade" "require_shade" (defArgs (top 30)) (defBody (top 30)) (defScope (top 30)) .none kV24 dc24 pm24 an24 cd24 ct24), (PySem.W.fnOf "is_window" "is_window" (defArgs (top 31)) (defBody (top 31)) (defScope (top 31)) .none kV25 dc25 pm25 an25 cd25 ct25), (PySem.W.fnOf "require_window" "require_window" (defArgs (top 32)) (defBody (top 32)) (defScope (top 32)) .none kV26 dc26 pm26 an26 cd26 ct26), (PySem.W.fnOf "dot_count" "dot_count" (defArgs (top 38)) (defBody (top 38)) (defScope (top 38)) .none kV27 dc27 pm27 an27 cd27 ct27), (PySem.W.fnOf "_law_filled" "_law_filled" (defArgs (top 64)) (defBody (top 64)) (defScope (top 64)) .none kV28 dc28 pm28 an28 cd28 ct28), (PySem.W.fnOf "require_number" "require_number" (defArgs (top 51)) (defBody (top 51)) (defScope (top 51)) .none kV29 dc29 pm29 an29 cd29 ct29), (PySem.W.fnOf "nth_of_window" "nth_of_window" (defArgs (top 52)) (defBody (top 52)) (defScope (top 52)) .none kV30 dc30 pm30 an30 cd30 ct30), (PySem.W.fnOf "least_with" "least_with" (defArgs (top 54)) (defBody (top 54)) (defScope (top 54)) .none kV31 dc31 pm31 an31 cd31 ct31), (PySem.W.fnOf "places_of" "places_of" (defArgs (top 53)) (defBody (top 53)) (defScope (top 53)) .none kV32 dc32 pm32 an32 cd32 ct32), (PySem.W.fnOf "least_shade" "least_shade" (defArgs (top 55)) (defBody (top 55)) (defScope (top 55)) .none kV33 dc33 pm33 an33 cd33 ct33), (PySem.W.fnOf "_law_level" "_law_level" (defArgs (top 59)) (defBody (top 59)) (defScope (top 59)) .none kV34 dc34 pm34 an34 cd34 ct34), (PySem.W.fnOf "_law_levels" "_law_levels" (defArgs (top 60)) (defBody (top 60)) (defScope (top 60)) .none kV35 dc35 pm35 an35 cd35 ct35), (PySem.W.fnOf "ink" "Picture.ink" (defArgs (inClass (top 49) 13)) (defBody (inClass (top 49) 13)) (defScope (inClass (top 49) 13)) .none kV36 dc36 pm36 an36 cd36 ct36), (PySem.W.fnOf "period" "Screen.period" (defArgs (inClass (top 23) 4)) (defBody (inClass (top 23) 4)) (defScope (inClass (top 23) 4)) .none kV37 dc37 pm37 an37 cd37 ct37), (PySem.W.fnOf "depth" "Screen.depth" (defArgs (inClass (top 23) 3)) (defBody (inClass (top 23) 3)) (defScope (inClass (top 23) 3)) .none kV38 dc38 pm38 an38 cd38 ct38), (PySem.W.fnOf "levels" "Screen.levels" (defArgs (inClass (top 23) 2)) (defBody (inClass (top 23) 2)) (defScope (inClass (top 23) 2)) .none kV39 dc39 pm39 an39 cd39 ct39), (PySem.W.fnOf "first_levels" "first_levels" (defArgs (top 28)) (defBody (top 28)) (defScope (top 28)) .none kV40 dc40 pm40 an40 cd40 ct40), (PySem.W.fnOf "shades" "Screen.shades" (defArgs (inClass (top 23) 5)) (defBody (inClass (top 23) 5)) (defScope (inClass (top 23) 5)) .none kV41 dc41 pm41 an41 cd41 ct41), (PySem.W.fnOf "is_operation" "is_operation" (defArgs (top 42)) (defBody (top 42)) (defScope (top 42)) .none kV42 dc42 pm42 an42 cd42 ct42), (PySem.W.fnOf "preview" "Picture.preview" (defArgs (inClass (top 49) 15)) (defBody (inClass (top 49) 15)) (defScope (inClass (top 49) 15)) .none kV43 dc43 pm43 an43 cd43 ct43), (PySem.W.fnOf "bands" "Picture.bands" (defArgs (inClass (top 49) 3)) (defBody (inClass (top 49) 3)) (defScope (inClass (top 49) 3)) .none kV44 dc44 pm44 an44 cd44 ct44), (PySem.W.fnOf "_law_again" "_law_again" (defArgs (top 65)) (defBody (top 65)) (defScope (top 65)) .none kV45 dc45 pm45 an45 cd45 ct45), (PySem.W.fnOf "rearranged" "rearranged" (defArgs (top 26)) (defBody (top 26)) (defScope (top 26)) .none kV46 dc46 pm46 an46 cd46 ct46), (PySem.W.fnOf "mirrored" "mirrored" (defArgs (top 27)) (defBody (top 27)) (defScope (top 27)) .none kV47 dc47 pm47 an47 cd47 ct47), (PySem.W.fnOf "_law_right" "_law_right" (defArgs (top 66)) (defBody (top 66)) (defScope (top 66)) .none kV48 dc48 pm48 an48 cd48 ct48), (PySem.W.fnOf "law" "law" (defArgs (top 67)) (defBody (top 67)) (defScope (top 67)) .none kV49 dc49 pm49 an49 cd49 ct49)].getD j (PySem.W.fnOf "law" "law" (defArgs (top 67)) (defBody (top 67)) (defScope (top 67)) .none kV49 dc49 pm49 an49 cd49 ct49)) := {
    f_z_law_bag := F0,
    b_z_law_bag := B0,
    m_z_law_bag := PySem.W.mg_of X G a0,
    f_is_int := F1,
    b_is_int := B1,
    m_is_int := PySem.W.mg_of X G a1,
    f_is_level := F2,
    b_is_level := B2,
    m_is_level := PySem.W.mg_of X G a2,
    f_Screen___init := F3,
    b_Screen___init := B3,
    mk0 := ⟨mk0, a3, i3, kc0⟩,
    f_require_screen := F4,
    b_require_screen := B4,
    m_require_screen := PySem.W.mg_of X G a4,
    f_is_whole := F5,
    b_is_whole := B5,
    m_is_whole := PySem.W.mg_of X G a5,
    f_Picture___init := F6,
    b_Picture___init := B6,
    mk1 := ⟨mk1, a6, i6, kc1⟩,
    f_merged := F7,
    b_merged := B7,
    m_merged := PySem.W.mg_of X G a7,
    f_height_of := F8,
    b_height_of := B8,
    m_height_of := PySem.W.mg_of X G a8,
    f_require_rows := F9,
    b_require_rows := B9,
    m_require_rows := PySem.W.mg_of X G a9,
    f_is_shade := F10,
    b_is_shade := B10,
    m_is_shade := PySem.W.mg_of X G a10,
    f_part_of := F11,
    b_part_of := B11,
    m_part_of := PySem.W.mg_of X G a11,
    f_changed := F12,
    b_changed := B12,
    m_changed := PySem.W.mg_of X G a12,
    f_residues := F13,
    b_residues := B13,
    m_residues := PySem.W.mg_of X G a13,
    f_places_with := F14,
    b_places_with := B14,
    m_places_with := PySem.W.mg_of X G a14,
    f_cells_below := F15,
    b_cells_below := B15,
    m_cells_below := PySem.W.mg_of X G a15,
    f_count_of := F16,
    b_count_of := B16,
    m_count_of := PySem.W.mg_of X G a16,
    f_dots_in := F17,
    b_dots_in := B17,
    m_dots_in := PySem.W.mg_of X G a17,
    f_ink_of := F18,
    b_ink_of := B18,
    m_ink_of := PySem.W.mg_of X G a18,
    f_Picture_behind := F19,
    b_Picture_behind := B19,
    h_Picture_behind := ⟨a19, i19, k19⟩,
    f_Picture_perform := F20,
    b_Picture_perform := B20,
    h_Picture_perform := ⟨a20, i20, k20⟩,
    f_Picture_insert := F21,
    b_Picture_insert := B21,
    h_Picture_insert := ⟨a21, i21, k21⟩,
    f_z_law_pick := F22,
    b_z_law_pick := B22,
    m_z_law_pick := PySem.W.mg_of X G a22,
    f_Picture_height := F23,
    b_Picture_height := B23,
    p_Picture_height := ⟨p23, a23, b23, d23, _, e23⟩,
    f_require_shade := F24,
    b_require_shade := B24,
    m_require_shade := PySem.W.mg_of X G a24,
    f_is_window := F25,
    b_is_window := B25,
    m_is_window := PySem.W.mg_of X G a25,
    f_require_window := F26,
    b_require_window := B26,
    m_require_window := PySem.W.mg_of X G a26,
    f_dot_count := F27,
    b_dot_count := B27,
    m_dot_count := PySem.W.mg_of X G a27,
    f_z_law_filled := F28,
    b_z_law_filled := B28,
    m_z_law_filled := PySem.W.mg_of X G a28,
    f_require_number := F29,
    b_require_number := B29,
    m_require_number := PySem.W.mg_of X G a29,
    f_nth_of_window := F30,
    b_nth_of_window := B30,
    m_nth_of_window := PySem.W.mg_of X G a30,
    f_least_with := F31,
    b_least_with := B31,
    m_least_with := PySem.W.mg_of X G a31,
    f_places_of := F32,
    b_places_of := B32,
    m_places_of := PySem.W.mg_of X G a32,
    f_least_shade := F33,
    b_least_shade := B33,
    m_least_shade := PySem.W.mg_of X G a33,
    f_z_law_level := F34,
    b_z_law_level := B34,
    m_z_law_level := PySem.W.mg_of X G a34,
    f_z_law_levels_v2 := F35,
    b_z_law_levels_v2 := B35,
    m_z_law_levels_v2 := PySem.W.mg_of X G a35,
    f_Picture_ink := F36,
    b_Picture_ink := B36,
    h_Picture_ink := ⟨a36, i36, k36⟩,
    f_Screen_period := F37,
    b_Screen_period := B37,
    p_Screen_period := ⟨p37, a37, b37, d37, _, e37⟩,
    f_Screen_depth := F38,
    b_Screen_depth := B38,
    p_Screen_depth := ⟨p38, a38, b38, d38, _, e38⟩,
    f_Screen_levels := F39,
    b_Screen_levels := B39,
    p_Screen_levels := ⟨p39, a39, b39, d39, _, e39⟩,
    f_first_levels := F40,
    b_first_levels := B40,
    m_first_levels := PySem.W.mg_of X G a40,
    f_Screen_shades := F41,
    b_Screen_shades := B41,
    p_Screen_shades := ⟨p41, a41, b41, d41, _, e41⟩,
    f_is_operation := F42,
    b_is_operation := B42,
    m_is_operation := PySem.W.mg_of X G a42,
    f_Picture_preview := F43,
    b_Picture_preview := B43,
    h_Picture_preview := ⟨a43, i43, k43⟩,
    f_Picture_bands := F44,
    b_Picture_bands := B44,
    p_Picture_bands := ⟨p44, a44, b44, d44, _, e44⟩,
    f_z_law_again := F45,
    b_z_law_again := B45,
    m_z_law_again := PySem.W.mg_of X G a45,
    f_rearranged := F46,
    b_rearranged := B46,
    m_rearranged := PySem.W.mg_of X G a46,
    f_mirrored := F47,
    b_mirrored := B47,
    m_mirrored := PySem.W.mg_of X G a47,
    f_z_law_right := F48,
    b_z_law_right := B48,
    m_z_law_right := PySem.W.mg_of X G a48,
    f_law := F49,
    b_law := B49,
    m_law := PySem.W.mg_of X G a49,
    cf1 := CF1,
    c1 := PySem.W.mg_of X G aC1,
    na_own_limit := nf1own_limit,
    na_own_screen := nf1own_screen,
    na_own_width := nf1own_width,
    na_own_bands := nf1own_bands,
    na_own_calls := nf1own_calls,
    na_own_past := nf1own_past,
    cf0 := CF0,
    c0 := PySem.W.mg_of X G aC0,
    na_own_levels := nf0own_levels,
    xc101 := X101,
    xc107 := X107,
    xc108 := X108,
    xc109 := X109,
    xc110 := X110,
    xc114 := X114,
    xc115 := X115,
    xc117 := X117,
    xf101 := XF101,
    xf107 := XF107,
    gx101 := PySem.W.mg_of X G ax101,
    gx107 := PySem.W.mg_of X G ax107,
    gx108 := PySem.W.mg_of X G ax108,
    gx109 := PySem.W.mg_of X G ax109,
    gx110 := PySem.W.mg_of X G ax110,
    gx114 := PySem.W.mg_of X G ax114,
    gx115 := PySem.W.mg_of X G ax115,
    gx117 := PySem.W.mg_of X G ax117,
    xi108 := xi108,
    xi109 := xi109,
    xi110 := xi110,
    xi114 := xi114,
    xi115 := xi115,
    xi117 := xi117,
    n_all := PySem.W.mg_none_of X G n_all,
    n_bool := PySem.W.mg_none_of X G n_bool,
    n_enumerate := PySem.W.mg_none_of X G n_enumerate,
    n_int := PySem.W.mg_none_of X G n_int,
    n_isinstance := PySem.W.mg_none_of X G n_isinstance,
    n_len := PySem.W.mg_none_of X G n_len,
    n_list := PySem.W.mg_none_of X G n_list,
    n_max := PySem.W.mg_none_of X G n_max,
    n_min := PySem.W.mg_none_of X G n_min,
    n_range := PySem.W.mg_none_of X G n_range,
    n_sorted := PySem.W.mg_none_of X G n_sorted,
    n_str := PySem.W.mg_none_of X G n_str,
    n_sum := PySem.W.mg_none_of X G n_sum,
    n_tuple := PySem.W.mg_none_of X G n_tuple,
    k_SIZES := DctS.of (PySem.W.mg_of X G q_SIZES) (dicW_mk dl_SIZES dk_SIZES dz_SIZES) (by intro p hp; simp only [List.mem_cons, List.not_mem_nil, or_false] at hp; rcases hp with rfl | rfl | rfl; exact ⟨_, di_SIZES0⟩; exact ⟨_, di_SIZES1⟩; exact ⟨_, di_SIZES2⟩),
    k_MOST_LEVELS := ⟨_, PySem.W.mg_of X G q_MOST_LEVELS⟩,
    k_MOST_NUMBER := ⟨_, PySem.W.mg_of X G q_MOST_NUMBER⟩,
    k_MOST_PLACE := ⟨_, PySem.W.mg_of X G q_MOST_PLACE⟩ }
  exact ⟨(fun j => [C0, C1, 0, 0, 0, 0, 0, 0, 0, 0, 0, 0, 0, 0, 0, 0, 0, 0, 0, 0, 0, 0, 0, 0, 0, 0, 0, 0, 0, 0, 0, 0, 0, 0, 0, 0, 0, 0, 0, 0, 0, 0, 0, 0, 0, 0, 0, 0, 0, 0, 0, 0, 0, 0, 0, 0, 0, 0, 0, 0, 0, 0, 0, 0, 0, 0, 0, 0, 0, 0, 0, 0, 0, 0, 0, 0, 0, 0, 0, 0, 0, 0, 0, 0, 0, 0, 0, 0, 0, 0, 0, 0, 0, 0, 0, 0, 0, 0, 0, 0, C100, C101, 0, 0, 0, 0, 0, C107, C108, C109, C110, 0, 0, 0, C114, C115, 0, C117, 0, 0].getD j 0), (fun j => [f0, f1, f2, f3, f4, f5, f6, f7, f8, f9, f10, f11, f12, f13, f14, f15, f16, f17, f18, f19, f20, f21, f22, f23, f24, f25, f26, f27, f28, f29, f30, f31, f32, f33, f34, f35, f36, f37, f38, f39, f40, f41, f42, f43, f44, f45, f46, f47, f48, f49].getD j 0), (PySem.W.fnOf "law" "law" (defArgs (top 67)) (defBody (top 67)) (defScope (top 67)) .none kV49 dc49 pm49 an49 cd49 ct49), (fun s v => .of_eq rfl), fun base _ _ => ok_law T⟩
theorem walk {l : PySem.W.OpenLaw} {q : Program} {loose : List Str} {XP : (Str → Option Value) → Heap → Prop} {YP : World → Heap → Prop} {d : DefRec} {K : Params → PySem.W.Frag} (hn : l.most = some 63) (hdf : d.params.defaults = [])
    (hY : ∀ (w : World) (h : Heap), YP w h → (K w.params).In h)
    (F : ∀ (w : World) (mg : Str → Option Value) (fa : Addr) (h : Heap), (K w.params).In h → h.Ns mainGlobals mg → mg d.name = some (.ref fa) →
      ∃ (cls fna : Nat → Addr) (fd : FuncData), (∀ (s : Shared) (u : Value), BindsTo s fd ⟨[u], []⟩ [("script", u)]) ∧ ∀ base : Heap, (K w.params).In base → base.Ns mainGlobals mg → FnG l.prog w (K w.params) mg base 11 fa fd ["script"] (spF ⟨K w.params, cls, fna⟩ 1 s_law)) :
    PySem.W.WalkO q loose XP YP l.row.toRowW d [] (fun f vs => PySem.call f vs) :=
  walk_ofG (k := 11) (x := "script") hn (by decide) hdf ⟨rfl, by decide, by decide⟩ hY F law_true
end K70
open PySem PySem.W PyProof.Rows
set_option maxRecDepth 100000 in
set_option maxHeartbeats 0 in
theorem PySem.Challenge.cw_ditherdepths_k70_whole_pictures_and_dots_holds : PySem.Challenge.rw_ditherdepths_k70_whole_pictures_and_dots.Holds := by
  w_on; o_law; k_head; (case hw => w_witness2)
  k_fill
  refine K70.walk (l := PySem.Challenge.rw_ditherdepths_k70_whole_pictures_and_dots) rfl rfl (fun w h Y => PySem.W.kIn_of Y) ?F
  case F =>
    intro w mg fa h KX G hmg
    refine' K70.all_mk KX G hmg ?aC1 ?pg1 ?hd1 ?po1 ?sa1 ?mk1 ?kc1 ?ha1 ?hn1 ?tk1 ?mro1 ?ty1 ?y1bool ?y1int ?y1str ?y1tuple ?y1list ?y1dict ?z1NoneType ?z1bool ?z1int ?z1str ?z1tuple ?z1list ?z1dict ?nf1own_limit ?nf1own_screen ?nf1own_width ?nf1own_bands ?nf1own_calls ?nf1own_past ?aC0 ?pg0 ?hd0 ?po0 ?sa0 ?mk0 ?kc0 ?ha0 ?hn0 ?tk0 ?mro0 ?ty0 ?y0bool ?y0int ?y0str ?y0tuple ?y0list ?y0dict ?z0NoneType ?z0bool ?z0int ?z0str ?z0tuple ?z0list ?z0dict ?nf0own_levels ?ax101 ?xo101 ?xa101 ?xg101 ?xh101 ?xk101 ?xs101 ?xn101 ?xd101 ?xt101 ?xf101 ?xl101 ?xc101 ?ax107 ?xo107 ?xa107 ?xg107 ?xh107 ?xk107 ?xs107 ?xn107 ?xd107 ?xt107 ?xf107 ?xl107 ?xc107 ?ax108 ?xo108 ?xa108 ?xg108 ?xh108 ?xk108 ?xi108 ?ax109 ?xo109 ?xa109 ?xg109 ?xh109 ?xk109 ?xi109 ?ax110 ?xo110 ?xa110 ?xg110 ?xh110 ?xk110 ?xi110 ?ax114 ?xo114 ?xa114 ?xg114 ?xh114 ?xk114 ?xi114 ?ax115 ?xo115 ?xa115 ?xg115 ?xh115 ?xk115 ?xi115 ?ax117 ?xo117 ?xa117 ?xg117 ?xh117 ?xk117 ?xi117 ?a0 ?l0 ?c0 ?k0 ?a1 ?l1 ?c1 ?k1 ?a2 ?l2 ?c2 ?k2 ?a3 ?i3 ?l3 ?c3 ?k3 ?a4 ?l4 ?c4 ?k4 ?a5 ?l5 ?c5 ?k5 ?a6 ?i6 ?l6 ?c6 ?k6 ?a7 ?l7 ?c7 ?k7 ?a8 ?l8 ?c8 ?k8 ?a9 ?l9 ?c9 ?k9 ?a10 ?l10 ?c10 ?k10 ?a11 ?l11 ?c11 ?k11 ?a12 ?l12 ?c12 ?k12 ?a13 ?l13 ?c13 ?k13 ?a14 ?l14 ?c14 ?k14 ?a15 ?l15 ?c15 ?k15 ?a16 ?l16 ?c16 ?k16 ?a17 ?l17 ?c17 ?k17 ?a18 ?l18 ?c18 ?k18 ?a19 ?i19 ?l19 ?c19 ?k19 ?a20 ?i20 ?l20 ?c20 ?k20 ?a21 ?i21 ?l21 ?c21 ?k21 ?a22 ?l22 ?c22 ?k22 ?a23 ?b23 ?d23 ?e23 ?l23 ?c23 ?k23 ?a24 ?l24 ?c24 ?k24 ?a25 ?l25 ?c25 ?k25 ?a26 ?l26 ?c26 ?k26 ?a27 ?l27 ?c27 ?k27 ?a28 ?l28 ?c28 ?k28 ?a29 ?l29 ?c29 ?k29 ?a30 ?l30 ?c30 ?k30 ?a31 ?l31 ?c31 ?k31 ?a32 ?l32 ?c32 ?k32 ?a33 ?l33 ?c33 ?k33 ?a34 ?l34 ?c34 ?k34 ?a35 ?l35 ?c35 ?k35 ?a36 ?i36 ?l36 ?c36 ?k36 ?a37 ?b37 ?d37 ?e37 ?l37 ?c37 ?k37 ?a38 ?b38 ?d38 ?e38 ?l38 ?c38 ?k38 ?a39 ?b39 ?d39 ?e39 ?l39 ?c39 ?k39 ?a40 ?l40 ?c40 ?k40 ?a41 ?b41 ?d41 ?e41 ?l41 ?c41 ?k41 ?a42 ?l42 ?c42 ?k42 ?a43 ?i43 ?l43 ?c43 ?k43 ?a44 ?b44 ?d44 ?e44 ?l44 ?c44 ?k44 ?a45 ?l45 ?c45 ?k45 ?a46 ?l46 ?c46 ?k46 ?a47 ?l47 ?c47 ?k47 ?a48 ?l48 ?c48 ?k48 ?a49 ?l49 ?c49 ?k49 ?n_all ?n_bool ?n_enumerate ?n_int ?n_isinstance ?n_len ?n_list ?n_max ?n_min ?n_range ?n_sorted ?n_str ?n_sum ?n_tuple ?q_MOST_LEVELS ?q_MOST_NUMBER ?q_MOST_PLACE ?q_SIZES ?dl_SIZES ?dk_SIZES ?dz_SIZES ?di_SIZES0 ?di_SIZES1 ?di_SIZES2
    (case aC1 => k_is)
    (case pg1 => k_is)
    (case hd1 => k_is)
    (case po1 => k_is)
    (case sa1 => k_is)
    (case mk1 => k_is)
    (case kc1 => k_is)
    (case ha1 => k_is)
    (case hn1 => k_is)
    (case tk1 => k_is)
    (case mro1 => k_is)
    (case ty1 => k_is)
    (case y1bool => k_is)
    (case y1int => k_is)
    (case y1str => k_is)
    (case y1tuple => k_is)
    (case y1list => k_is)
    (case y1dict => k_is)
    (case z1NoneType => k_is)
    (case z1bool => k_is)
    (case z1int => k_is)
    (case z1str => k_is)
    (case z1tuple => k_is)
    (case z1list => k_is)
    (case z1dict => k_is)
    (case nf1own_limit => k_is)
    (case nf1own_screen => k_is)
    (case nf1own_width => k_is)
    (case nf1own_bands => k_is)
    (case nf1own_calls => k_is)
    (case nf1own_past => k_is)
    (case aC0 => k_is)
    (case pg0 => k_is)
    (case hd0 => k_is)
    (case po0 => k_is)
    (case sa0 => k_is)
    (case mk0 => k_is)
    (case kc0 => k_is)
    (case ha0 => k_is)
    (case hn0 => k_is)
    (case tk0 => k_is)
    (case mro0 => k_is)
    (case ty0 => k_is)
    (case y0bool => k_is)
    (case y0int => k_is)
    (case y0str => k_is)
    (case y0tuple => k_is)
    (case y0list => k_is)
    (case y0dict => k_is)
    (case z0NoneType => k_is)
    (case z0bool => k_is)
    (case z0int => k_is)
    (case z0str => k_is)
    (case z0tuple => k_is)
    (case z0list => k_is)
    (case z0dict => k_is)
    (case nf0own_levels => k_is)
    (case ax101 => k_is)
    (case xo101 => k_is)
    (case xa101 => k_is)
    (case xg101 => k_is)
    (case xh101 => k_is)
    (case xk101 => k_is)
    (case xs101 => k_is)
    (case xn101 => k_is)
    (case xd101 => k_is)
    (case xt101 => k_is)
    (case xf101 => k_is)
    (case xl101 => k_is)
    (case xc101 => k_is)
    (case ax107 => k_is)
    (case xo107 => k_is)
    (case xa107 => k_is)
    (case xg107 => k_is)
    (case xh107 => k_is)
    (case xk107 => k_is)
    (case xs107 => k_is)
    (case xn107 => k_is)
    (case xd107 => k_is)
    (case xt107 => k_is)
    (case xf107 => k_is)
    (case xl107 => k_is)
    (case xc107 => k_is)
    (case ax108 => k_is)
    (case xo108 => k_is)
    (case xa108 => k_is)
    (case xg108 => k_is)
    (case xh108 => k_is)
    (case xk108 => k_is)
    (case xi108 => k_exc)
    (case ax109 => k_is)
    (case xo109 => k_is)
    (case xa109 => k_is)
    (case xg109 => k_is)
    (case xh109 => k_is)
    (case xk109 => k_is)
    (case xi109 => k_exc)
    (case ax110 => k_is)
    (case xo110 => k_is)
    (case xa110 => k_is)
    (case xg110 => k_is)
    (case xh110 => k_is)
    (case xk110 => k_is)
    (case xi110 => k_exc)
    (case ax114 => k_is)
    (case xo114 => k_is)
    (case xa114 => k_is)
    (case xg114 => k_is)
    (case xh114 => k_is)
    (case xk114 => k_is)
    (case xi114 => k_exc)
    (case ax115 => k_is)
    (case xo115 => k_is)
    (case xa115 => k_is)
    (case xg115 => k_is)
    (case xh115 => k_is)
    (case xk115 => k_is)
    (case xi115 => k_exc)
    (case ax117 => k_is)
    (case xo117 => k_is)
    (case xa117 => k_is)
    (case xg117 => k_is)
    (case xh117 => k_is)
    (case xk117 => k_is)
    (case xi117 => k_exc)
    (case a0 => k_is)
    (case l0 => k_is)
    (case c0 => k_is)
    (case k0 => k_is)
    (case a1 => k_is)
    (case l1 => k_is)
    (case c1 => k_is)
    (case k1 => k_is)
    (case a2 => k_is)
    (case l2 => k_is)
    (case c2 => k_is)
    (case k2 => k_is)
    (case a3 => k_is)
    (case i3 => k_is)
    (case l3 => k_is)
    (case c3 => k_is)
    (case k3 => k_is)
    (case a4 => k_is)
    (case l4 => k_is)
    (case c4 => k_is)
    (case k4 => k_is)
    (case a5 => k_is)
    (case l5 => k_is)
    (case c5 => k_is)
    (case k5 => k_is)
    (case a6 => k_is)
    (case i6 => k_is)
    (case l6 => k_is)
    (case c6 => k_is)
    (case k6 => k_is)
    (case a7 => k_is)
    (case l7 => k_is)
    (case c7 => k_is)
    (case k7 => k_is)
    (case a8 => k_is)
    (case l8 => k_is)
    (case c8 => k_is)
    (case k8 => k_is)
    (case a9 => k_is)
    (case l9 => k_is)
    (case c9 => k_is)
    (case k9 => k_is)
    (case a10 => k_is)
    (case l10 => k_is)
    (case c10 => k_is)
    (case k10 => k_is)
    (case a11 => k_is)
    (case l11 => k_is)
    (case c11 => k_is)
    (case k11 => k_is)
    (case a12 => k_is)
    (case l12 => k_is)
    (case c12 => k_is)
    (case k12 => k_is)
    (case a13 => k_is)
    (case l13 => k_is)
    (case c13 => k_is)
    (case k13 => k_is)
    (case a14 => k_is)
    (case l14 => k_is)
    (case c14 => k_is)
    (case k14 => k_is)
    (case a15 => k_is)
    (case l15 => k_is)
    (case c15 => k_is)
    (case k15 => k_is)
    (case a16 => k_is)
    (case l16 => k_is)
    (case c16 => k_is)
    (case k16 => k_is)
    (case a17 => k_is)
    (case l17 => k_is)
    (case c17 => k_is)
    (case k17 => k_is)
    (case a18 => k_is)
    (case l18 => k_is)
    (case c18 => k_is)
    (case k18 => k_is)
    (case a19 => k_is)
    (case i19 => k_is)
    (case l19 => k_is)
    (case c19 => k_is)
    (case k19 => k_is)
    (case a20 => k_is)
    (case i20 => k_is)
    (case l20 => k_is)
    (case c20 => k_is)
    (case k20 => k_is)
    (case a21 => k_is)
    (case i21 => k_is)
    (case l21 => k_is)
    (case c21 => k_is)
    (case k21 => k_is)
    (case a22 => k_is)
    (case l22 => k_is)
    (case c22 => k_is)
    (case k22 => k_is)
    (case a23 => k_is)
    (case b23 => k_is)
    (case d23 => k_is)
    (case e23 => k_is)
    (case l23 => k_is)
    (case c23 => k_is)
    (case k23 => k_is)
    (case a24 => k_is)
    (case l24 => k_is)
    (case c24 => k_is)
    (case k24 => k_is)
    (case a25 => k_is)
    (case l25 => k_is)
    (case c25 => k_is)
    (case k25 => k_is)
    (case a26 => k_is)
    (case l26 => k_is)
    (case c26 => k_is)
    (case k26 => k_is)
    (case a27 => k_is)
    (case l27 => k_is)
    (case c27 => k_is)
    (case k27 => k_is)
    (case a28 => k_is)
    (case l28 => k_is)
    (case c28 => k_is)
    (case k28 => k_is)
    (case a29 => k_is)
    (case l29 => k_is)
    (case c29 => k_is)
    (case k29 => k_is)
    (case a30 => k_is)
    (case l30 => k_is)
    (case c30 => k_is)
    (case k30 => k_is)
    (case a31 => k_is)
    (case l31 => k_is)
    (case c31 => k_is)
    (case k31 => k_is)
    (case a32 => k_is)
    (case l32 => k_is)
    (case c32 => k_is)
    (case k32 => k_is)
    (case a33 => k_is)
    (case l33 => k_is)
    (case c33 => k_is)
    (case k33 => k_is)
    (case a34 => k_is)
    (case l34 => k_is)
    (case c34 => k_is)
    (case k34 => k_is)
    (case a35 => k_is)
    (case l35 => k_is)
    (case c35 => k_is)
    (case k35 => k_is)
    (case a36 => k_is)
    (case i36 => k_is)
    (case l36 => k_is)
    (case c36 => k_is)
    (case k36 => k_is)
    (case a37 => k_is)
    (case b37 => k_is)
    (case d37 => k_is)
    (case e37 => k_is)
    (case l37 => k_is)
    (case c37 => k_is)
    (case k37 => k_is)
    (case a38 => k_is)
    (case b38 => k_is)
    (case d38 => k_is)
    (case e38 => k_is)
    (case l38 => k_is)
    (case c38 => k_is)
    (case k38 => k_is)
    (case a39 => k_is)
    (case b39 => k_is)
    (case d39 => k_is)
    (case e39 => k_is)
    (case l39 => k_is)
    (case c39 => k_is)
    (case k39 => k_is)
    (case a40 => k_is)
    (case l40 => k_is)
    (case c40 => k_is)
    (case k40 => k_is)
    (case a41 => k_is)
    (case b41 => k_is)
    (case d41 => k_is)
    (case e41 => k_is)
    (case l41 => k_is)
    (case c41 => k_is)
    (case k41 => k_is)
    (case a42 => k_is)
    (case l42 => k_is)
    (case c42 => k_is)
    (case k42 => k_is)
    (case a43 => k_is)
    (case i43 => k_is)
    (case l43 => k_is)
    (case c43 => k_is)
    (case k43 => k_is)
    (case a44 => k_is)
    (case b44 => k_is)
    (case d44 => k_is)
    (case e44 => k_is)
    (case l44 => k_is)
    (case c44 => k_is)
    (case k44 => k_is)
    (case a45 => k_is)
    (case l45 => k_is)
    (case c45 => k_is)
    (case k45 => k_is)
    (case a46 => k_is)
    (case l46 => k_is)
    (case c46 => k_is)
    (case k46 => k_is)
    (case a47 => k_is)
    (case l47 => k_is)
    (case c47 => k_is)
    (case k47 => k_is)
    (case a48 => k_is)
    (case l48 => k_is)
    (case c48 => k_is)
    (case k48 => k_is)
    (case a49 => k_is)
    (case l49 => k_is)
    (case c49 => k_is)
    (case k49 => k_is)
    (case n_all => k_is)
    (case n_bool => k_is)
    (case n_enumerate => k_is)
    (case n_int => k_is)
    (case n_isinstance => k_is)
    (case n_len => k_is)
    (case n_list => k_is)
    (case n_max => k_is)
    (case n_min => k_is)
    (case n_range => k_is)
    (case n_sorted => k_is)
    (case n_str => k_is)
    (case n_sum => k_is)
    (case n_tuple => k_is)
    (case q_MOST_LEVELS => k_is)
    (case q_MOST_NUMBER => k_is)
    (case q_MOST_PLACE => k_is)
    (case q_SIZES => k_is)
    (case dl_SIZES => k_is)
    (case dk_SIZES => rfl)
    (case dz_SIZES => rfl)
    (case di_SIZES0 => k_is)
    (case di_SIZES1 => k_is)
    (case di_SIZES2 => k_is)
#print axioms PySem.Challenge.cw_ditherdepths_k70_whole_pictures_and_dots_holds
