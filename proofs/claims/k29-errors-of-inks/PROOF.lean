import PyProof.Rows.All
import Wide.All
import OpenK.AllK
import Wide.FinOn
import HandS.ForExc
import HandS.Comp
import HandS.Iter
import HandS.Dict
import HandS.Text
import HandS.Property
import HandS.Conv
import HandS.Style
import HandS.Wide
import HandS.WideBits
import HandS.Zip
import HandS.Strs
import HandS.Deep
import HandS.DeepEq
import HandS.IsInst
import HandS.TupAny
import HandS.RaiseMore
import KE.GoesMore
import PyProof.LongRange
import PyProof.ReprRoads
import KE.KeyNested
import PyProof.DictRoadsH
import HandS.SortInts
import HandS.TryOnly
import HandS.Ends
import HandS.Star
import HandS.SetFor
import KE.DataMinMax
import PyProof.Rows.RowBridgeK
import KE.KRevSl
import HandS.Replace
import KE.SortData
import KE.KDictDisplayH
import HandS.DictTup
import KE.GoesZip
import HandS.Zip0
import HandS.TupLe
import PyProof.NeKinds
import KE.KExcIs
import HandS.ExcValue
import HandS.Spec
import PySem.Challenge.RW_ditherdepths_k29_errors_of_inks
set_option Elab.async false
set_option linter.all false
set_option maxRecDepth 100000
/-! a semantic layer: pure data, store cells, outcomes -/
namespace Dd
open PySem PySem.Spec PyProof.Rows L2

/-- pure data -/
inductive D where
  | non | bl (b : Bool) | int (i : Int) | str (s : Str)
  | tup (l : List D) | lst (l : List D) | scr (l : List D) | edct
  | exn (k : Nat) (f : D) | scp (l : List D)
  deriving Inhabited
/-- a value: pure, or a cell of the store -/
inductive R where
  | p (d : D) | r (n : Nat)
  deriving Inhabited
/-- what a cell holds -/
inductive Con where
  | lst (l : List D) | dct (kvs : List (D × D)) | obj (k : Nat) (fs : List (Str × D)) | dt (kvs : List (D × D))
inductive Cell where
  | mu (o : Con) | fz (l : List D) | dead
abbrev Store := List Cell
structure Sg where
  sl : List (Option R)
  st : Store
/-- an own exception: its class's number, its field -/
structure Xn where
  k : Nat
  f : D
inductive Res (α : Type) where
  | ok (a : α) (S : Sg) | exc (x : Xn) (S : Sg) | bad
abbrev M (α : Type) := Sg → Res α
def M.pure {α : Type} (a : α) : M α := fun S => .ok a S
def M.bind {α β : Type} (f : M α) (g : α → M β) : M β := fun S => match f S with
  | .ok a S' => g a S'
  | .exc x S' => .exc x S'
  | .bad => .bad
instance : Monad M := { pure := M.pure, bind := M.bind }
def bad {α : Type} : M α := fun _ => .bad
def raiseX {α : Type} (x : Xn) : M α := fun S => .exc x S
section
variable {α β : Type}
theorem bind_ap (f : M α) (g : α → M β) (S : Sg) : (f >>= g) S = (match f S with | .ok a S' => g a S' | .exc x S' => .exc x S' | .bad => .bad) := rfl
theorem bind_ok {f : M α} {g : α → M β} {S S' : Sg} {a : α} (h : f S = .ok a S') : (f >>= g) S = g a S' := by rw [bind_ap, h]
theorem bind_exc {f : M α} {g : α → M β} {S S' : Sg} {x : Xn} (h : f S = .exc x S') : (f >>= g) S = .exc x S' := by rw [bind_ap, h]
theorem bind_bad {f : M α} {g : α → M β} {S : Sg} (h : f S = .bad) : (f >>= g) S = .bad := by rw [bind_ap, h]
end

/-- the static context: the written part, the classes by number -/
structure Cg where
  K : PySem.W.Frag
  cls : Nat → Addr
/-- ghosts: G what never changes any more, L what others keep, ρ where the cells stand -/
structure Gh where
  G : Hp
  L : Hp
  ρ : List Addr
def Ext (H H' : Hp) : Prop := ∀ a o, H a = some o → H' a = some o
theorem Ext.refl {H : Hp} : Ext H H := fun _ _ h => h
theorem Ext.trans {H H1 H2 : Hp} (a : Ext H H1) (b : Ext H1 H2) : Ext H H2 := fun c o h => b c o (a c o h)
theorem Ext.upd {H : Hp} {p : Addr} {o : HO} (h : H p = none) : Ext H (upd H p o) := fun a u e => by rw [upd_ne (ne_of_none e h)]; exact e
theorem Ext.none {H H' : Hp} (e : Ext H H') {a : Addr} (h : H' a = none) : H a = none := by
  cases q : H a with
  | none => rfl
  | some o => rw [e _ _ q] at h; cases h
structure Gh.le (Γ Γ' : Gh) : Prop where
  g : Ext Γ.G Γ'.G
  l : Γ'.L = Γ.L
  r : ∃ t, Γ'.ρ = Γ.ρ ++ t
theorem Gh.le.refl {Γ : Gh} : Γ.le Γ := ⟨Ext.refl, rfl, [], by simp⟩
theorem Gh.le.trans {Γ Γ1 Γ2 : Gh} (a : Γ.le Γ1) (b : Γ1.le Γ2) : Γ.le Γ2 :=
  ⟨a.g.trans b.g, b.l.trans a.l, by
    obtain ⟨t, e⟩ := a.r
    obtain ⟨u, e'⟩ := b.r
    exact ⟨t ++ u, by rw [e', e, List.append_assoc]⟩⟩
theorem Gh.le.at {Γ Γ' : Gh} (h : Γ.le Γ') {n : Nat} {a : Addr} (e : Γ.ρ[n]? = some a) : Γ'.ρ[n]? = some a := by
  obtain ⟨t, q⟩ := h.r
  rw [q, List.getElem?_append_left (List.getElem?_eq_some_iff.mp e).1]
  exact e

/-- .. whatever others keep -/
structure Gh.sub (Γ Γ' : Gh) : Prop where
  g : Ext Γ.G Γ'.G
  r : ∃ t, Γ'.ρ = Γ.ρ ++ t
theorem Gh.le.sub {Γ Γ' : Gh} (h : Γ.le Γ') : Γ.sub Γ' := ⟨h.g, h.r⟩
theorem Gh.sub.trans {Γ Γ1 Γ2 : Gh} (a : Γ.sub Γ1) (b : Γ1.sub Γ2) : Γ.sub Γ2 :=
  ⟨a.g.trans b.g, by
    obtain ⟨t, e⟩ := a.r
    obtain ⟨u, e'⟩ := b.r
    exact ⟨t ++ u, by rw [e', e, List.append_assoc]⟩⟩
theorem Gh.sub.at {Γ Γ' : Gh} (h : Γ.sub Γ') {n : Nat} {a : Addr} (e : Γ.ρ[n]? = some a) : Γ'.ρ[n]? = some a := by
  obtain ⟨t, q⟩ := h.r
  rw [q, List.getElem?_append_left (List.getElem?_eq_some_iff.mp e).1]
  exact e
/-! ### data and values -/
/-- a tuple that is known to have no dict -/
def TupS (K : PySem.W.Frag) (G : Hp) (a : Addr) (vs : List V) : Prop :=
  (∃ o : Obj, G a = some (.frz o (.tup vs)) ∧ o.dict = none) ∨
    ∃ (o : Obj) (its : Array Value) (n : Nat), K.lookup a = some o ∧ o.cls = .type "tuple" ∧ o.dict = none ∧ o.data = .seq its n ∧ its.size ≤ sizeLine ∧ Vals vs its.toList
theorem TupS.sq {K : PySem.W.Frag} {G : Hp} {a : Addr} {vs : List V} (h : TupS K G a vs) : SqT K G a vs := by
  rcases h with ⟨o, h, _⟩ | ⟨o, its, n, h1, h2, _, h3, h4, h5⟩
  · exact .inl (.inr ⟨o, h⟩)
  · exact .inr ⟨o, its, n, h1, h2, h3, h4, h5⟩
theorem TupS.mono {K : PySem.W.Frag} {H H' : Hp} (e : Ext H H') {a : Addr} {xs : List V} (h : TupS K H a xs) : TupS K H' a xs := by
  rcases h with ⟨o, h, k⟩ | h
  · exact .inl ⟨o, e _ _ h, k⟩
  · exact .inr h
/-- the attribute of an own exception, by its class's number -/
def fldN (k : Nat) : Str := if k = 101 then "level" else if k = 105 then "part" else if k = 106 then "most" else if k = 107 then "count" else "item"
/-- an own exception's object at a -/
def ExV (cls : Value) (d : Option Addr) (a : Addr) : HO := .ext fun h => ∃ o fs, h.get? a = some o ∧ o.cls = cls ∧ o.dict = d ∧ o.data = .fields fs
theorem ExV_ok {P : Program} {w : World} {H : Hp} {h : Heap} {a : Addr} {cls : Value} {d : Option Addr} {o : Obj} {fs : Array Value} (e : h.get? a = some o) (h1 : o.cls = cls) (h2 : o.dict = d) (h3 : o.data = .fields fs) : ObjOk P w H h a (ExV cls d a) :=
  ⟨⟨o, fs, e, h1, h2, h3⟩, ⟨o, e⟩, fun _ _ ⟨o', fs', e', q1, q2, q3⟩ k => ⟨o', fs', k _ e', q1, q2, q3⟩⟩
theorem ExV_at {P : Program} {w : World} {H : Hp} {h : Heap} {a : Addr} {cls : Value} {d : Option Addr} (hok : HOk P w H h) (e : H a = some (ExV cls d a)) : ∃ o fs, h.get? a = some o ∧ o.cls = cls ∧ o.dict = d ∧ o.data = .fields fs := by
  have x : ObjOk P w H h a (.ext fun h => ∃ o fs, h.get? a = some o ∧ o.cls = cls ∧ o.dict = d ∧ o.data = .fields fs) := hok a _ e
  exact x.1
mutual
def Rep (c : Cg) (G : Hp) : D → V → Prop
  | .non, v => v = .non
  | .bl b, v => v = .bl b
  | .int i, v => v = .int i
  | .str s, v => v = .str s
  | .tup l, v => ∃ a vs, v = .ref a ∧ TupS c.K G a vs ∧ RepL c G l vs
  | .lst l, v => ∃ a vs, v = .ref a ∧ G a = some (.lst vs) ∧ RepL c G l vs
  | .scp l, v => ∃ a vs, v = .ref a ∧ SqL c.K G a vs ∧ RepL c G l vs
  | .scr l, v => ∃ a dx b vs, v = .ref a ∧ G a = some (.ins (c.cls 0) dx [("own_levels", .ref b)]) ∧ TupS c.K G b vs ∧ RepL c G l vs
  | .edct, v => ∃ a, v = .ref a ∧ G a = some (.dK [])
  | .exn k f, v => ∃ a d, v = .ref a ∧ G a = some (ExV (.ref (c.cls k)) d a) ∧
      ((d = none ∧ f = .non ∧ (k ≤ 100 ∨ 108 ≤ k)) ∨ ∃ dx u, d = some dx ∧ G dx = some (.xd [(fldN k, u)]) ∧ Rep c G f u)
def RepL (c : Cg) (G : Hp) : List D → List V → Prop
  | [], vs => vs = []
  | d :: ds, vs => ∃ v r, vs = v :: r ∧ Rep c G d v ∧ RepL c G ds r
end
theorem SqL.mono {K : PySem.W.Frag} {H H' : Hp} (e : Ext H H') {a : Addr} {xs : List V} (h : SqL K H a xs) : SqL K H' a xs := by
  rcases h with (h | ⟨o, h⟩) | h
  · exact .inl (.inl (e _ _ h))
  · exact .inl (.inr ⟨o, e _ _ h⟩)
  · exact .inr h
theorem SqT.mono {K : PySem.W.Frag} {H H' : Hp} (e : Ext H H') {a : Addr} {xs : List V} (h : SqT K H a xs) : SqT K H' a xs := by
  rcases h with (h | ⟨o, h⟩) | h
  · exact .inl (.inl (e _ _ h))
  · exact .inl (.inr ⟨o, e _ _ h⟩)
  · exact .inr h
mutual
theorem Rep.mono {c : Cg} {G G' : Hp} (e : Ext G G') : ∀ {d : D} {v : V}, Rep c G d v → Rep c G' d v
  | .non, v, h => h
  | .bl b, v, h => h
  | .int i, v, h => h
  | .str s, v, h => h
  | .tup l, v, h => by
    unfold Rep at h ⊢
    obtain ⟨a, vs, h1, h2, h3⟩ := h
    exact ⟨a, vs, h1, TupS.mono e h2, RepL.mono e h3⟩
  | .lst l, v, h => by
    unfold Rep at h ⊢
    obtain ⟨a, vs, h1, h2, h3⟩ := h
    exact ⟨a, vs, h1, e _ _ h2, RepL.mono e h3⟩
  | .scp l, v, h => by
    unfold Rep at h ⊢
    obtain ⟨a, vs, h1, h2, h3⟩ := h
    exact ⟨a, vs, h1, SqL.mono e h2, RepL.mono e h3⟩
  | .scr l, v, h => by
    unfold Rep at h ⊢
    obtain ⟨a, dx, b, vs, h1, h2, h3, h4⟩ := h
    exact ⟨a, dx, b, vs, h1, e _ _ h2, TupS.mono e h3, RepL.mono e h4⟩
  | .edct, v, h => by
    unfold Rep at h ⊢
    obtain ⟨a, h1, h2⟩ := h
    exact ⟨a, h1, e _ _ h2⟩
  | .exn k f, v, h => by
    unfold Rep at h ⊢
    obtain ⟨a, d, h1, h2, h3⟩ := h
    refine ⟨a, d, h1, e _ _ h2, ?_⟩
    rcases h3 with h3 | ⟨dx, u, h3, h4, h5⟩
    · exact .inl h3
    · exact .inr ⟨dx, u, h3, e _ _ h4, Rep.mono e h5⟩
theorem RepL.mono {c : Cg} {G G' : Hp} (e : Ext G G') : ∀ {l : List D} {vs : List V}, RepL c G l vs → RepL c G' l vs
  | [], vs, h => by unfold RepL at h ⊢; exact h
  | d :: ds, vs, h => by
    unfold RepL at h ⊢
    obtain ⟨v, r, h1, h2, h3⟩ := h
    exact ⟨v, r, h1, Rep.mono e h2, RepL.mono e h3⟩
end
section
variable {c : Cg} {G : Hp}
theorem RepL.nil_iff {vs : List V} : RepL c G [] vs ↔ vs = [] := by unfold RepL; exact Iff.rfl
theorem RepL.cons_iff {d : D} {ds : List D} {vs : List V} : RepL c G (d :: ds) vs ↔ ∃ v r, vs = v :: r ∧ Rep c G d v ∧ RepL c G ds r := by
  constructor
  · intro h; unfold RepL at h; exact h
  · intro h; unfold RepL; exact h
theorem RepL.nil : RepL c G [] [] := RepL.nil_iff.mpr rfl
theorem RepL.cons {d : D} {ds : List D} {v : V} {vs : List V} (h : Rep c G d v) (t : RepL c G ds vs) : RepL c G (d :: ds) (v :: vs) := RepL.cons_iff.mpr ⟨v, vs, rfl, h, t⟩
theorem RepL.length : ∀ {ds : List D} {vs : List V}, RepL c G ds vs → vs.length = ds.length
  | [], vs, h => by rw [RepL.nil_iff.mp h]; rfl
  | d :: ds, vs, h => by
    obtain ⟨v, r, rfl, _, t⟩ := RepL.cons_iff.mp h
    simp [RepL.length t]
theorem RepL.get : ∀ {ds : List D} {vs : List V} {i : Nat} {d : D}, RepL c G ds vs → ds[i]? = some d → ∃ v, vs[i]? = some v ∧ Rep c G d v
  | [], vs, i, d, h, e => by simp at e
  | d' :: ds, vs, i, d, h, e => by
    obtain ⟨v, r, rfl, h1, t⟩ := RepL.cons_iff.mp h
    cases i with
    | zero => simp at e; subst e; exact ⟨v, rfl, h1⟩
    | succ i => exact RepL.get (i := i) t (by simpa using e)
theorem RepL.append : ∀ {ds es : List D} {vs ws : List V}, RepL c G ds vs → RepL c G es ws → RepL c G (ds ++ es) (vs ++ ws)
  | [], es, vs, ws, h, k => by rw [RepL.nil_iff.mp h]; exact k
  | d :: ds, es, vs, ws, h, k => by
    obtain ⟨v, r, rfl, h1, t⟩ := RepL.cons_iff.mp h
    exact RepL.cons h1 (RepL.append t k)
theorem RepL.one {d : D} {v : V} (h : Rep c G d v) : RepL c G [d] [v] := RepL.cons h RepL.nil
theorem RepL.set : ∀ {ds : List D} {vs : List V} {d : D} {v : V} (i : Nat), RepL c G ds vs → Rep c G d v → RepL c G (ds.set i d) (vs.set i v)
  | [], vs, d, v, i, h, k => by rw [RepL.nil_iff.mp h]; exact RepL.nil
  | d' :: ds, vs, d, v, i, h, k => by
    obtain ⟨v', r, rfl, h1, t⟩ := RepL.cons_iff.mp h
    cases i with
    | zero => exact RepL.cons k t
    | succ i => exact RepL.cons h1 (RepL.set i t k)
theorem RepL.take : ∀ {ds : List D} {vs : List V} (n : Nat), RepL c G ds vs → RepL c G (ds.take n) (vs.take n)
  | _, _, 0, _ => by simp; exact RepL.nil
  | [], vs, n + 1, h => by rw [RepL.nil_iff.mp h]; exact RepL.nil
  | d :: ds, vs, n + 1, h => by
    obtain ⟨v, r, rfl, h1, t⟩ := RepL.cons_iff.mp h
    exact RepL.cons h1 (RepL.take n t)
theorem RepL.drop : ∀ {ds : List D} {vs : List V} (n : Nat), RepL c G ds vs → RepL c G (ds.drop n) (vs.drop n)
  | _, _, 0, h => by simpa using h
  | [], vs, n + 1, h => by rw [RepL.nil_iff.mp h]; exact RepL.nil
  | d :: ds, vs, n + 1, h => by
    obtain ⟨v, r, rfl, h1, t⟩ := RepL.cons_iff.mp h
    exact RepL.drop n t
theorem RepL.eraseIdx : ∀ {ds : List D} {vs : List V} (i : Nat), RepL c G ds vs → RepL c G (ds.eraseIdx i) (vs.eraseIdx i)
  | [], vs, i, h => by rw [RepL.nil_iff.mp h]; exact RepL.nil
  | d :: ds, vs, i, h => by
    obtain ⟨v, r, rfl, h1, t⟩ := RepL.cons_iff.mp h
    cases i with
    | zero => exact t
    | succ i => exact RepL.cons h1 (RepL.eraseIdx i t)
theorem RepL.ints : ∀ {ns : List Int} {vs : List V}, RepL c G (ns.map D.int) vs → vs = ns.map V.int
  | [], vs, h => RepL.nil_iff.mp h
  | n :: ns, vs, h => by
    obtain ⟨v, r, rfl, h1, t⟩ := RepL.cons_iff.mp h
    unfold Rep at h1
    rw [h1, RepL.ints t]; rfl
theorem RepL.of_ints : ∀ (ns : List Int), RepL c G (ns.map D.int) (ns.map V.int)
  | [] => RepL.nil
  | n :: ns => RepL.cons (by unfold Rep; rfl) (RepL.of_ints ns)
theorem RepL.bls : ∀ {ns : List Bool} {vs : List V}, RepL c G (ns.map D.bl) vs → vs = ns.map V.bl
  | [], vs, h => RepL.nil_iff.mp h
  | n :: ns, vs, h => by
    obtain ⟨v, r, rfl, h1, t⟩ := RepL.cons_iff.mp h
    unfold Rep at h1
    rw [h1, RepL.bls t]; rfl
end
theorem Rep.int_iff {c : Cg} {G : Hp} {i : Int} {v : V} : Rep c G (.int i) v ↔ v = .int i := by unfold Rep; exact Iff.rfl
theorem Rep.bl_iff {c : Cg} {G : Hp} {b : Bool} {v : V} : Rep c G (.bl b) v ↔ v = .bl b := by unfold Rep; exact Iff.rfl
theorem Rep.str_iff {c : Cg} {G : Hp} {b : Str} {v : V} : Rep c G (.str b) v ↔ v = .str b := by unfold Rep; exact Iff.rfl
theorem Rep.non_iff {c : Cg} {G : Hp} {v : V} : Rep c G .non v ↔ v = .non := by unfold Rep; exact Iff.rfl
theorem Rep.tup_iff {c : Cg} {G : Hp} {l : List D} {v : V} : Rep c G (.tup l) v ↔ ∃ a vs, v = .ref a ∧ TupS c.K G a vs ∧ RepL c G l vs := by
  constructor
  · intro h; unfold Rep at h; exact h
  · intro h; unfold Rep; exact h
theorem Rep.scp_iff {c : Cg} {G : Hp} {l : List D} {v : V} : Rep c G (.scp l) v ↔ ∃ a vs, v = .ref a ∧ SqL c.K G a vs ∧ RepL c G l vs := by
  constructor
  · intro h; unfold Rep at h; exact h
  · intro h; unfold Rep; exact h
theorem Rep.lst_iff {c : Cg} {G : Hp} {l : List D} {v : V} : Rep c G (.lst l) v ↔ ∃ a vs, v = .ref a ∧ G a = some (.lst vs) ∧ RepL c G l vs := by
  constructor
  · intro h; unfold Rep at h; exact h
  · intro h; unfold Rep; exact h
theorem Rep.scr_iff {c : Cg} {G : Hp} {l : List D} {v : V} : Rep c G (.scr l) v ↔ ∃ a dx b vs, v = .ref a ∧ G a = some (.ins (c.cls 0) dx [("own_levels", .ref b)]) ∧ TupS c.K G b vs ∧ RepL c G l vs := by
  constructor
  · intro h; unfold Rep at h; exact h
  · intro h; unfold Rep; exact h
theorem Rep.exn_iff {c : Cg} {G : Hp} {k : Nat} {f : D} {v : V} : Rep c G (.exn k f) v ↔ ∃ a d, v = .ref a ∧ G a = some (ExV (.ref (c.cls k)) d a) ∧
    ((d = none ∧ f = .non ∧ (k ≤ 100 ∨ 108 ≤ k)) ∨ ∃ dx u, d = some dx ∧ G dx = some (.xd [(fldN k, u)]) ∧ Rep c G f u) := by
  constructor
  · intro h; unfold Rep at h; exact h
  · intro h; unfold Rep; exact h
theorem Rep.edct_iff {c : Cg} {G : Hp} {v : V} : Rep c G .edct v ↔ ∃ a, v = .ref a ∧ G a = some (.dK []) := by unfold Rep; exact Iff.rfl

def RepR (c : Cg) (Γ : Gh) : R → V → Prop
  | .p d, v => Rep c Γ.G d v
  | .r n, v => ∃ a, Γ.ρ[n]? = some a ∧ v = .ref a
theorem RepR.mono {c : Cg} {Γ Γ' : Gh} (e : Γ.le Γ') : ∀ {x : R} {v : V}, RepR c Γ x v → RepR c Γ' x v
  | .p d, v, h => Rep.mono e.g h
  | .r n, v, h => by
    obtain ⟨a, h1, h2⟩ := h
    exact ⟨a, e.at h1, h2⟩
theorem RepR.sub {c : Cg} {Γ Γ' : Gh} (e : Γ.sub Γ') : ∀ {x : R} {v : V}, RepR c Γ x v → RepR c Γ' x v
  | .p d, v, h => Rep.mono e.g h
  | .r n, v, h => by
    obtain ⟨a, h1, h2⟩ := h
    exact ⟨a, e.at h1, h2⟩
def RepRL (c : Cg) (Γ : Gh) : List R → List V → Prop
  | [], vs => vs = []
  | x :: xs, vs => ∃ v r, vs = v :: r ∧ RepR c Γ x v ∧ RepRL c Γ xs r
theorem RepRL.mono {c : Cg} {Γ Γ' : Gh} (e : Γ.le Γ') : ∀ {x : List R} {v : List V}, RepRL c Γ x v → RepRL c Γ' x v
  | [], v, h => h
  | x :: xs, v, h => by
    obtain ⟨u, r, h1, h2, h3⟩ := h
    exact ⟨u, r, h1, RepR.mono e h2, RepRL.mono e h3⟩
theorem RepRL.length {c : Cg} {Γ : Gh} : ∀ {x : List R} {v : List V}, RepRL c Γ x v → v.length = x.length
  | [], v, h => by rw [show v = [] from h]; rfl
  | x :: xs, v, h => by
    obtain ⟨u, r, rfl, h2, h3⟩ := h
    simp [RepRL.length h3]
theorem RepRL.get {c : Cg} {Γ : Gh} : ∀ {xs : List R} {vs : List V} {i : Nat} {x : R}, RepRL c Γ xs vs → xs[i]? = some x → ∃ v, vs[i]? = some v ∧ RepR c Γ x v
  | [], v, i, x, h, e => by simp at e
  | x' :: xs, v, i, x, h, e => by
    obtain ⟨u, r, rfl, h2, h3⟩ := h
    cases i with
    | zero => simp at e; subst e; exact ⟨u, rfl, h2⟩
    | succ i => exact RepRL.get (i := i) h3 (by simpa using e)

/-! ### the store, held -/
/-- an object's attributes -/
def RepF (c : Cg) (G : Hp) : List (Str × D) → List (Str × V) → Prop
  | [], fs => fs = []
  | (n, x) :: xs, fs => ∃ v r, fs = (n, v) :: r ∧ Rep c G x v ∧ RepF c G xs r
/-! ### nested tuples of ints and truths as keys -/
mutual
def nkD : D → Option NestedKey
  | .int i => some (.num i)
  | .bl b => some (.num (if b = true then 1 else 0))
  | .tup l => (match nkL l with
    | some ks => some (.tup ks)
    | none => none)
  | _ => none
def nkL : List D → Option (List NestedKey)
  | [] => some []
  | d :: r => (match nkD d with
    | some k => (match nkL r with
      | some ks => some (k :: ks)
      | none => none)
    | none => none)
end
mutual
def noTxt : NestedKey → Bool
  | .text _ => false
  | .tup ks => noTxts ks
  | _ => true
def noTxts : List NestedKey → Bool
  | [] => true
  | k :: ks => noTxt k && noTxts ks
end
/-! ### a dict with such keys, by its raw entries -/
def entry0 (w0 : World) (x : NestedKey × Addr × Value) : DictEntry := ⟨x.1.hash w0, .ref x.2.1, x.2.2⟩
def RawAt (w0 : World) (d : Addr) (xs : List (NestedKey × Addr × Value)) (ep : Nat) (h : Heap) : Prop :=
  xs.length ≤ sizeLine ∧ (d == sysModules) = false ∧ ∃ o es, h.get? d = some o ∧ o.ExactDict ∧ o.data = .dict es ep ∧ es.toList = xs.map (entry0 w0) ∧ (xs.map (·.1)).Nodup
def rawD (w0 : World) (d : Addr) (xs : List (NestedKey × Addr × Value)) (ep : Nat) : HO := .ext (RawAt w0 d xs ep)
/-- a dict's entries, as data -/
def KvOk (c : Cg) (G : Hp) : List (D × D) → List (NestedKey × Addr × Value) → Prop
  | [], xs => xs = []
  | kv :: r, xs => ∃ nk b u vv t, xs = (nk, b, u) :: t ∧ Rep c G kv.1 (.ref b) ∧ nkD kv.1 = some nk ∧ nk.depth ≤ 8 ∧ noTxt nk = true ∧ Rep c G kv.2 vv ∧ RelV vv u ∧ KvOk c G r t
theorem KvOk.mono {c : Cg} {G G' : Hp} (e : Ext G G') : ∀ {kvs : List (D × D)} {xs : List (NestedKey × Addr × Value)}, KvOk c G kvs xs → KvOk c G' kvs xs
  | [], _, h => h
  | kv :: r, _, h => by
    obtain ⟨nk, b, u, vv, t, h1, h2, h3, h4, h5, h6, h7, h8⟩ := h
    exact ⟨nk, b, u, vv, t, h1, h2.mono e, h3, h4, h5, h6.mono e, h7, KvOk.mono e h8⟩
/-- what stands at a cell's address -/
def ConOk (c : Cg) (Γ : Gh) (a : Addr) : Con → HO → Prop
  | .lst l, o => ∃ vs, o = .lst vs ∧ RepL c Γ.G l vs
  | .dct kvs, o => kvs = [] ∧ o = .dK []
  | .obj k fs, o => ∃ dx vs, o = .ins (c.cls k) dx vs ∧ RepF c Γ.G fs vs
  | .dt kvs, o => ∃ w0 xs ep, o = rawD w0 a xs ep ∧ KvOk c Γ.G kvs xs
def CellOk (c : Cg) (Γ : Gh) (H : Hp) (a : Addr) : Cell → Prop
  | .mu o => ∃ u, H a = some u ∧ ConOk c Γ a o u ∧ Γ.G a = none ∧ Γ.L a = none
  | .fz l => ∃ vs, Γ.G a = some (.lst vs) ∧ RepL c Γ.G l vs
  | .dead => True
structure StOk (c : Cg) (Γ : Gh) (st : Store) (H : Hp) : Prop where
  g : Ext Γ.G H
  l : Ext Γ.L H
  gl : ∀ (a : Addr) (o : HO), Γ.L a = some o → Γ.G a = none
  len : st.length = Γ.ρ.length
  cell : ∀ (n : Nat) (x : Cell) (a : Addr), st[n]? = some x → Γ.ρ[n]? = some a → CellOk c Γ H a x
  inj : ∀ (n m : Nat) (a : Addr) (o u : Con), st[n]? = some (.mu o) → st[m]? = some (.mu u) → Γ.ρ[n]? = some a → Γ.ρ[m]? = some a → n = m
structure FrOk (c : Cg) (Γ : Gh) (S : Sg) (σ : L2.St) (H : Hp) : Prop where
  s : StOk c Γ S.st H
  len : S.sl.length = σ.length
  sl : ∀ (i : Nat) (x : R), S.sl[i]? = some (some x) → ∃ v, σ[i]? = some (some v) ∧ RepR c Γ x v

/-- what is wanted of an own exception: class, dict -/
def XRep (c : Cg) (Γ : Gh) (H : Hp) (x : Xn) (cls : Value) (dd : Option Addr) : Prop := cls = .ref (c.cls x.k) ∧
  ((dd = none ∧ x.f = .non ∧ (x.k ≤ 100 ∨ 108 ≤ x.k)) ∨ ∃ dx u, dd = some dx ∧ Γ.G dx = some (.xd [(fldN x.k, u)]) ∧ Rep c Γ.G x.f u)
/-- what is wanted behind an outcome -/
def Post (c : Cg) (W : WX) (σ : L2.St) (Γ : Gh) {α : Type} (r : Res α) (K : α → Sg → Gh → Hp → Prop) : Prop := match r with
  | .ok a S' => ∀ Γ' H', Γ.le Γ' → FrOk c Γ' S' σ H' → K a S' Γ' H'
  | .exc x S' => ∀ Γ' H' cls dd, Γ.le Γ' → FrOk c Γ' S' σ H' → XRep c Γ' H' x cls dd → W cls dd σ H'
  | .bad => False
section
variable {c : Cg} {W : WX} {σ : L2.St} {Γ Γ1 : Gh} {α β : Type}
theorem Post.le {r : Res α} {K : α → Sg → Gh → Hp → Prop} (h : Post c W σ Γ r K) (e : Γ.le Γ1) : Post c W σ Γ1 r K := by
  cases r with
  | ok a S => exact fun Γ' H' e' f => h Γ' H' (e.trans e') f
  | exc x S => exact fun Γ' H' cls dd e' f q => h Γ' H' cls dd (e.trans e') f q
  | bad => exact h
theorem Post.imp {r : Res α} {K K' : α → Sg → Gh → Hp → Prop} (h : Post c W σ Γ r K) (k : ∀ a S' Γ' H', Γ.le Γ' → FrOk c Γ' S' σ H' → K a S' Γ' H' → K' a S' Γ' H') : Post c W σ Γ r K' := by
  cases r with
  | ok a S => exact fun Γ' H' e' f => k _ _ _ _ e' f (h Γ' H' e' f)
  | exc x S => exact h
  | bad => exact h
theorem Post.bind {f : M α} {g : α → M β} {S : Sg} {K : β → Sg → Gh → Hp → Prop} (h : Post c W σ Γ ((f >>= g) S) K) :
    Post c W σ Γ (f S) fun a S' Γ' H' => Γ.le Γ' ∧ Post c W σ Γ' (g a S') K := by
  rw [bind_ap] at h
  cases e : f S with
  | ok a S' => rw [e] at h; exact fun Γ' H' e' f => ⟨e', Post.le h e'⟩
  | exc x S' => rw [e] at h; exact h
  | bad => rw [e] at h; exact h
theorem Post.ok {a : α} {S : Sg} {K : α → Sg → Gh → Hp → Prop} {Γ' : Gh} {H' : Hp} (h : Post c W σ Γ (.ok a S) K) (e : Γ.le Γ') (f : FrOk c Γ' S σ H') : K a S Γ' H' := h Γ' H' e f
end

/-- an expression's reading -/
def rdE (c : Cg) (W : WX) (f : M R) : TE := fun σ H Q => ∃ Γ S, FrOk c Γ S σ H ∧ Post c W σ Γ (f S) fun x S' Γ' H' => ∀ v, RepR c Γ' x v → Q v H'
/-- a test's -/
def rdT (c : Cg) (W : WX) (f : M Bool) : TT := fun σ H Q => ∃ Γ S, FrOk c Γ S σ H ∧ Post c W σ Γ (f S) fun b S' Γ' H' => Q b H'
/-- an argument list's -/
def rdA (c : Cg) (W : WX) (f : M (List R)) : TA := fun σ H Q => ∃ Γ S, FrOk c Γ S σ H ∧ Post c W σ Γ (f S) fun xs S' Γ' H' => ∀ vs, RepRL c Γ' xs vs → Q vs H'

/-- where a statement goes on -/
inductive Fl where
  | nx | bk | ct | rt (x : R)
def PostS (c : Cg) (W : WX) (Γ : Gh) (r : Res Fl) (E : Ends) : Prop := match r with
  | .ok .nx S' => ∀ Γ' σ' H', Γ.le Γ' → FrOk c Γ' S' σ' H' → E.nx σ' H'
  | .ok .bk S' => ∀ Γ' σ' H', Γ.le Γ' → FrOk c Γ' S' σ' H' → E.bk σ' H'
  | .ok .ct S' => ∀ Γ' σ' H', Γ.le Γ' → FrOk c Γ' S' σ' H' → E.ct σ' H'
  | .ok (.rt x) S' => ∀ Γ' σ' H' v, Γ.le Γ' → FrOk c Γ' S' σ' H' → RepR c Γ' x v → E.rt v H'
  | .exc x S' => ∀ Γ' σ' H' cls dd, Γ.le Γ' → FrOk c Γ' S' σ' H' → XRep c Γ' H' x cls dd → W cls dd σ' H'
  | .bad => False
def rdS (c : Cg) (W : WX) (f : M Fl) : TS := fun E σ H => ∃ Γ S, FrOk c Γ S σ H ∧ PostS c W Γ (f S) E
section
variable {c : Cg} {W : WX} {Γ Γ1 : Gh} {E : Ends}
theorem PostS.le {r : Res Fl} (h : PostS c W Γ r E) (e : Γ.le Γ1) : PostS c W Γ1 r E := by
  cases r with
  | ok a S =>
    cases a with
    | nx => exact fun Γ' σ' H' e' f => h Γ' σ' H' (e.trans e') f
    | bk => exact fun Γ' σ' H' e' f => h Γ' σ' H' (e.trans e') f
    | ct => exact fun Γ' σ' H' e' f => h Γ' σ' H' (e.trans e') f
    | rt x => exact fun Γ' σ' H' v e' f q => h Γ' σ' H' v (e.trans e') f q
  | exc x S => exact fun Γ' σ' H' cls dd e' f q => h Γ' σ' H' cls dd (e.trans e') f q
  | bad => exact h
/-- an expression ahead of a statement -/
theorem PostS.bindE {α : Type} {f : M α} {g : α → M Fl} {S : Sg} {σ : L2.St} (h : PostS c W Γ ((f >>= g) S) E) :
    Post c W σ Γ (f S) fun a S' Γ' H' => Γ.le Γ' ∧ PostS c W Γ' (g a S') E := by
  rw [bind_ap] at h
  cases e : f S with
  | ok a S' => rw [e] at h; exact fun Γ' H' e' f => ⟨e', PostS.le h e'⟩
  | exc x S' => rw [e] at h; exact fun Γ' H' cls dd e' f q => h Γ' σ H' cls dd e' f q
  | bad => rw [e] at h; exact h
end
end Dd

set_option Elab.async false
set_option linter.all false
set_option maxRecDepth 100000
namespace Dd
open PySem PySem.Spec PyProof.Rows L2

/-! ### names, constants, operators -/
section
variable {X : Cx} {c : Cg} {W : WX} {e a b : Expr} {f fa fb : M R} {pos : Pos}
theorem se_of {t : TE} (h : PE X e t) (hi : ∀ σ H Q, rdE c W f σ H Q → t σ H Q) : PE X e (rdE c W f) := ⟨fun pins s σ H Q I q => h.run pins s σ H Q I (hi σ H Q q)⟩
theorem st_of {t : TT} {f : M Bool} (h : PT X e t) (hi : ∀ σ H Q, rdT c W f σ H Q → t σ H Q) : PT X e (rdT c W f) := ⟨fun pins s σ H Q I q => h.run pins s σ H Q I (hi σ H Q q)⟩
theorem sa_of {es : List Expr} {t : TA} {f : M (List R)} (h : PA X es t) (hi : ∀ σ H Q, rdA c W f σ H Q → t σ H Q) : PA X es (rdA c W f) := ⟨fun pos pins s σ H Q I q => h.run pos pins s σ H Q I (hi σ H Q q)⟩
theorem ss_of {st : Stmt} {t : TS} {f : M Fl} (h : PS X st t) (hi : ∀ E σ H, rdS c W f E σ H → t E σ H) : PS X st (rdS c W f) := ⟨fun pins s σ H E I q => h.run pins s σ H E I (hi E σ H q)⟩
theorem sss_of {st : List Stmt} {t : TS} {f : M Fl} (h : PSs X st t) (hi : ∀ E σ H, rdS c W f E σ H → t E σ H) : PSs X st (rdS c W f) := ⟨fun pins s σ H E I q => h.run pins s σ H E I (hi E σ H q)⟩

theorem RepR.pure {Γ : Gh} {d : D} {v : V} : RepR c Γ (.p d) v ↔ Rep c Γ.G d v := Iff.rfl
theorem RepR.int {Γ : Gh} {i : Int} {v : V} (h : RepR c Γ (.p (.int i)) v) : v = .int i := Rep.int_iff.mp (RepR.pure.mp h)
theorem RepR.bl {Γ : Gh} {i : Bool} {v : V} (h : RepR c Γ (.p (.bl i)) v) : v = .bl i := Rep.bl_iff.mp (RepR.pure.mp h)
theorem RepR.str {Γ : Gh} {i : Str} {v : V} (h : RepR c Γ (.p (.str i)) v) : v = .str i := Rep.str_iff.mp (RepR.pure.mp h)
theorem RepR.non {Γ : Gh} {v : V} (h : RepR c Γ (.p .non) v) : v = .non := Rep.non_iff.mp (RepR.pure.mp h)
/-- the name in slot i -/
def vr (i : Nat) : M R := fun S => match S.sl[i]? with
  | some (some x) => .ok x S
  | _ => .bad
theorem se_var {i : Nat} (h : PE X e (tVar i)) : PE X e (rdE c W (vr i)) := by
  refine se_of h fun σ H Q q => ?_
  obtain ⟨Γ, S, F, P⟩ := q
  unfold vr at P
  split at P
  · rename_i x hx
    obtain ⟨v, h1, h2⟩ := F.sl i x hx
    exact ⟨v, h1, P.ok Gh.le.refl F v h2⟩
  · exact P.elim
def ci (i : Int) : M R := pure (.p (.int i))
def cb (b : Bool) : M R := pure (.p (.bl b))
def cn : M R := pure (.p .non)
def cs (s : Str) : M R := pure (.p (.str s))
theorem se_tC {d : D} {v : V} (hr : ∀ G, Rep c G d v) (h : PE X e (tC v)) : PE X e (rdE c W (pure (.p d))) := by
  refine se_of h fun σ H Q q => ?_
  obtain ⟨Γ, S, F, P⟩ := q
  exact Post.ok (c := c) (W := W) P Gh.le.refl F v (hr _)
theorem se_int {i : Int} {j} : PE X (.Constant (.int i) j pos) (rdE c W (ci i)) := se_tC (fun _ => Rep.int_iff.mpr rfl) pe_int
theorem se_bl {i : Bool} {j} : PE X (.Constant (.bool i) j pos) (rdE c W (cb i)) := se_tC (fun _ => Rep.bl_iff.mpr rfl) pe_bl
theorem se_non {j} : PE X (.Constant .none j pos) (rdE c W cn) := se_tC (fun _ => Rep.non_iff.mpr rfl) pe_non
theorem se_str {i : Str} {j} : PE X (.Constant (.str i) j pos) (rdE c W (cs i)) := se_tC (fun _ => Rep.str_iff.mpr rfl) pe_str
/-- a module's constant that is pure data -/
def cd (d : D) : M R := pure (.p d)
theorem se_glob {d : D} {v : V} (hr : ∀ G, Rep c G d v) (h : PE X e (tC v)) : PE X e (rdE c W (cd d)) := se_tC hr h

def bin (op : R → R → M R) (f g : M R) : M R := do
  let x ← f
  let y ← g
  op x y
/-- an operation on values serves a rule -/
def OpD (c : Cg) (W : WX) (op : R → R → M R) (r : R2) : Prop :=
  ∀ (Γ : Gh) (S : Sg) (σ : L2.St) (H : Hp) (x y : R) (v w : V) (Q : VK), FrOk c Γ S σ H → RepR c Γ x v → RepR c Γ y w →
    Post c W σ Γ (op x y S) (fun z S' Γ' H' => ∀ u, RepR c Γ' z u → Q u H') → r v w H Q
theorem bin_read {op : R → R → M R} {r : R2} (hd : OpD c W op r) {σ : L2.St} {H : Hp} {Q : VK} (q : rdE c W (bin op fa fb) σ H Q) : tOp r (rdE c W fa) (rdE c W fb) σ H Q := by
  obtain ⟨Γ, S, F, P⟩ := q
  refine ⟨Γ, S, F, ?_⟩
  refine (Post.bind P).imp fun x S1 Γ1 H1 e1 F1 ⟨_, P1⟩ v hv => ?_
  refine ⟨Γ1, S1, F1, ?_⟩
  refine (Post.bind P1).imp fun y S2 Γ2 H2 e2 F2 ⟨_, P2⟩ w hw => ?_
  exact hd Γ2 S2 σ H2 x y v w Q F2 (hv.mono e2) hw P2
theorem se_bin {o : Operator} {op : R → R → M R} {r : R2} (ho : OpR X (binaryOp o) r) (hd : OpD c W op r) (ha : PE X a (rdE c W fa)) (hb : PE X b (rdE c W fb)) : PE X (.BinOp a o b pos) (rdE c W (bin op fa fb)) :=
  se_of (pe_op ho ha hb) fun _ _ _ q => bin_read hd q
theorem se_cmp {o : CmpOp} {op : R → R → M R} {r : R2} (ho : OpR X (compareOp o) r) (hd : OpD c W op r) (ha : PE X a (rdE c W fa)) (hb : PE X b (rdE c W fb)) (hm : behindInMarks o b = false) : PE X (.Compare a [o] [b] pos) (rdE c W (bin op fa fb)) :=
  se_of (pe_cmpR ho ha hb hm) fun _ _ _ q => bin_read hd q
theorem OpD.or {op : R → R → M R} {r r' : R2} (h : OpD c W op r) : OpD c W op (fun x y H Q => r x y H Q ∨ r' x y H Q) := fun Γ S σ H x y v w Q F hx hy P => .inl (h Γ S σ H x y v w Q F hx hy P)

/-- ints in -/
def opI (C : Int → Int → Prop) [∀ i j, Decidable (C i j)] (g : Int → Int → D) : R → R → M R := fun x y S => match x, y with
  | .p (.int i), .p (.int j) => if C i j then .ok (.p (g i j)) S else .bad
  | _, _ => .bad
def opI0 (g : Int → Int → D) : R → R → M R := fun x y S => match x, y with
  | .p (.int i), .p (.int j) => .ok (.p (g i j)) S
  | _, _ => .bad
/-- the ints behind two values -/
theorem two_ints {x y : R} {S : Sg} {α : Type} {k : Int → Int → Res α} {Z : Prop}
    (h : ∀ i j, x = .p (.int i) → y = .p (.int j) → Z) (P : (match x, y with | .p (.int i), .p (.int j) => k i j | _, _ => (Res.bad : Res α)) ≠ .bad) : Z := by
  split at P
  · exact h _ _ rfl rfl
  · exact (P rfl).elim
theorem Post.ne {α : Type} {σ : L2.St} {Γ : Gh} {r : Res α} {K : α → Sg → Gh → Hp → Prop} (P : Post c W σ Γ r K) : r ≠ .bad := by
  intro e
  rw [e] at P
  exact P
theorem od_I {C : Int → Int → Prop} [∀ i j, Decidable (C i j)] {g : Int → Int → D} {gv : Int → Int → V} (hg : ∀ G i j, Rep c G (g i j) (gv i j)) : OpD c W (opI C g) (rI C gv) := by
  intro Γ S σ H x y v w Q F hx hy P
  unfold opI at P
  refine two_ints (S := S) (k := fun i j => if C i j then Res.ok (R.p (g i j)) S else .bad) (fun i j e1 e2 => ?_) P.ne
  subst e1 e2
  have P : Post c W σ Γ (if C i j then Res.ok (R.p (g i j)) S else Res.bad) fun z S' Γ' H' => ∀ u, RepR c Γ' z u → Q u H' := P
  by_cases h : C i j
  · rw [if_pos h] at P
    exact ⟨i, j, RepR.int hx, RepR.int hy, h, P.ok Gh.le.refl F _ (hg _ _ _)⟩
  · rw [if_neg h] at P
    exact P.elim
theorem od_I0 {g : Int → Int → D} {gv : Int → Int → V} (hg : ∀ G i j, Rep c G (g i j) (gv i j)) : OpD c W (opI0 g) (rI0 gv) := by
  intro Γ S σ H x y v w Q F hx hy P
  unfold opI0 at P
  refine two_ints (S := S) (k := fun i j => Res.ok (R.p (g i j)) S) (fun i j e1 e2 => ?_) P.ne
  subst e1 e2
  exact ⟨i, j, RepR.int hx, RepR.int hy, P.ok Gh.le.refl F _ (hg _ _ _)⟩
end
instance (i j : Int) : Decidable (CDivW i j) := inferInstanceAs (Decidable (_ ∧ _))
instance (i j : Int) : Decidable (CMulW i j) := inferInstanceAs (Decidable (_ < _))
instance (i j : Int) : Decidable (CPow i j) := inferInstanceAs (Decidable (_ ∧ _ ∧ _))
instance (i j : Int) : Decidable (CShl i j) := inferInstanceAs (Decidable (_ ∧ _))

/-! ### sequences, looked into -/
/-- the items of a list or tuple -/
def getL (x : R) (S : Sg) : Option (List D) := match x with
  | .p (.tup l) => some l
  | .p (.lst l) => some l
  | .p (.scp l) => some l
  | .p _ => none
  | .r n => match S.st[n]? with
    | some (.mu (.lst l)) => some l
    | some (.fz l) => some l
    | _ => none
/-- a list's alone -/
def getLst (x : R) (S : Sg) : Option (List D) := match x with
  | .p (.lst l) => some l
  | .p (.scp l) => some l
  | .p _ => none
  | .r n => match S.st[n]? with
    | some (.mu (.lst l)) => some l
    | some (.fz l) => some l
    | _ => none
section
variable {c : Cg} {W : WX} {Γ : Gh} {S : Sg} {σ : L2.St} {H : Hp} {x : R} {v : V} {l : List D}
theorem StOk.at {st : Store} (F : StOk c Γ st H) {n : Nat} {o : Cell} (h : st[n]? = some o) : ∃ a, Γ.ρ[n]? = some a := by
  have h1 := (List.getElem?_eq_some_iff.mp h).1
  rw [F.len] at h1
  exact ⟨_, List.getElem?_eq_getElem h1⟩
theorem StOk.lst {st : Store} (F : StOk c Γ st H) {n : Nat} {l : List D} (h : st[n]? = some (.mu (.lst l))) : ∃ a vs, Γ.ρ[n]? = some a ∧ H a = some (.lst vs) ∧ RepL c Γ.G l vs ∧ Γ.G a = none ∧ Γ.L a = none := by
  obtain ⟨a, ha⟩ := F.at h
  obtain ⟨u, h1, ⟨vs, h2, h3⟩, h4, h5⟩ := F.cell n _ a h ha
  subst h2
  exact ⟨a, vs, ha, h1, h3, h4, h5⟩
theorem StOk.fro {st : Store} (F : StOk c Γ st H) {n : Nat} {l : List D} (h : st[n]? = some (.fz l)) : ∃ a vs, Γ.ρ[n]? = some a ∧ Γ.G a = some (.lst vs) ∧ RepL c Γ.G l vs := by
  obtain ⟨a, ha⟩ := F.at h
  obtain ⟨vs, h1, h2⟩ := F.cell n _ a h ha
  exact ⟨a, vs, ha, h1, h2⟩
theorem getLst_ok (F : FrOk c Γ S σ H) (hx : RepR c Γ x v) (h : getLst x S = some l) : ∃ a vs, v = .ref a ∧ SqL c.K H a vs ∧ RepL c Γ.G l vs := by
  cases x with
  | p d =>
    cases d with
    | lst l' =>
      cases h
      obtain ⟨a, vs, h1, h2, h3⟩ := Rep.lst_iff.mp hx
      exact ⟨a, vs, h1, .inl (.inl (F.s.g _ _ h2)), h3⟩
    | scp l' =>
      cases h
      obtain ⟨a, vs, h1, h2, h3⟩ := Rep.scp_iff.mp hx
      exact ⟨a, vs, h1, SqL.mono F.s.g h2, h3⟩
    | _ => cases h
  | r n =>
    obtain ⟨a, h1, h2⟩ := hx
    unfold getLst at h
    simp only at h
    split at h
    · rename_i l' e
      cases h
      obtain ⟨a', vs, h3, h4, h5, _⟩ := F.s.lst e
      rw [h1] at h3; cases h3
      exact ⟨a, vs, h2, .inl (.inl h4), h5⟩
    · rename_i l' e
      cases h
      obtain ⟨a', vs, h3, h4, h5⟩ := F.s.fro e
      rw [h1] at h3; cases h3
      exact ⟨a, vs, h2, .inl (.inl (F.s.g _ _ h4)), h5⟩
    · cases h
theorem getL_ok (F : FrOk c Γ S σ H) (hx : RepR c Γ x v) (h : getL x S = some l) : ∃ a vs, v = .ref a ∧ (SqL c.K H a vs ∨ SqT c.K H a vs) ∧ RepL c Γ.G l vs := by
  cases x with
  | p d =>
    cases d with
    | lst l' =>
      cases h
      obtain ⟨a, vs, h1, h2, h3⟩ := Rep.lst_iff.mp hx
      exact ⟨a, vs, h1, .inl (.inl (.inl (F.s.g _ _ h2))), h3⟩
    | scp l' =>
      cases h
      obtain ⟨a, vs, h1, h2, h3⟩ := Rep.scp_iff.mp hx
      exact ⟨a, vs, h1, .inl (SqL.mono F.s.g h2), h3⟩
    | tup l' =>
      cases h
      obtain ⟨a, vs, h1, h2, h3⟩ := Rep.tup_iff.mp hx
      exact ⟨a, vs, h1, .inr (TupS.mono F.s.g h2).sq, h3⟩
    | _ => cases h
  | r n =>
    obtain ⟨a, vs, h1, h2, h3⟩ := getLst_ok (x := .r n) F hx h
    exact ⟨a, vs, h1, .inl h2, h3⟩

/-! ### the store changes: a new object, a new cell, a list written, a list frozen -/
theorem RepF.mono {G G' : Hp} (e : Ext G G') : ∀ {fs : List (Str × D)} {vs : List (Str × V)}, RepF c G fs vs → RepF c G' fs vs
  | [], _, h => h
  | (n, x) :: xs, _, h => by
    obtain ⟨v, r, h1, h2, h3⟩ := h
    exact ⟨v, r, h1, h2.mono e, RepF.mono e h3⟩
theorem ConOk.mono {Γ Γ' : Gh} (e : Γ.le Γ') {a : Addr} {o : Con} {u : HO} (h : ConOk c Γ a o u) : ConOk c Γ' a o u := by
  cases o with
  | lst l => obtain ⟨vs, k1, k2⟩ := h; exact ⟨vs, k1, RepL.mono e.g k2⟩
  | dct kvs => exact h
  | obj k fs => obtain ⟨dx, vs, k1, k2⟩ := h; exact ⟨dx, vs, k1, k2.mono e.g⟩
  | dt kvs => obtain ⟨w0, xs, ep, k1, k2⟩ := h; exact ⟨w0, xs, ep, k1, k2.mono e.g⟩
/-- a new object that never changes -/
theorem StOk.newG {st : Store} {p : Addr} {o : HO} (F : StOk c Γ st H) (hp : H p = none) : StOk c { Γ with G := upd Γ.G p o } st (upd H p o) where
  g := fun a u e => by
    by_cases h : a = p
    · have e' : upd Γ.G p o a = some u := e
      subst h; rw [upd_same] at e' ⊢; exact e'
    · have e' : upd Γ.G p o a = some u := e
      rw [upd_ne h] at e' ⊢; exact F.g _ _ e'
  l := fun a u e => by rw [upd_ne (ne_of_none (F.l _ _ e) hp)]; exact F.l _ _ e
  gl := fun a u e => by
    show upd Γ.G p o a = none
    rw [upd_ne (ne_of_none (F.l _ _ e) hp)]; exact F.gl a u e
  len := F.len
  cell := fun n x a e1 e2 => by
    have hGp : Γ.G p = none := Ext.none F.g hp
    have ex : Ext Γ.G (upd Γ.G p o) := Ext.upd hGp
    have q := F.cell n x a e1 e2
    cases x with
    | mu u =>
      obtain ⟨w, h1, h2, h3, h4⟩ := q
      have hap : a ≠ p := ne_of_none h1 hp
      refine ⟨w, by rw [upd_ne hap]; exact h1, ?_, by show upd Γ.G p o a = none; rw [upd_ne hap]; exact h3, h4⟩
      cases u with
      | lst l => obtain ⟨vs, k1, k2⟩ := h2; exact ⟨vs, k1, RepL.mono ex k2⟩
      | dct kvs => exact h2
      | obj k fs =>
        have le : Γ.le { Γ with G := upd Γ.G p o } := ⟨ex, rfl, [], by simp⟩
        exact ConOk.mono le h2
      | dt kvs =>
        have le : Γ.le { Γ with G := upd Γ.G p o } := ⟨ex, rfl, [], by simp⟩
        exact ConOk.mono le h2
    | fz l =>
      obtain ⟨vs, h1, h2⟩ := q
      exact ⟨vs, ex _ _ h1, RepL.mono ex h2⟩
    | dead => trivial
  inj := F.inj
/-- a new cell -/
theorem StOk.newC {st : Store} {p : Addr} {o : Con} {u : HO} (F : StOk c Γ st H) (hp : H p = none) (ho : ConOk c Γ p o u) : StOk c { Γ with ρ := Γ.ρ ++ [p] } (st ++ [.mu o]) (upd H p u) where
  g := fun a w e => by rw [upd_ne (ne_of_none (F.g _ _ e) hp)]; exact F.g _ _ e
  l := fun a w e => by rw [upd_ne (ne_of_none (F.l _ _ e) hp)]; exact F.l _ _ e
  gl := F.gl
  len := by simp [F.len]
  cell := fun n x a e1 e2 => by
    have le : Γ.le { Γ with ρ := Γ.ρ ++ [p] } := ⟨Ext.refl, rfl, [p], rfl⟩
    by_cases hn : n < st.length
    · rw [List.getElem?_append_left hn] at e1
      have hn2 : n < Γ.ρ.length := by rw [← F.len]; exact hn
      have e2' : (Γ.ρ ++ [p])[n]? = some a := e2
      rw [List.getElem?_append_left hn2] at e2'
      have q := F.cell n x a e1 e2'
      cases x with
      | mu w =>
        obtain ⟨w', h1, h2, h3, h4⟩ := q
        exact ⟨w', by rw [upd_ne (ne_of_none h1 hp)]; exact h1, h2.mono le, h3, h4⟩
      | fz l => exact q
      | dead => trivial
    · have hn' : n = st.length := by
        have := (List.getElem?_eq_some_iff.mp e1).1
        simp at this
        omega
      subst hn'
      have e2' : (Γ.ρ ++ [p])[st.length]? = some a := e2
      rw [F.len] at e2'
      simp at e1 e2'
      subst e1 e2'
      exact ⟨u, upd_same, ho.mono le, Ext.none F.g hp, Ext.none F.l hp⟩
  inj := fun n m a o1 o2 h1 h2 h3 h4 => by
    have h3' : (Γ.ρ ++ [p])[n]? = some a := h3
    have h4' : (Γ.ρ ++ [p])[m]? = some a := h4
    have old : ∀ (k : Nat) (o : Con), k < st.length → (st ++ [Cell.mu o])[k]? = st[k]? := fun k o hk => List.getElem?_append_left hk
    have ne : ∀ (k : Nat) (o : Con), k < st.length → st[k]? = some (.mu o) → Γ.ρ[k]? = some a → a ≠ p := fun k o hk e1 e2 => by
      obtain ⟨w, q, _⟩ := F.cell k _ a e1 e2
      exact ne_of_none q hp
    by_cases hn : n < st.length
    · have hn2 : n < Γ.ρ.length := by rw [← F.len]; exact hn
      rw [List.getElem?_append_left hn] at h1
      rw [List.getElem?_append_left hn2] at h3'
      by_cases hm : m < st.length
      · have hm2 : m < Γ.ρ.length := by rw [← F.len]; exact hm
        rw [List.getElem?_append_left hm] at h2
        rw [List.getElem?_append_left hm2] at h4'
        exact F.inj n m a o1 o2 h1 h2 h3' h4'
      · have hm' : m = st.length := by
          have := (List.getElem?_eq_some_iff.mp h2).1
          simp at this; omega
        subst hm'
        rw [F.len] at h4'
        simp at h4'
        exact ((ne n o1 hn h1 h3') h4'.symm).elim
    · have hn' : n = st.length := by
        have := (List.getElem?_eq_some_iff.mp h1).1
        simp at this; omega
      subst hn'
      rw [F.len] at h3'
      simp at h3'
      by_cases hm : m < st.length
      · have hm2 : m < Γ.ρ.length := by rw [← F.len]; exact hm
        rw [List.getElem?_append_left hm] at h2
        rw [List.getElem?_append_left hm2] at h4'
        exact ((ne m o2 hm h2 h4') h3'.symm).elim
      · have := (List.getElem?_eq_some_iff.mp h2).1
        simp at this; omega
/-- a cell is written -/
theorem StOk.setC {st : Store} {n : Nat} {a : Addr} {o o' : Con} {u : HO} (F : StOk c Γ st H) (h : st[n]? = some (.mu o)) (ha : Γ.ρ[n]? = some a) (ho : ConOk c Γ a o' u) : StOk c Γ (st.set n (.mu o')) (upd H a u) := by
  obtain ⟨w, h1, h2, h3, h4⟩ := F.cell n _ a h ha
  have hlt := (List.getElem?_eq_some_iff.mp h).1
  have back : ∀ (m : Nat) (p : Con), (st.set n (.mu o'))[m]? = some (.mu p) → ∃ p', st[m]? = some (.mu p') := fun m p e => by
    by_cases hm : n = m
    · subst hm; exact ⟨o, h⟩
    · rw [List.getElem?_set_ne hm] at e; exact ⟨p, e⟩
  refine ⟨fun b x e => ?_, fun b x e => ?_, F.gl, by simpa using F.len, fun m x b e1 e2 => ?_, fun m k b p p' e1 e2 e3 e4 => ?_⟩
  · have : b ≠ a := fun z => by rw [z, h3] at e; cases e
    rw [upd_ne this]; exact F.g _ _ e
  · have : b ≠ a := fun z => by rw [z, h4] at e; cases e
    rw [upd_ne this]; exact F.l _ _ e
  · by_cases hm : n = m
    · subst hm
      rw [List.getElem?_set_self hlt] at e1
      cases e1
      rw [ha] at e2; cases e2
      exact ⟨u, upd_same, ho, h3, h4⟩
    · rw [List.getElem?_set_ne hm] at e1
      have q := F.cell m x b e1 e2
      cases x with
      | mu p =>
        obtain ⟨w', q1, q2, q3, q4⟩ := q
        have : b ≠ a := fun z => by subst z; exact hm (F.inj n m b o p h e1 ha e2)
        exact ⟨w', by rw [upd_ne this]; exact q1, q2, q3, q4⟩
      | fz l => exact q
      | dead => trivial
  · obtain ⟨q1, r1⟩ := back m p e1
    obtain ⟨q2, r2⟩ := back k p' e2
    exact F.inj m k b q1 q2 r1 r2 e3 e4
/-- what is known of a cell no longer matters -/
theorem StOk.drop {st : Store} {n : Nat} {x : Cell} (F : StOk c Γ st H) (hx : ∀ a, Γ.ρ[n]? = some a → CellOk c Γ H a x) (hm : ∀ o, x ≠ .mu o) : StOk c Γ (st.set n x) H := by
  refine ⟨F.g, F.l, F.gl, by simpa using F.len, fun m y b e1 e2 => ?_, fun m k b p p' e1 e2 e3 e4 => ?_⟩
  · by_cases h : n = m
    · subst h
      have hlt := (List.getElem?_eq_some_iff.mp e1).1
      simp at hlt
      rw [List.getElem?_set_self hlt] at e1
      cases e1
      exact hx b e2
    · rw [List.getElem?_set_ne h] at e1
      exact F.cell m y b e1 e2
  · have old : ∀ (m : Nat) (p : Con), (st.set n x)[m]? = some (.mu p) → st[m]? = some (.mu p) := fun m p e => by
      by_cases h : n = m
      · subst h
        have hlt := (List.getElem?_eq_some_iff.mp e).1
        simp at hlt
        rw [List.getElem?_set_self hlt] at e
        cases e
        exact (hm p rfl).elim
      · rw [List.getElem?_set_ne h] at e; exact e
    exact F.inj m k b p p' (old m p e1) (old k p' e2) e3 e4
/-- G takes in what stands at an address, no cell's any more -/
theorem StOk.takeG {st : Store} {a : Addr} {o : HO} (F : StOk c Γ st H) (h : H a = some o) (hg : Γ.G a = none) (hL : Γ.L a = none) (hn : ∀ (n : Nat) (p : Con), st[n]? = some (.mu p) → Γ.ρ[n]? ≠ some a) : StOk c { Γ with G := upd Γ.G a o } st H where
  g := fun b u e => by
    have e' : upd Γ.G a o b = some u := e
    by_cases hb : b = a
    · subst hb; rw [upd_same] at e'; cases e'; exact h
    · rw [upd_ne hb] at e'; exact F.g _ _ e'
  l := F.l
  gl := fun b u e => by
    show upd Γ.G a o b = none
    have : b ≠ a := fun z => by
      have e' : Γ.L b = some u := e
      rw [z, hL] at e'; cases e'
    rw [upd_ne this]; exact F.gl b u e
  len := F.len
  cell := fun n x b e1 e2 => by
    have ex : Ext Γ.G (upd Γ.G a o) := Ext.upd hg
    have le : Γ.le { Γ with G := upd Γ.G a o } := ⟨ex, rfl, [], by simp⟩
    have q := F.cell n x b e1 e2
    cases x with
    | mu p =>
      obtain ⟨w, q1, q2, q3, q4⟩ := q
      have hb : b ≠ a := fun z => hn n p e1 (by rw [← z]; exact e2)
      exact ⟨w, q1, q2.mono le, by show upd Γ.G a o b = none; rw [upd_ne hb]; exact q3, q4⟩
    | fz l => obtain ⟨vs, q1, q2⟩ := q; exact ⟨vs, ex _ _ q1, RepL.mono ex q2⟩
    | dead => trivial
  inj := F.inj
theorem FrOk.of {Γ' : Gh} {st' : Store} {H' : Hp} (F : FrOk c Γ S σ H) (e : Γ.le Γ') (F' : StOk c Γ' st' H') : FrOk c Γ' { S with st := st' } σ H' :=
  ⟨F', F.len, fun i x h => let ⟨v, h1, h2⟩ := F.sl i x h; ⟨v, h1, h2.mono e⟩⟩
end
/-- an object's data, a screen's -/
def objD (k : Nat) (fs : List (Str × D)) : Option D := match fs with
  | [] => none
  | f :: r => match f.2 with
    | .tup l => if k = 0 ∧ f.1 = "own_levels" ∧ r.isEmpty = true then some (.scr l) else none
    | _ => none
/-- a value as pure data: a list's cell is frozen, a made screen is one -/
def pureC (n : Nat) (S : Sg) : Option Cell → Res D
  | some (.fz l) => .ok (.lst l) S
  | some (.mu o) => match o with
    | .lst l => .ok (.lst l) { S with st := S.st.set n (.fz l) }
    | .dct kvs => if kvs.isEmpty = true then .ok .edct { S with st := S.st.set n .dead } else .bad
    | .obj k fs => match objD k fs with
      | some d => .ok d { S with st := S.st.set n .dead }
      | none => .bad
    | .dt _ => .bad
  | _ => .bad
def pure1 : R → M D
  | .p d => pure d
  | .r n => fun S => pureC n S S.st[n]?
section
variable {c : Cg} {W : WX} {Γ : Gh} {S : Sg} {σ : L2.St} {H : Hp} {x : R} {v : V} {l : List D}
theorem freeze_aux {n : Nat} {o : Con} {a : Addr} {u : HO} {d : D} {y : Cell} (F : FrOk c Γ S σ H) (h : S.st[n]? = some (.mu o)) (ha : Γ.ρ[n]? = some a) (hu : H a = some u) (hG : Γ.G a = none) (hL : Γ.L a = none)
    (hd : Rep c (upd Γ.G a u) d (.ref a)) (hy : ∀ o, y ≠ .mu o) (hc : CellOk c { Γ with G := upd Γ.G a u } H a y) :
    ∃ Γ', Γ.le Γ' ∧ FrOk c Γ' { S with st := S.st.set n y } σ H ∧ Rep c Γ'.G d (.ref a) := by
  have ex : Ext Γ.G (upd Γ.G a u) := Ext.upd hG
  have le : Γ.le { Γ with G := upd Γ.G a u } := ⟨ex, rfl, [], by simp⟩
  have F1 : StOk c Γ (S.st.set n .dead) H := F.s.drop (fun _ _ => trivial) (fun _ => by simp)
  have F2 : StOk c { Γ with G := upd Γ.G a u } (S.st.set n .dead) H := F1.takeG hu hG hL fun m p e1 e2 => by
    by_cases hm : n = m
    · subst hm
      have hlt := (List.getElem?_eq_some_iff.mp h).1
      rw [List.getElem?_set_self hlt] at e1
      cases e1
    · rw [List.getElem?_set_ne hm] at e1
      exact hm (F.s.inj n m a o p h e1 ha e2)
  have F3 : StOk c { Γ with G := upd Γ.G a u } ((S.st.set n .dead).set n y) H := F2.drop (fun b hb => by
    have hb' : Γ.ρ[n]? = some b := hb
    rw [ha] at hb'; cases hb'; exact hc) hy
  rw [List.set_set] at F3
  exact ⟨_, le, F.of le F3, hd⟩
theorem objD_some {k : Nat} {fs : List (Str × D)} {d : D} (h : objD k fs = some d) : ∃ l, d = .scr l ∧ k = 0 ∧ fs = [(("own_levels" : Str), D.tup l)] := by
  cases fs with
  | nil => cases h
  | cons f r =>
    obtain ⟨nm, x⟩ := f
    cases x with
    | tup l =>
      have h : (if k = 0 ∧ nm = "own_levels" ∧ r.isEmpty = true then some (D.scr l) else none) = some d := h
      by_cases q : k = 0 ∧ nm = "own_levels" ∧ r.isEmpty = true
      · rw [if_pos q] at h
        cases h
        obtain ⟨q1, q2, q3⟩ := q
        subst q1 q2
        cases r with
        | nil => exact ⟨l, rfl, rfl, rfl⟩
        | cons y ys => cases q3
      · rw [if_neg q] at h; cases h
    | _ => cases h
theorem pure1_ok {K : D → Sg → Gh → Hp → Prop} (F : FrOk c Γ S σ H) (hx : RepR c Γ x v) (P : Post c W σ Γ (pure1 x S) K) : ∃ d Γ' S', Γ.le Γ' ∧ FrOk c Γ' S' σ H ∧ Rep c Γ'.G d v ∧ K d S' Γ' H := by
  cases x with
  | p d => exact ⟨d, Γ, S, Gh.le.refl, F, hx, Post.ok (c := c) (W := W) P Gh.le.refl F⟩
  | r n =>
    obtain ⟨a, ha, hv⟩ := hx
    subst hv
    have P : Post c W σ Γ (pureC n S S.st[n]?) K := P
    cases e : S.st[n]? with
    | none => rw [e] at P; exact P.elim
    | some y =>
      rw [e] at P
      cases y with
      | dead => exact P.elim
      | fz l =>
        obtain ⟨a', vs, h1, h2, h3⟩ := F.s.fro e
        rw [ha] at h1; cases h1
        exact ⟨.lst l, Γ, S, Gh.le.refl, F, Rep.lst_iff.mpr ⟨a, vs, rfl, h2, h3⟩, Post.ok (c := c) (W := W) P Gh.le.refl F⟩
      | mu o =>
        obtain ⟨u, h1, h2, h4, h5⟩ := F.s.cell n _ a e ha
        cases o with
        | lst l =>
          obtain ⟨vs, h2, h3⟩ := h2
          subst h2
          have ex : Ext Γ.G (upd Γ.G a (.lst vs)) := Ext.upd h4
          obtain ⟨Γ', le, F', R'⟩ := freeze_aux (d := .lst l) (y := .fz l) F e ha h1 h4 h5 (Rep.lst_iff.mpr ⟨a, vs, rfl, upd_same, RepL.mono ex h3⟩) (fun _ => by simp) ⟨vs, upd_same, RepL.mono ex h3⟩
          exact ⟨_, Γ', _, le, F', R', Post.ok (c := c) (W := W) P le F'⟩
        | dt kvs => exact P.elim
        | dct kvs =>
          have P : Post c W σ Γ (if kvs.isEmpty = true then Res.ok D.edct { S with st := S.st.set n .dead } else .bad) K := P
          by_cases hk : kvs.isEmpty = true
          · rw [if_pos hk] at P
            obtain ⟨_, h2⟩ := h2
            subst h2
            obtain ⟨Γ', le, F', R'⟩ := freeze_aux (d := .edct) (y := .dead) F e ha h1 h4 h5 (Rep.edct_iff.mpr ⟨a, rfl, upd_same⟩) (fun _ => by simp) trivial
            exact ⟨_, Γ', _, le, F', R', Post.ok (c := c) (W := W) P le F'⟩
          · rw [if_neg hk] at P; exact P.elim
        | obj k fs =>
          have P : Post c W σ Γ (match objD k fs with | some d => Res.ok d { S with st := S.st.set n .dead } | none => .bad) K := P
          cases hd : objD k fs with
          | none => rw [hd] at P; exact P.elim
          | some d =>
            rw [hd] at P
            obtain ⟨l, rfl, rfl, rfl⟩ := objD_some hd
            obtain ⟨dx, fs, h2, v', r, h3, h3', h3''⟩ := h2
            have h3b : r = [] := h3''
            subst h3b h3 h2
            obtain ⟨b, vs, k1, k2, k3⟩ := Rep.tup_iff.mp h3'
            subst k1
            have ex : Ext Γ.G (upd Γ.G a (.ins (c.cls 0) dx [("own_levels", .ref b)])) := Ext.upd h4
            obtain ⟨Γ', le, F', R'⟩ := freeze_aux (d := .scr l) (y := .dead) F e ha h1 h4 h5 (Rep.scr_iff.mpr ⟨a, dx, b, vs, rfl, upd_same, TupS.mono ex k2, RepL.mono ex k3⟩) (fun _ => by simp) trivial
            exact ⟨_, Γ', _, le, F', R', Post.ok (c := c) (W := W) P le F'⟩
end
end Dd

set_option Elab.async false
set_option linter.all false
set_option maxRecDepth 100000
namespace Dd
open PySem PySem.Spec PyProof.Rows L2

/-! ### argument lists, displays -/
def aN : M (List R) := pure []
def aC (f : M R) (g : M (List R)) : M (List R) := do
  let x ← f
  let xs ← g
  pure (x :: xs)
def pur (f : M R) : M R := do
  let x ← f
  let d ← pure1 x
  pure (.p d)
def pureL : List R → M (List D)
  | [] => pure []
  | x :: xs => do
    let d ← pure1 x
    let ds ← pureL xs
    pure (d :: ds)
def allocT (ds : List D) : M R := fun S => if ds.length ≤ sizeLine then .ok (.p (.tup ds)) S else .bad
def allocL (ds : List D) : M R := fun S => if ds.length ≤ sizeLine then .ok (.r S.st.length) { S with st := S.st ++ [.mu (.lst ds)] } else .bad
def tupE (g : M (List R)) : M R := do
  let xs ← g
  let ds ← pureL xs
  allocT ds
def lstE (g : M (List R)) : M R := do
  let xs ← g
  let ds ← pureL xs
  allocL ds
section
variable {X : Cx} {c : Cg} {W : WX} {e a b : Expr} {es : List Expr} {f fa fb : M R} {g : M (List R)} {pos : Pos}
theorem sa_nil : PA X [] (rdA c W aN) := sa_of pa_nil fun σ H Q q => by
  obtain ⟨Γ, S, F, P⟩ := q
  exact Post.ok (c := c) (W := W) P Gh.le.refl F [] rfl
theorem sa_cons (ha : PE X e (rdE c W f)) (hr : PA X es (rdA c W g)) (hs : starEach (e :: es) X.env = (false, eval e X.env) :: starEach es X.env := by rfl) : PA X (e :: es) (rdA c W (aC f g)) :=
  sa_of (pa_cons ha hr hs) fun σ H Q q => by
    obtain ⟨Γ, S, F, P⟩ := q
    refine ⟨Γ, S, F, ?_⟩
    refine (Post.bind P).imp fun x S1 Γ1 H1 e1 F1 ⟨_, P1⟩ v hv => ?_
    refine ⟨Γ1, S1, F1, ?_⟩
    refine (Post.bind P1).imp fun xs S2 Γ2 H2 e2 F2 ⟨_, P2⟩ vs hvs => ?_
    exact Post.ok (c := c) (W := W) P2 Gh.le.refl F2 (v :: vs) ⟨v, vs, rfl, hv.mono e2, hvs⟩
theorem se_pur (ha : PE X e (rdE c W f)) : PE X e (rdE c W (pur f)) := se_of ha fun σ H Q q => by
  obtain ⟨Γ, S, F, P⟩ := q
  refine ⟨Γ, S, F, ?_⟩
  refine (Post.bind P).imp fun x S1 Γ1 H1 e1 F1 ⟨_, P1⟩ v hv => ?_
  obtain ⟨d, Γ2, S2, e2, F2, hd, _, P2⟩ := pure1_ok F1 hv (Post.bind P1)
  exact Post.ok (c := c) (W := W) P2 Gh.le.refl F2 v hd
theorem pureL_ok {σ : L2.St} {H : Hp} : ∀ {xs : List R} {vs : List V} {Γ : Gh} {S : Sg} {K : List D → Sg → Gh → Hp → Prop}, FrOk c Γ S σ H → RepRL c Γ xs vs → Post c W σ Γ (pureL xs S) K → ∃ ds Γ' S', Γ.le Γ' ∧ FrOk c Γ' S' σ H ∧ RepL c Γ'.G ds vs ∧ K ds S' Γ' H
  | [], vs, Γ, S, K, F, hx, P => ⟨[], Γ, S, Gh.le.refl, F, RepL.nil_iff.mpr hx, Post.ok (c := c) (W := W) P Gh.le.refl F⟩
  | x :: xs, vs, Γ, S, K, F, hx, P => by
    obtain ⟨v, r, rfl, h1, h2⟩ := hx
    obtain ⟨d, Γ1, S1, e1, F1, hd, _, P1⟩ := pure1_ok F h1 (Post.bind P)
    obtain ⟨ds, Γ2, S2, e2, F2, hds, _, P2⟩ := pureL_ok F1 (RepRL.mono e1 h2) (Post.bind P1)
    exact ⟨d :: ds, Γ2, S2, e1.trans e2, F2, RepL.cons (Rep.mono e2.g hd) hds, Post.ok (c := c) (W := W) P2 Gh.le.refl F2⟩
/-- a tuple that is made: known to have no dict -/
def tTupF (t : TA) : TE := fun σ H Q => t σ H fun xs H1 => xs.length ≤ sizeLine ∧ ∀ p o, H1 p = none → o.dict = none → Q (.ref p) (upd H1 p (.frz o (.tup xs)))
theorem pe_tupF {x1} {t : TA} (h : PA X es t) : PE X (.Tuple es x1 pos) (tTupF t) := by
  refine ⟨fun pins s σ H Q I hq => ?_⟩
  refine wpAny_Tuple_spliced (thn (h.run pos pins s σ H _ I hq) fun us s1 ⟨xs, H1, I1, r, z, q⟩ => ⟨by rw [← r.length]; exact z, ?_⟩)
  have hf : H1 s1.heap.objs.size = none := I1.hok.fresh (Nat.le_refl _)
  refine ⟨.ref s1.heap.objs.size, upd H1 s1.heap.objs.size (.frz { cls := .type "tuple", data := .seq us.toArray } (.tup xs)), I1.laid (t' := s1.toks) (fun b u e => Heap.get?_push_of_some _ e) (Nat.le_refl _) ?_, rfl, q _ _ hf rfl⟩
  exact ⟨Heap.get?_push_size _ rfl, z, us, r, ⟨_, Heap.get?_push_size _ rfl, rfl, _, rfl⟩⟩
theorem newT_ok {Γ : Gh} {S : Sg} {σ : L2.St} {H : Hp} {ds : List D} {vs : List V} {p : Addr} {o : Obj} (F : FrOk c Γ S σ H) (h : RepL c Γ.G ds vs) (hp : H p = none) (ho : o.dict = none) :
    ∃ Γ', Γ.le Γ' ∧ FrOk c Γ' S σ (upd H p (.frz o (.tup vs))) ∧ Rep c Γ'.G (.tup ds) (.ref p) := by
  have hG : Γ.G p = none := Ext.none F.s.g hp
  have ex : Ext Γ.G (upd Γ.G p (.frz o (.tup vs))) := Ext.upd hG
  have le : Γ.le { Γ with G := upd Γ.G p (.frz o (.tup vs)) } := ⟨ex, rfl, [], by simp⟩
  exact ⟨_, le, F.of le (F.s.newG hp), Rep.tup_iff.mpr ⟨p, vs, rfl, .inl ⟨o, upd_same, ho⟩, RepL.mono ex h⟩⟩
theorem newL_ok {Γ : Gh} {S : Sg} {σ : L2.St} {H : Hp} {ds : List D} {vs : List V} {p : Addr} (F : FrOk c Γ S σ H) (h : RepL c Γ.G ds vs) (hp : H p = none) :
    ∃ Γ', Γ.le Γ' ∧ FrOk c Γ' { S with st := S.st ++ [.mu (.lst ds)] } σ (upd H p (.lst vs)) ∧ RepR c Γ' (.r S.st.length) (.ref p) := by
  have le : Γ.le { Γ with ρ := Γ.ρ ++ [p] } := ⟨Ext.refl, rfl, [p], rfl⟩
  refine ⟨_, le, F.of le (F.s.newC hp ⟨vs, rfl, h⟩), p, ?_, rfl⟩
  show (Γ.ρ ++ [p])[S.st.length]? = some p
  rw [F.s.len]; simp
theorem se_tup {x1} (h : PA X es (rdA c W g)) : PE X (.Tuple es x1 pos) (rdE c W (tupE g)) := se_of (pe_tupF h) fun σ H Q q => by
  obtain ⟨Γ, S, F, P⟩ := q
  refine ⟨Γ, S, F, ?_⟩
  refine (Post.bind P).imp fun xs S1 Γ1 H1 e1 F1 ⟨_, P1⟩ vs hvs => ?_
  obtain ⟨ds, Γ2, S2, e2, F2, hds, _, P2⟩ := pureL_ok F1 hvs (Post.bind P1)
  unfold allocT at P2
  by_cases hz : ds.length ≤ sizeLine
  · rw [if_pos hz] at P2
    refine ⟨by rw [hds.length]; exact hz, fun p o hp ho => ?_⟩
    obtain ⟨Γ3, e3, F3, r3⟩ := newT_ok F2 hds hp ho
    exact P2.ok e3 F3 _ r3
  · rw [if_neg hz] at P2; exact P2.elim
theorem se_lst (h : PA X es (rdA c W g)) : PE X (.List es pos) (rdE c W (lstE g)) := se_of (pe_lst h) fun σ H Q q => by
  obtain ⟨Γ, S, F, P⟩ := q
  refine ⟨Γ, S, F, ?_⟩
  refine (Post.bind P).imp fun xs S1 Γ1 H1 e1 F1 ⟨_, P1⟩ vs hvs => ?_
  obtain ⟨ds, Γ2, S2, e2, F2, hds, _, P2⟩ := pureL_ok F1 hvs (Post.bind P1)
  unfold allocL at P2
  by_cases hz : ds.length ≤ sizeLine
  · rw [if_pos hz] at P2
    refine ⟨by rw [hds.length]; exact hz, fun p hp => ?_⟩
    obtain ⟨Γ3, e3, F3, r3⟩ := newL_ok F2 hds hp
    exact P2.ok e3 F3 _ r3
  · rw [if_neg hz] at P2; exact P2.elim
end

/-! ### functions -/
inductive FR where
  | val (d : D) | new (o : Con)
inductive FRes where
  | ok (r : FR) (st : Store) | exc (x : Xn) (st : Store) | bad
abbrev Fn := List R → Store → FRes
def applyF (S : Sg) : FRes → Res R
  | .ok (.val d) st => .ok (.p d) { S with st := st }
  | .ok (.new o) st => .ok (.r st.length) { S with st := st ++ [.mu o] }
  | .exc x st => .exc x { S with st := st }
  | .bad => .bad
def callM (F : Fn) (n : Nat) (g : M (List R)) : M R := do
  let xs ← g
  fun S => if xs.length = n then applyF S (F xs S.st) else .bad
def FPost (c : Cg) (Γ : Gh) (r : FRes) (Q : VK) (E : XK) : Prop := match r with
  | .ok (.val d) st => ∀ Γ' H' v, Γ.le Γ' → StOk c Γ' st H' → Rep c Γ'.G d v → Q v H'
  | .ok (.new o) st => ∀ Γ' H' a, Γ.le Γ' → StOk c { Γ' with ρ := Γ'.ρ ++ [a] } (st ++ [.mu o]) H' → Q (.ref a) H'
  | .exc x st => ∀ Γ' H' cls dd, Γ.le Γ' → StOk c Γ' st H' → XRep c Γ' H' x cls dd → E cls dd H'
  | .bad => False
def spF (c : Cg) (n : Nat) (F : Fn) : Sp := fun vs H Q E => ∃ xs Γ st, vs.length = n ∧ RepRL c Γ xs vs ∧ StOk c Γ st H ∧ FPost c Γ (F xs st) Q E
theorem le_app {Γ : Gh} {a : Addr} : Γ.le { Γ with ρ := Γ.ρ ++ [a] } := ⟨Ext.refl, rfl, [a], rfl⟩
/-- from the wish at an expression to the promise -/
theorem applyF_ok {c : Cg} {W : WX} {Γ : Gh} {S : Sg} {σ : L2.St} {H : Hp} {r : FRes} {Q : VK} (F : FrOk c Γ S σ H) (P : Post c W σ Γ (applyF S r) fun x S' Γ' H' => ∀ v, RepR c Γ' x v → Q v H') : FPost c Γ r Q (WE W σ) := by
  cases r with
  | bad => exact P.elim
  | exc x st => exact fun Γ' H' cls dd e s q => P Γ' H' cls dd e (F.of e s) q
  | ok r st =>
    cases r with
    | val d => exact fun Γ' H' v e s q => Post.ok (c := c) (W := W) P e (F.of e s) v q
    | new o =>
      intro Γ' H' a e s
      have e' : Γ.le { Γ' with ρ := Γ'.ρ ++ [a] } := e.trans le_app
      refine Post.ok (c := c) (W := W) P e' (F.of e' s) (.ref a) ⟨a, ?_, rfl⟩
      show (Γ'.ρ ++ [a])[st.length]? = some a
      have hl := s.len
      simp at hl
      rw [hl]; simp
/-- a def's promise where no repr is under way -/
structure FnG (P : Program) (w : World) (K : PySem.W.Frag) (mg : Str → Option Value) (base : Heap) (k : Nat) (f : Addr) (fd : FuncData) (ps : List Str) (sp : Sp) : Prop where
  len : ∀ vs H Q E, sp vs H Q E → vs.length = ps.length
  run : ∀ (A : Around) (outer : List Env) (s : Shared) (H : Hp) (args : Args) (us : List Value) (vs : List V) (Q : VK) (E : XK), A.guards = some [] → Room k A → Env0 P w K mg base A outer s H → BindsTo s fd args (ps.zip us) → Vals vs us → sp vs H Q E →
    codeAny (model P w) A (.call (.ref f) args) (CR (L2.CX P w) outer P w H s Q E) s
/-- how a call's outcome is taken -/
theorem taken {X : Cx} {pins : List (Addr × Obj)} {σ : L2.St} {H : Hp} {s s' : Shared} {Q : VK} {E : XK} {r : Result} (hx : PassesAt (L2.CX X.prog X.w) X σ E) (I : L2.Inv X pins σ H s) (h : CR (L2.CX X.prog X.w) X.stack X.prog X.w H s Q E r s') :
    (∃ e, r = .error e ∧ X.xe e s') ∨ ∃ u, r = .ok (.ret u) ∧ EP X pins σ Q u s' := by
  match r, h with
  | .error e, h => exact .inl ⟨e, rfl, hx pins H s e s' I h⟩
  | .ok (.ret u), h => exact .inr ⟨u, rfl, I.after h⟩
theorem run_fnG {X : Cx} {pins : List (Addr × Obj)} {σ : L2.St} {H : Hp} {s : Shared} {Q : VK} {us : List Value} {vs : List V} {E : XK} {k : Nat} {f : Addr} {fd : FuncData} {ps : List Str} {sp : Sp} (F : FnG X.prog X.w X.K X.mg X.base k f fd ps sp) (hG : X.A.guards = some []) (hr : Room k X.A) (hb : Binds X.K fd ps [])
    (hx : PassesAt (L2.CX X.prog X.w) X σ E) (I : L2.Inv X pins σ H s) (r : Vals vs us) (h : sp vs H Q E) : wpAny (model X.prog X.w) X.A (call (.ref f) us) (EP X pins σ Q) X.xe s := by
  have hl : (us ++ []).length = ps.length := by rw [List.append_nil, ← r.length]; exact F.len _ _ _ _ h
  have b := hb s us I.kIn hl
  simp only [List.append_nil] at b
  refine wpAny_call (codeAny_mono (F.run X.A X.stack s H _ us vs Q E hG hr I.env0 b r h) fun r s' hq => ?_)
  rcases taken hx I hq with ⟨e, rfl, q⟩ | ⟨u, rfl, q⟩
  · exact q
  · exact q
theorem pe_callG {X : Cx} {W : WX} {p pos : Pos} {x : Str} {e : Expr} {es : List Expr} {t : TA} {k : Nat} {f : Addr} {fd : FuncData} {ps : List Str} {sp : Sp} (F : FnG X.prog X.w X.K X.mg X.base k f fd ps sp) (hG : X.A.guards = some []) (hr : Room k X.A) (hg : Gl X x) (hm : X.mg x = some (.ref f)) (hk : PySem.W.keepIn X.K (.ref f) = true) (hb : Binds X.K fd ps []) (tk : Takes X W)
    (ha : PA X (e :: es) t) (hdb : (x == ("__debug__" : Str)) = false) (he : starEach (e :: es) X.env = (false, eval e X.env) :: starEach es X.env) (hpl : (backTo pos (starEach es X.env)).any (·.1) = false) :
    PE X (.Call (.Name x p) (e :: es) [] pos) (tCallS sp (WE W) t) :=
  ⟨fun pins s σ H Q I h => wpAny_Call_Name_kw (ld_glob I hg hm (PySem.W.callWith_K (h₀ := X.base) I.ok.mod.kin hk (thn (ha.run pos pins s σ H _ I h) fun us s1 ⟨vs, H1, I1, r, q⟩ => ⟨I1.kIn, run_fnG F hG hr hb (passAt tk σ) I1 r q⟩) he hpl) hdb)⟩
section
variable {X : Cx} {c : Cg} {W : WX} {e a b o : Expr} {es : List Expr} {f fa fb : M R} {g : M (List R)} {pos p apos : Pos} {F : Fn} {n k : Nat} {fA C : Addr} {fd : FuncData} {ps : List Str} {x m : Str}
theorem callM_read {σ : L2.St} {H : Hp} {Q : VK} (q : rdE c W (callM F n g) σ H Q) : rdA c W g σ H fun vs H1 => spF c n F vs H1 Q (WE W σ) := by
  obtain ⟨Γ, S, Fo, P⟩ := q
  refine ⟨Γ, S, Fo, ?_⟩
  refine (Post.bind P).imp fun xs S1 Γ1 H1 e1 F1 ⟨_, P1⟩ vs hvs => ?_
  by_cases h : xs.length = n
  · rw [if_pos h] at P1
    exact ⟨xs, Γ1, S1.st, by rw [hvs.length, h], hvs, F1.s, applyF_ok F1 P1⟩
  · rw [if_neg h] at P1; exact P1.elim
theorem se_call (Fk : FnG X.prog X.w X.K X.mg X.base k fA fd ps (spF c n F)) (hG : X.A.guards = some []) (hr : Room k X.A) (hg : Gl X x) (hm : X.mg x = some (.ref fA)) (hk : PySem.W.keepIn X.K (.ref fA) = true) (hb : Binds X.K fd ps []) (tk : Takes X W)
    (ha : PA X (e :: es) (rdA c W g)) (hdb : (x == ("__debug__" : Str)) = false := by decide) (he : starEach (e :: es) X.env = (false, eval e X.env) :: starEach es X.env := by rfl) (hpl : (backTo pos (starEach es X.env)).any (·.1) = false := by rfl) :
    PE X (.Call (.Name x p) (e :: es) [] pos) (rdE c W (callM F n g)) :=
  se_of (pe_callG Fk hG hr hg hm hk hb tk ha hdb he hpl) fun σ H Q q => callM_read q

/-! ### rules for built-ins -/
def CallD (c : Cg) (W : WX) (op : List R → M R) (r : List V → Hp → VK → Prop) : Prop :=
  ∀ (Γ : Gh) (S : Sg) (σ : L2.St) (H : Hp) (xs : List R) (vs : List V) (Q : VK), FrOk c Γ S σ H → RepRL c Γ xs vs →
    Post c W σ Γ (op xs S) (fun z S' Γ' H' => ∀ u, RepR c Γ' z u → Q u H') → r vs H Q
def opA (op : List R → M R) (g : M (List R)) : M R := g >>= op
theorem opA_read {op : List R → M R} {r : List V → Hp → VK → Prop} (hd : CallD c W op r) {σ : L2.St} {H : Hp} {Q : VK} (q : rdE c W (opA op g) σ H Q) : tCB r (rdA c W g) σ H Q := by
  obtain ⟨Γ, S, F, P⟩ := q
  refine ⟨Γ, S, F, ?_⟩
  refine (Post.bind P).imp fun xs S1 Γ1 H1 e1 F1 ⟨_, P1⟩ vs hvs => ?_
  exact hd Γ1 S1 σ H1 xs vs Q F1 hvs P1
theorem se_callB {id : String} {op : List R → M R} {r : List V → Hp → VK → Prop} (hc : CallR X (.builtin id) r) (hd : CallD c W op r) (hg : Gl X x) (hm : X.mg x = none) (hv : bootBuiltins x = some (.builtin id)) (ha : PA X (e :: es) (rdA c W g)) (hn : x ≠ "__name__" := by decide) (hdb : (x == ("__debug__" : Str)) = false := by decide)
    (he : starEach (e :: es) X.env = (false, eval e X.env) :: starEach es X.env := by rfl) (hpl : (backTo pos (starEach es X.env)).any (·.1) = false := by rfl) : PE X (.Call (.Name x p) (e :: es) [] pos) (rdE c W (opA op g)) :=
  se_of (pe_callB hc hg hm hv ha hn hdb he hpl) fun σ H Q q => opA_read hd q
theorem se_callTy {T : String} {op : List R → M R} {r : List V → Hp → VK → Prop} (hc : CallR X (.type T) r) (hd : CallD c W op r) (hg : Gl X x) (hm : X.mg x = none) (hv : bootBuiltins x = some (.type T)) (ha : PA X (e :: es) (rdA c W g)) (hn : x ≠ "__name__" := by decide) (hdb : (x == ("__debug__" : Str)) = false := by decide)
    (he : starEach (e :: es) X.env = (false, eval e X.env) :: starEach es X.env := by rfl) (hpl : (backTo pos (starEach es X.env)).any (·.1) = false := by rfl) : PE X (.Call (.Name x p) (e :: es) [] pos) (rdE c W (opA op g)) :=
  se_of (pe_callTy hc hg hm hv ha hn hdb he hpl) fun σ H Q q => opA_read hd q
/-- a method of a built-in type: the receiver looked at ahead of the arguments -/
def MtD (c : Cg) (W : WX) (op : R → List R → M R) (r : V → List V → Hp → VK → Prop) : Prop :=
  ∀ (Γ : Gh) (S : Sg) (σ : L2.St) (H : Hp) (x : R) (v : V) (xs : List R) (vs : List V) (Q : VK), FrOk c Γ S σ H → RepR c Γ x v → RepRL c Γ xs vs →
    Post c W σ Γ (op x xs S) (fun z S' Γ' H' => ∀ u, RepR c Γ' z u → Q u H') → r v vs H Q
/-- what is asked of the receiver -/
def TyD (c : Cg) (chk : R → Sg → Bool) (ty : V → Hp → Prop) : Prop := ∀ (Γ : Gh) (S : Sg) (σ : L2.St) (H : Hp) (x : R) (v : V), FrOk c Γ S σ H → RepR c Γ x v → chk x S = true → ty v H
def methM (chk : R → Sg → Bool) (op : R → List R → M R) (f : M R) (g : M (List R)) : M R := do
  let x ← f
  fun S => if chk x S = true then (g >>= op x) S else .bad
def tMg (ty : V → Hp → Prop) (r : V → List V → Hp → VK → Prop) (to : TE) (t : TA) : TE := fun σ H Q => to σ H fun x H1 => ty x H1 ∧ t σ H1 fun xs H2 => r x xs H2 Q
theorem methM_read {chk : R → Sg → Bool} {ty : V → Hp → Prop} {op : R → List R → M R} {r : V → List V → Hp → VK → Prop} (ht : TyD c chk ty) (hd : MtD c W op r) {σ : L2.St} {H : Hp} {Q : VK} (q : rdE c W (methM chk op f g) σ H Q) : tMg ty r (rdE c W f) (rdA c W g) σ H Q := by
  obtain ⟨Γ, S, F, P⟩ := q
  refine ⟨Γ, S, F, ?_⟩
  refine (Post.bind P).imp fun x S1 Γ1 H1 e1 F1 ⟨_, P1⟩ v hv => ?_
  by_cases h : chk x S1 = true
  · rw [if_pos h] at P1
    refine ⟨ht Γ1 S1 σ H1 x v F1 hv h, Γ1, S1, F1, ?_⟩
    refine (Post.bind P1).imp fun xs S2 Γ2 H2 e2 F2 ⟨_, P2⟩ vs hvs => ?_
    exact hd Γ2 S2 σ H2 x v xs vs Q F2 (hv.mono e2) hvs P2
  · rw [if_neg h] at P1; exact P1.elim
/-- the rules of method calls, the type told by any predicate -/
structure TyOk (X : Cx) (T : String) (ty : V → Hp → Prop) : Prop where
  is : ∀ (pins : List (Addr × Obj)) (σ : L2.St) (H : Hp) (s : Shared) (x : V) (v : Value), Inv X pins σ H s → RelV x v → ty x H → s.TypeIs v T ∧ ∀ a, v = .ref a → ∃ ob, s.heap.get? a = some ob ∧ ob.dict = none
theorem tyOk_V {T : String} : TyOk X T (tyV X.K T) := ⟨fun _ _ _ _ _ _ I r ty => tyV_is I r ty⟩
variable {T id : String} {name : Str} {to : TE} {t : TA} {r : V → List V → Hp → VK → Prop} {ty : V → Hp → Prop} {cpos : Pos}
theorem pe_bmG (pa : PlainAttrs T) (slot : Slot T name id) (hty : typeOf (.builtin id) = pure (.type "method_descriptor")) (hT : TyOk X T ty) (hm : MtR X id r) (ho : PE X o to) (ha : PA X (e :: es) t)
    (hbase : attributeBase o name X.env (eval o X.env) = eval o X.env := by rfl)
    (hfew : ((backTo cpos (starEach (e :: es) X.env)).all (fun x => !x.1) && (backToKw cpos (keywordEach [] X.env)).all (fun x => x.1.isSome)
      && decide ((e :: es).length + ([] : List Keyword).length + (if ([] : List Keyword).isEmpty then 0 else 1) < 30)) = true := by rfl)
    (hline : (apos.endLine == cpos.line) = true := by rfl) (hs : starEach (e :: es) X.env = (false, eval e X.env) :: starEach es X.env := by rfl) (hplain : (backTo cpos (starEach es X.env)).any (·.1) = false := by rfl) :
    PE X (.Call (.Attribute o name apos) (e :: es) [] cpos) (tMg ty r to t) := by
  refine ⟨fun pins s σ H Q I h => ?_⟩
  refine wpAny_Call_method_late hbase hfew hline rfl (thn (ho.run pins s σ H _ I h) fun v s1 ⟨x, H1, I1, r1, ty, q1⟩ => ?_)
  obtain ⟨h1, h2⟩ := hT.is _ _ _ _ _ _ I1 r1 ty
  refine ⟨T, id, pa, slot, hty, h1, h2, ?_⟩
  have hA := ha.run cpos pins s1 σ H1 _ I1 q1
  rw [hs] at hA ⊢
  refine Calls.callWith_builtin (by show (false || (backTo cpos (starEach es X.env)).any (·.1)) = false; rw [hplain] <;> rfl) (Calls.evalArgs_plain ?_)
  exact thn hA fun us s2 ⟨vs, H2, I2, r2, q2⟩ => hm pins s2 σ H2 x vs v us Q I2 r1 r2 q2
theorem se_bm {chk : R → Sg → Bool} {op : R → List R → M R} (pa : PlainAttrs T) (slot : Slot T name id) (hty : typeOf (.builtin id) = pure (.type "method_descriptor")) (hT : TyOk X T ty) (hm : MtR X id r) (ht : TyD c chk ty) (hd : MtD c W op r) (ho : PE X o (rdE c W f)) (ha : PA X (e :: es) (rdA c W g))
    (hbase : attributeBase o name X.env (eval o X.env) = eval o X.env := by rfl)
    (hfew : ((backTo cpos (starEach (e :: es) X.env)).all (fun x => !x.1) && (backToKw cpos (keywordEach [] X.env)).all (fun x => x.1.isSome)
      && decide ((e :: es).length + ([] : List Keyword).length + (if ([] : List Keyword).isEmpty then 0 else 1) < 30)) = true := by rfl)
    (hline : (apos.endLine == cpos.line) = true := by rfl) (hs : starEach (e :: es) X.env = (false, eval e X.env) :: starEach es X.env := by rfl) (hplain : (backTo cpos (starEach es X.env)).any (·.1) = false := by rfl) :
    PE X (.Call (.Attribute o name apos) (e :: es) [] cpos) (rdE c W (methM chk op f g)) :=
  se_of (pe_bmG pa slot hty hT hm ho ha hbase hfew hline hs hplain) fun σ H Q q => methM_read ht hd q
end

/-! ### statements -/
section
variable {X : Cx} {c : Cg} {W : WX} {e a b o : Expr} {es : List Expr} {f fa fb : M R} {g : M (List R)} {h h1 h2 : M Fl} {pos pos' : Pos} {st : Stmt} {sts : List Stmt}
def sNx : M Fl := pure .nx
/-- one statement, then others -/
def sSq (h1 h2 : M Fl) : M Fl := do
  let f ← h1
  match f with
  | .nx => h2
  | x => pure x
theorem sSq_nx {S S' : Sg} (q : h1 S = .ok .nx S') : sSq h1 h2 S = h2 S' := by unfold sSq; rw [bind_ok q]
theorem sSq_rt {S S' : Sg} {x : R} (q : h1 S = .ok (.rt x) S') : sSq h1 h2 S = .ok (.rt x) S' := by unfold sSq; rw [bind_ok q]; rfl
theorem sSq_bk {S S' : Sg} (q : h1 S = .ok .bk S') : sSq h1 h2 S = .ok .bk S' := by unfold sSq; rw [bind_ok q]; rfl
theorem sSq_ct {S S' : Sg} (q : h1 S = .ok .ct S') : sSq h1 h2 S = .ok .ct S' := by unfold sSq; rw [bind_ok q]; rfl
theorem sSq_exc {S S' : Sg} {x : Xn} (q : h1 S = .exc x S') : sSq h1 h2 S = .exc x S' := by unfold sSq; rw [bind_exc q]
theorem sSq_bad {S : Sg} (q : h1 S = .bad) : sSq h1 h2 S = .bad := by unfold sSq; rw [bind_bad q]
theorem sss_nil : PSs X [] (rdS c W sNx) := sss_of pss_nil fun E σ H q => by
  obtain ⟨Γ, S, F, P⟩ := q
  exact P Γ σ H Gh.le.refl F
theorem PostS.seq {Γ : Gh} {S : Sg} {E : Ends} (P : PostS c W Γ (sSq h1 h2 S) E) : PostS c W Γ (h1 S) { E with nx := rdS c W h2 E } := by
  cases q : h1 S with
  | bad => rw [sSq_bad q] at P; exact P.elim
  | exc x S' => rw [sSq_exc q] at P; exact P
  | ok a S' =>
    cases a with
    | nx => rw [sSq_nx q] at P; exact fun Γ' σ' H' e F => ⟨Γ', S', F, P.le e⟩
    | rt x => rw [sSq_rt q] at P; exact P
    | bk => rw [sSq_bk q] at P; exact P
    | ct => rw [sSq_ct q] at P; exact P
theorem sss_cons (hs : PS X st (rdS c W h1)) (ht : PSs X sts (rdS c W h2)) : PSs X (st :: sts) (rdS c W (sSq h1 h2)) := sss_of (pss_cons hs ht) fun E σ H q => by
  obtain ⟨Γ, S, F, P⟩ := q
  exact ⟨Γ, S, F, P.seq⟩
theorem sss_one (hs : PS X st (rdS c W h1)) : PSs X [st] (rdS c W h1) := pss_one hs
def sBad : M Fl := bad
def sBk : M Fl := pure .bk
def sCt : M Fl := pure .ct
def sEx (f : M R) : M Fl := do
  let _ ← f
  pure .nx
theorem ss_expr (he : PE X e (rdE c W f)) (hs : swapsWith e none pos.line X.env = pure false := by rfl) : PS X (.Expr e pos) (rdS c W (sEx f)) := ss_of (ps_expr he hs) fun E σ H q => by
  obtain ⟨Γ, S, F, P⟩ := q
  refine ⟨Γ, S, F, (PostS.bindE P).imp fun x S1 Γ1 H1 e1 F1 ⟨_, P1⟩ v hv => ?_⟩
  exact P1 Γ1 σ H1 Gh.le.refl F1
def sRt (f : M R) : M Fl := do
  let x ← f
  pure (.rt x)
theorem ss_ret (he : PE X e (rdE c W f)) : PS X (.Return (some e) pos) (rdS c W (sRt f)) := ss_of (ps_ret he) fun E σ H q => by
  obtain ⟨Γ, S, F, P⟩ := q
  refine ⟨Γ, S, F, (PostS.bindE P).imp fun x S1 Γ1 H1 e1 F1 ⟨_, P1⟩ v hv => ?_⟩
  exact P1 Γ1 σ H1 v Gh.le.refl F1 hv
def sRtN : M Fl := pure (.rt (.p .non))
def sIf (t : M Bool) (h1 h2 : M Fl) : M Fl := do
  let k ← t
  if k = true then h1 else h2
theorem ss_if {t : M Bool} {p q : List Stmt} (hc : PT X e (rdT c W t)) (hp : PSs X p (rdS c W h1)) (hq : PSs X q (rdS c W h2)) : PS X (.If e p q pos) (rdS c W (sIf t h1 h2)) := ss_of (ps_if hc hp hq) fun E σ H q => by
  obtain ⟨Γ, S, F, P⟩ := q
  refine ⟨Γ, S, F, (PostS.bindE P).imp fun k S1 Γ1 H1 e1 F1 ⟨_, P1⟩ => ?_⟩
  cases k with
  | true => exact ⟨Γ1, S1, F1, P1⟩
  | false => exact ⟨Γ1, S1, F1, P1⟩
/-- a name is stored -/
def put (i : Nat) (x : R) : M Unit := fun S => .ok () { S with sl := S.sl.set i (some x) }
theorem FrOk.put {Γ : Gh} {S : Sg} {σ : L2.St} {H : Hp} {x : R} {v : V} (i : Nat) (F : FrOk c Γ S σ H) (h : RepR c Γ x v) : FrOk c Γ { S with sl := S.sl.set i (some x) } (σ.set i (some v)) H := by
  refine ⟨F.s, by simp [F.len], fun j y hj => ?_⟩
  by_cases e : i = j
  · subst e
    have hlt := (List.getElem?_eq_some_iff.mp hj).1
    simp at hlt
    rw [List.getElem?_set_self hlt] at hj
    cases hj
    exact ⟨v, by rw [List.getElem?_set_self (by rw [← F.len]; exact hlt)], h⟩
  · rw [List.getElem?_set_ne e] at hj
    obtain ⟨w, h1, h2⟩ := F.sl j y hj
    exact ⟨w, by rw [List.getElem?_set_ne e]; exact h1, h2⟩
def sSet (i : Nat) (f : M R) : M Fl := do
  let x ← f
  put i x
  pure .nx
theorem ss_set {i : Nat} {x : Str} (hN : X.N.Nodup) (hi : X.N[i]? = some x) (hx : Loc X.env.scope x) (he : PE X e (rdE c W f)) (hs : swapsWith e (some (.Name x pos')) pos.line X.env = pure false := by rfl) (hf : X.fn x = true ∨ X.env.scope.names.lookup x = some .local := by first | exact .inl rfl | exact .inr rfl | assumption) :
    PS X (.Assign [.Name x pos'] e pos) (rdS c W (sSet i f)) := ss_of (ps_set hN hi hx he hs hf) fun E σ H q => by
  obtain ⟨Γ, S, F, P⟩ := q
  refine ⟨Γ, S, F, (PostS.bindE P).imp fun x S1 Γ1 H1 e1 F1 ⟨_, P1⟩ v hv => ?_⟩
  exact P1 Γ1 _ H1 Gh.le.refl (F1.put i hv)
end
end Dd

set_option Elab.async false
set_option linter.all false
set_option maxRecDepth 100000
namespace Dd
open PySem PySem.Spec PyProof.Rows L2

/-! ### tests -/
def toB : R → M Bool := fun x S => match x with
  | .p (.bl b) => .ok b S
  | _ => .bad
def tst (f : M R) : M Bool := f >>= toB
def mNot (t : M Bool) : M Bool := do
  let b ← t
  pure (!b)
def mAnd (t u : M Bool) : M Bool := do
  let b ← t
  if b = true then u else pure false
def mOr (t u : M Bool) : M Bool := do
  let b ← t
  if b = true then pure true else u
section
variable {X : Cx} {c : Cg} {W : WX} {e a b o : Expr} {rest : List Expr} {f fa fb fc : M R} {t u : M Bool} {pos : Pos}
theorem toB_ok {σ : L2.St} {Γ : Gh} {S : Sg} {x : R} {v : V} {K : Bool → Sg → Gh → Hp → Prop} {H : Hp} (F : FrOk c Γ S σ H) (hv : RepR c Γ x v) (P : Post c W σ Γ (toB x S) K) : ∃ k, v = .bl k ∧ K k S Γ H := by
  cases x with
  | r n => exact P.elim
  | p d =>
    cases d with
    | bl k => exact ⟨k, RepR.bl hv, Post.ok (c := c) (W := W) P Gh.le.refl F⟩
    | _ => exact P.elim
theorem tst_read {σ : L2.St} {H : Hp} {Q : Bool → Hp → Prop} (q : rdT c W (tst f) σ H Q) : rdE c W f σ H fun x H1 => ∃ k, x = .bl k ∧ Q k H1 := by
  obtain ⟨Γ, S, F, P⟩ := q
  refine ⟨Γ, S, F, (Post.bind P).imp fun x S1 Γ1 H1 e1 F1 ⟨_, P1⟩ v hv => ?_⟩
  exact toB_ok F1 hv P1
theorem st_val (h : PE X e (rdE c W f)) (he : ∀ whole, isTrue e X.env whole = (do let v ← whole; standAt e.pos; holding [v] (truthy v)) := by intro _; rfl) : PT X e (rdT c W (tst f)) :=
  st_of (pt_val h he) fun σ H Q q => tst_read q
theorem st_cmp {op' : CmpOp} {op : R → R → M R} {r : R2} (ho : OpR X (compareOp op') r) (hd : OpD c W op r) (ha : PE X a (rdE c W fa)) (hb : PE X b (rdE c W fb)) (hm : behindInMarks op' b = false) : PT X (.Compare a [op'] [b] pos) (rdT c W (tst (bin op fa fb))) :=
  st_of (pt_cmpR ho ha hb hm) fun σ H Q q => bin_read hd (tst_read q)
theorem st_not (h : PT X a (rdT c W t)) : PT X (.UnaryOp .Not a pos) (rdT c W (mNot t)) := st_of (pt_not h) fun σ H Q q => by
  obtain ⟨Γ, S, F, P⟩ := q
  refine ⟨Γ, S, F, (Post.bind P).imp fun k S1 Γ1 H1 e1 F1 ⟨_, P1⟩ => ?_⟩
  exact Post.ok (c := c) (W := W) P1 Gh.le.refl F1
theorem sw_and1 (h : PT X a (rdT c W t)) : PW X (.BoolOp .And [a] pos) (rdT c W t) := pw_and1 h
theorem sw_or1 (h : PT X a (rdT c W t)) : PW X (.BoolOp .Or [a] pos) (rdT c W t) := pw_or1 h
theorem sw_and (ha : PT X a (rdT c W t)) (hb : PW X (.BoolOp .And (b :: rest) pos) (rdT c W u)) : PW X (.BoolOp .And (a :: b :: rest) pos) (rdT c W (mAnd t u)) := ⟨fun wh pins s σ H Q I q => (pw_and ha hb).run wh pins s σ H Q I (by
  obtain ⟨Γ, S, F, P⟩ := q
  refine ⟨Γ, S, F, (Post.bind P).imp fun k S1 Γ1 H1 e1 F1 ⟨_, P1⟩ => ?_⟩
  cases k with
  | true => exact ⟨Γ1, S1, F1, P1⟩
  | false => exact Post.ok (c := c) (W := W) P1 Gh.le.refl F1)⟩
theorem sw_or (ha : PT X a (rdT c W t)) (hb : PW X (.BoolOp .Or (b :: rest) pos) (rdT c W u)) : PW X (.BoolOp .Or (a :: b :: rest) pos) (rdT c W (mOr t u)) := ⟨fun wh pins s σ H Q I q => (pw_or ha hb).run wh pins s σ H Q I (by
  obtain ⟨Γ, S, F, P⟩ := q
  refine ⟨Γ, S, F, (Post.bind P).imp fun k S1 Γ1 H1 e1 F1 ⟨_, P1⟩ => ?_⟩
  cases k with
  | false => exact ⟨Γ1, S1, F1, P1⟩
  | true => exact Post.ok (c := c) (W := W) P1 Gh.le.refl F1)⟩
theorem st_bool {o : BoolOp} {es : List Expr} (h : PW X (.BoolOp o es pos) (rdT c W t)) : PT X (.BoolOp o es pos) (rdT c W t) := h.pt
/-- values: a and b, a or b, not a (bools) -/
def eAnd (f g : M R) : M R := do
  let b ← tst f
  if b = true then g else pure (.p (.bl false))
def eOr (f g : M R) : M R := do
  let b ← tst f
  if b = true then pure (.p (.bl true)) else g
def eNot (f : M R) : M R := do
  let b ← tst f
  pure (.p (.bl (!b)))
theorem se_one {o : BoolOp} (h : PE X a (rdE c W f)) : PE X (.BoolOp o [a] pos) (rdE c W f) := pe_one h
theorem se_and (ha : PE X a (rdE c W fa)) (hb : PE X (.BoolOp .And (b :: rest) pos) (rdE c W fb)) : PE X (.BoolOp .And (a :: b :: rest) pos) (rdE c W (eAnd fa fb)) := se_of (pe_and ha hb) fun σ H Q q => by
  obtain ⟨Γ, S, F, P⟩ := q
  refine ⟨Γ, S, F, (Post.bind (Post.bind P)).imp fun x S1 Γ1 H1 e1 F1 ⟨_, P1⟩ v hv => ?_⟩
  obtain ⟨k, ek, _, P2⟩ := toB_ok F1 hv P1
  refine ⟨k, ek, ?_⟩
  cases k with
  | true => exact ⟨Γ1, S1, F1, P2⟩
  | false => exact Post.ok (c := c) (W := W) P2 Gh.le.refl F1 _ ((Rep.bl_iff (c := c) (G := Γ1.G)).mpr rfl)
theorem se_or (ha : PE X a (rdE c W fa)) (hb : PE X (.BoolOp .Or (b :: rest) pos) (rdE c W fb)) : PE X (.BoolOp .Or (a :: b :: rest) pos) (rdE c W (eOr fa fb)) := se_of (pe_or ha hb) fun σ H Q q => by
  obtain ⟨Γ, S, F, P⟩ := q
  refine ⟨Γ, S, F, (Post.bind (Post.bind P)).imp fun x S1 Γ1 H1 e1 F1 ⟨_, P1⟩ v hv => ?_⟩
  obtain ⟨k, ek, _, P2⟩ := toB_ok F1 hv P1
  refine ⟨k, ek, ?_⟩
  cases k with
  | false => exact ⟨Γ1, S1, F1, P2⟩
  | true => exact Post.ok (c := c) (W := W) P2 Gh.le.refl F1 _ ((Rep.bl_iff (c := c) (G := Γ1.G)).mpr rfl)
theorem se_not (ha : PE X a (rdE c W fa)) : PE X (.UnaryOp .Not a pos) (rdE c W (eNot fa)) := se_of (pe_not ha) fun σ H Q q => by
  obtain ⟨Γ, S, F, P⟩ := q
  refine ⟨Γ, S, F, (Post.bind (Post.bind P)).imp fun x S1 Γ1 H1 e1 F1 ⟨_, P1⟩ v hv => ?_⟩
  obtain ⟨k, ek, _, P2⟩ := toB_ok F1 hv P1
  exact ⟨k, ek, Post.ok (c := c) (W := W) P2 Gh.le.refl F1 _ ((Rep.bl_iff (c := c) (G := Γ1.G)).mpr rfl)⟩
def eIf (t : M Bool) (f g : M R) : M R := do
  let b ← t
  if b = true then f else g
theorem se_if {e : Expr} (hc : PT X e (rdT c W t)) (ha : PE X a (rdE c W fa)) (hb : PE X b (rdE c W fb)) : PE X (.IfExp e a b pos) (rdE c W (eIf t fa fb)) := se_of (pe_ifExp hc ha hb) fun σ H Q q => by
  obtain ⟨Γ, S, F, P⟩ := q
  refine ⟨Γ, S, F, (Post.bind P).imp fun k S1 Γ1 H1 e1 F1 ⟨_, P1⟩ => ?_⟩
  cases k with
  | true => exact ⟨Γ1, S1, F1, P1⟩
  | false => exact ⟨Γ1, S1, F1, P1⟩
/-- a op1 b op2 c -/
def eChain (op op' : R → R → M R) (f g h : M R) : M R := do
  let x ← f
  let y ← g
  let z ← op x y
  let b ← toB z
  if b = true then do
    let w ← h
    op' y w
  else pure (.p (.bl false))
theorem se_chain_read {op op' : R → R → M R} {r r' : R2} (hd : OpD c W op r) (hd' : OpD c W op' r') {σ : L2.St} {H : Hp} {Q : VK} (q : rdE c W (eChain op op' fa fb fc) σ H Q) : tChain r r' (rdE c W fa) (rdE c W fb) (rdE c W fc) σ H Q := by
  obtain ⟨Γ, S, F, P⟩ := q
  refine ⟨Γ, S, F, (Post.bind P).imp fun x S1 Γ1 H1 e1 F1 ⟨_, P1⟩ v hv => ?_⟩
  refine ⟨Γ1, S1, F1, (Post.bind P1).imp fun y S2 Γ2 H2 e2 F2 ⟨_, P2⟩ w hw => ?_⟩
  refine hd Γ2 S2 σ H2 x y v w _ F2 (hv.mono e2) hw ((Post.bind P2).imp fun z S3 Γ3 H3 e3 F3 ⟨_, P3⟩ u hu => ?_)
  obtain ⟨k, ek, _, P4⟩ := toB_ok F3 hu (Post.bind P3)
  refine ⟨k, ek, ?_⟩
  cases k with
  | false => exact Post.ok (c := c) (W := W) P4 Gh.le.refl F3 _ ((Rep.bl_iff (c := c) (G := Γ3.G)).mpr rfl)
  | true =>
    refine ⟨Γ3, S3, F3, (Post.bind P4).imp fun y' S4 Γ4 H4 e4 F4 ⟨_, P5⟩ w' hw' => ?_⟩
    exact hd' Γ4 S4 σ H4 y y' w w' Q F4 (hw.mono (e3.trans e4)) hw' P5
theorem se_chain {o o' : CmpOp} {op op' : R → R → M R} {r r' : R2} (ho : OpR X (compareOp o) r) (ho' : OpR X (compareOp o') r') (hd : OpD c W op r) (hd' : OpD c W op' r') {e' : Expr} (ha : PE X a (rdE c W fa)) (hb : PE X b (rdE c W fb)) (hc : PE X e' (rdE c W fc))
    (hm : lastMarks [o, o'] [b, e'] = false := by with_unfolding_all rfl) : PE X (.Compare a [o, o'] [b, e'] pos) (rdE c W (eChain op op' fa fb fc)) :=
  se_of (pe_chain ho ho' ha hb hc hm) fun σ H Q q => se_chain_read hd hd' q
theorem st_chain {o o' : CmpOp} {op op' : R → R → M R} {r r' : R2} (ho : OpR X (compareOp o) r) (ho' : OpR X (compareOp o') r') (hd : OpD c W op r) (hd' : OpD c W op' r') {e' : Expr} (ha : PE X a (rdE c W fa)) (hb : PE X b (rdE c W fb)) (hc : PE X e' (rdE c W fc))
    (hm : lastMarks [o, o'] [b, e'] = false := by with_unfolding_all rfl) : PT X (.Compare a [o, o'] [b, e'] pos) (rdT c W (tst (eChain op op' fa fb fc))) :=
  st_of (pt_chain ho ho' ha hb hc hm) fun σ H Q q => se_chain_read hd hd' (tst_read q)
end

/-! ### targets -/
/-- what a target does with an item -/
abbrev Tg := D → M Unit
def rdG (c : Cg) (W : WX) (t : Tg) : TG := fun v σ H Q => ∃ Γ S d, FrOk c Γ S σ H ∧ Rep c Γ.G d v ∧ match t d S with
  | .ok _ S' => ∀ Γ' σ' H', Γ.le Γ' → FrOk c Γ' S' σ' H' → Q σ' H'
  | _ => False
def rdGs (c : Cg) (W : WX) (t : List D → M Unit) : TGs := fun vs σ H Q => ∃ Γ S ds, FrOk c Γ S σ H ∧ RepL c Γ.G ds vs ∧ match t ds S with
  | .ok _ S' => ∀ Γ' σ' H', Γ.le Γ' → FrOk c Γ' S' σ' H' → Q σ' H'
  | _ => False
def gN (i : Nat) : Tg := fun d => put i (.p d)
def gsN : List D → M Unit := fun ds S => match ds with
  | [] => .ok () S
  | _ => .bad
def gsC (t : Tg) (u : List D → M Unit) : List D → M Unit := fun ds S => match ds with
  | d :: r => (t d >>= fun _ => u r) S
  | _ => .bad
/-- (a, b, ..) = a tuple -/
def gT (n : Nat) (u : List D → M Unit) : Tg := fun d S => match d with
  | .tup l => if l.length = n then u l S else .bad
  | _ => .bad
section
variable {X : Cx} {c : Cg} {W : WX} {e : Expr} {es : List Expr} {t : Tg} {u : List D → M Unit} {pos : Pos}
theorem sg_of {g : TG} (h : PG X e g) (hi : ∀ v σ H Q, rdG c W t v σ H Q → g v σ H Q) : PG X e (rdG c W t) := ⟨fun pins s σ H v u Q I r q => h.run pins s σ H v u Q I r (hi v σ H Q q)⟩
theorem sgs_of {g : TGs} (h : PGs X es g) (hi : ∀ vs σ H Q, rdGs c W u vs σ H Q → g vs σ H Q) : PGs X es (rdGs c W u) := ⟨fun pins s σ H vs us Q I r q => h.run pins s σ H vs us Q I r (hi vs σ H Q q)⟩
theorem sg_name {i : Nat} {x : Str} (hN : X.N.Nodup) (hi : X.N[i]? = some x) (hx : Loc X.env.scope x) (hf : X.fn x = true ∨ X.env.scope.names.lookup x = some .local := by first | exact .inl rfl | exact .inr rfl | assumption) : PG X (.Name x pos) (rdG c W (gN i)) :=
  sg_of (pg_name hN hi hx hf) fun v σ H Q q => by
    obtain ⟨Γ, S, d, F, r, k⟩ := q
    exact k Γ _ H Gh.le.refl (F.put i (x := .p d) r)
theorem sgs_nil : PGs X [] (rdGs c W gsN) := sgs_of pgs_nil fun vs σ H Q q => by
  obtain ⟨Γ, S, ds, F, r, k⟩ := q
  cases ds with
  | nil => exact ⟨RepL.nil_iff.mp r, k Γ σ H Gh.le.refl F⟩
  | cons d ds => exact k.elim
theorem sgs_cons (h1 : PG X e (rdG c W t)) (h2 : PGs X es (rdGs c W u)) (hs : (assignEach (e :: es) X.env).map (·.2) = assign e X.env :: (assignEach es X.env).map (·.2) := by rfl) : PGs X (e :: es) (rdGs c W (gsC t u)) :=
  sgs_of (pgs_cons h1 h2 hs) fun vs σ H Q q => by
    obtain ⟨Γ, S, ds, F, r, k⟩ := q
    cases ds with
    | nil => exact k.elim
    | cons d ds =>
      obtain ⟨v, vs', rfl, h1, h2⟩ := RepL.cons_iff.mp r
      refine ⟨v, vs', rfl, Γ, S, d, F, h1, ?_⟩
      have k : match (t d >>= fun _ => u ds) S with | .ok _ S' => ∀ Γ' σ' H', Γ.le Γ' → FrOk c Γ' S' σ' H' → Q σ' H' | _ => False := k
      rw [bind_ap] at k
      cases e1 : t d S with
      | bad => rw [e1] at k; exact k
      | exc x S' => rw [e1] at k; exact k
      | ok a S' =>
        rw [e1] at k
        intro Γ' σ' H' le F'
        refine ⟨Γ', S', ds, F', RepL.mono le.g h2, ?_⟩
        have k : match u ds S' with | .ok _ S' => ∀ Γ' σ' H', Γ.le Γ' → FrOk c Γ' S' σ' H' → Q σ' H' | _ => False := k
        cases e2 : u ds S' with
        | bad => rw [e2] at k; exact k
        | exc x S2 => rw [e2] at k; exact k
        | ok a S2 => rw [e2] at k; exact fun Γ2 σ2 H2 le2 F2 => k Γ2 σ2 H2 (le.trans le2) F2
theorem sg_tup {k : Nat} {n : Nat} (hc : X.calm = true) (hK : X.K = c.K) (h : PGs X es (rdGs c W u)) (hn : (assignEach es X.env).length = n := by rfl) (hst : (assignEach es X.env).findIdx? (·.1) = none := by rfl) : PG X (.Tuple es k pos) (rdG c W (gT n u)) :=
  sg_of (pg_tup hc h hn hst) fun v σ H Q q => by
    obtain ⟨Γ, S, d, F, r, k⟩ := q
    cases d with
    | tup l =>
      obtain ⟨a, vs, h1, h2, h3⟩ := Rep.tup_iff.mp r
      have k : match (if l.length = n then u l S else .bad) with | .ok _ S' => ∀ Γ' σ' H', Γ.le Γ' → FrOk c Γ' S' σ' H' → Q σ' H' | _ => False := k
      by_cases hl : l.length = n
      · rw [if_pos hl] at k
        exact ⟨a, vs, h1, hK ▸ (TupS.mono F.s.g h2).sq, by rw [h3.length, hl], Γ, S, l, F, h3, k⟩
      · rw [if_neg hl] at k; exact k.elim
    | _ => exact k.elim
/-- target = e, a tuple's items to names -/
def sAsg (f : M R) (t : Tg) : M Fl := do
  let x ← f
  let d ← pure1 x
  t d
  pure .nx
theorem ss_asg {tg e : Expr} {f : M R} (he : PE X e (rdE c W f)) (hg : PG X tg (rdG c W t)) (ht : ∀ d S x S', t d S ≠ .exc x S') (hs : swapsWithSole [tg] e pos.line X.env = pure false := by rfl) (hw : swappedStores [tg] e X.env = pure none := by rfl)
    (h1 : (assignEach [tg] X.env).map (·.2) = [assign tg X.env] := by rfl) : PS X (.Assign [tg] e pos) (rdS c W (sAsg f t)) := ss_of (ps_asg he hg hs hw h1) fun E σ H q => by
  obtain ⟨Γ, S, F, P⟩ := q
  refine ⟨Γ, S, F, (PostS.bindE P).imp fun x S1 Γ1 H1 e1 F1 ⟨_, P1⟩ v hv => ?_⟩
  obtain ⟨d, Γ2, S2, e2, F2, hd, _, P2⟩ := pure1_ok F1 hv (PostS.bindE P1)
  refine ⟨Γ2, S2, d, F2, hd, ?_⟩
  rw [bind_ap] at P2
  cases q : t d S2 with
  | bad => rw [q] at P2; exact P2
  | exc x S' => exact (ht _ _ _ _ q).elim
  | ok a S' => rw [q] at P2; exact fun Γ' σ' H' le F' => P2 Γ' σ' H' le F'
end
theorem gN_noexc {i : Nat} : ∀ d S x S', gN i d S ≠ .exc x S' := fun _ _ _ _ h => by cases h
theorem gsN_noexc : ∀ d S x S', gsN d S ≠ .exc x S' := fun d _ _ _ h => by cases d <;> cases h
theorem gsC_noexc {t : Tg} {u : List D → M Unit} (h1 : ∀ d S x S', t d S ≠ .exc x S') (h2 : ∀ d S x S', u d S ≠ .exc x S') : ∀ d S x S', gsC t u d S ≠ .exc x S' := fun d S x S' h => by
  cases d with
  | nil => cases h
  | cons d r =>
    have h : (t d >>= fun _ => u r) S = .exc x S' := h
    rw [bind_ap] at h
    cases e : t d S with
    | ok a S1 => rw [e] at h; exact h2 _ _ _ _ h
    | exc y S1 => exact h1 _ _ _ _ e
    | bad => rw [e] at h; cases h
theorem gT_noexc {n : Nat} {u : List D → M Unit} (h2 : ∀ d S x S', u d S ≠ .exc x S') : ∀ d S x S', gT n u d S ≠ .exc x S' := fun d S x S' h => by
  cases d with
  | tup l =>
    have h : (if l.length = n then u l S else .bad) = .exc x S' := h
    split at h
    · exact h2 _ _ _ _ h
    · cases h
  | _ => cases h

/-! ### what is walked -/
/-- the items that are come by, and what must stand while they are -/
structure Itm (α : Type) where
  ok : Sg → Prop
  l : List α
/-- the machine's side, items as values -/
def ItOk (c : Cg) (Γ0 : Gh) (I : Itm D) (J : L2.It) : Prop := ∀ (Γ : Gh) (S : Sg) (σ : L2.St) (H : Hp) (i : Nat), Γ0.sub Γ → FrOk c Γ S σ H → I.ok S →
  (∀ d, I.l[i]? = some d → J.go i H ∧ ∀ x H', J.yld i H x H' → ∃ Γ', Γ.le Γ' ∧ FrOk c Γ' S σ H' ∧ Rep c Γ'.G d x) ∧ (I.l.length = i → J.stop i H)
/-- .. items as new pairs -/
def ItOkT (c : Cg) (Γ0 : Gh) (I : Itm (List D)) (J : L2.It) : Prop := ∀ (Γ : Gh) (S : Sg) (σ : L2.St) (H : Hp) (i : Nat), Γ0.sub Γ → FrOk c Γ S σ H → I.ok S →
  (∀ ds, I.l[i]? = some ds → J.go i H ∧ ∀ x H', J.yld i H x H' → ∃ Γ' T vs, Γ.le Γ' ∧ FrOk c Γ' S σ H' ∧ x = .ref T ∧ H' T = some (.tup vs) ∧ RepL c Γ'.G ds vs) ∧ (I.l.length = i → J.stop i H)
def rdI (c : Cg) (W : WX) (f : M (Itm D)) : TI := fun σ H R => ∃ Γ S, FrOk c Γ S σ H ∧ Post c W σ Γ (f S) fun I S' Γ' H' => ∀ J, ItOk c Γ' I J → R J H'
def rdIT (c : Cg) (W : WX) (f : M (Itm (List D))) : TI := fun σ H R => ∃ Γ S, FrOk c Γ S σ H ∧ Post c W σ Γ (f S) fun I S' Γ' H' => ∀ J, ItOkT c Γ' I J → R J H'
open Classical in
/-- the turns of a loop -/
noncomputable def loopL {α : Type} (ok : Sg → Prop) (body : α → M Fl) : List α → M Fl
  | [] => fun S => if ok S then .ok .nx S else .bad
  | d :: ds => fun S => if ok S then (match body d S with
    | .ok .nx S' => loopL ok body ds S'
    | .ok .ct S' => loopL ok body ds S'
    | .ok .bk S' => .ok .nx S'
    | .ok (.rt x) S' => .ok (.rt x) S'
    | .exc x S' => .exc x S'
    | .bad => .bad) else .bad
noncomputable def sFor {α : Type} (it : M (Itm α)) (t : α → M Unit) (h : M Fl) : M Fl := do
  let I ← it
  loopL I.ok (fun d => t d >>= fun _ => h) I.l
section
variable {α : Type} {ok : Sg → Prop} {body : α → M Fl} {d : α} {ds : List α} {S S' : Sg}
theorem loopL_nil (h : ok S) : loopL ok body [] S = .ok .nx S := by unfold loopL; rw [if_pos h]
theorem loopL_cons (h : ok S) : loopL ok body (d :: ds) S = (match body d S with
    | .ok .nx S' => loopL ok body ds S'
    | .ok .ct S' => loopL ok body ds S'
    | .ok .bk S' => .ok .nx S'
    | .ok (.rt x) S' => .ok (.rt x) S'
    | .exc x S' => .exc x S'
    | .bad => .bad) := by
  conv => lhs; unfold loopL
  rw [if_pos h]
theorem loopL_ok {l : List α} (h : loopL ok body l S ≠ .bad) : ok S := by
  apply Classical.byContradiction
  intro hn
  cases l with
  | nil => exact h (by unfold loopL; rw [if_neg hn])
  | cons d ds => exact h (by unfold loopL; rw [if_neg hn])
theorem loopL_nx (h : ok S) (q : body d S = .ok .nx S') : loopL ok body (d :: ds) S = loopL ok body ds S' := by rw [loopL_cons h, q]
theorem loopL_ct (h : ok S) (q : body d S = .ok .ct S') : loopL ok body (d :: ds) S = loopL ok body ds S' := by rw [loopL_cons h, q]
theorem loopL_bk (h : ok S) (q : body d S = .ok .bk S') : loopL ok body (d :: ds) S = .ok .nx S' := by rw [loopL_cons h, q]
theorem loopL_rt {x : R} (h : ok S) (q : body d S = .ok (.rt x) S') : loopL ok body (d :: ds) S = .ok (.rt x) S' := by rw [loopL_cons h, q]
theorem loopL_exc {x : Xn} (h : ok S) (q : body d S = .exc x S') : loopL ok body (d :: ds) S = .exc x S' := by rw [loopL_cons h, q]
end
section
variable {X : Cx} {c : Cg} {W : WX} {tg iter : Expr} {body : List Stmt} {t : Tg} {h : M Fl} {pos : Pos}
theorem PostS.ne {Γ : Gh} {r : Res Fl} {E : Ends} (P : PostS c W Γ r E) : r ≠ .bad := by
  intro e
  rw [e] at P
  exact P
/-- a target ahead of a body -/
theorem bodyG {Γ : Gh} {S : Sg} {σ : L2.St} {H : Hp} {d : D} {v : V} {E : Ends} {r : M Fl} (F : FrOk c Γ S σ H) (hd : Rep c Γ.G d v) (ht : ∀ d S x S', t d S ≠ .exc x S') (P : PostS c W Γ ((t d >>= fun _ => r) S) E) :
    rdG c W t v σ H fun σ2 H2 => rdS c W r E σ2 H2 := by
  refine ⟨Γ, S, d, F, hd, ?_⟩
  rw [bind_ap] at P
  cases q : t d S with
  | bad => rw [q] at P; exact P
  | exc x S' => exact (ht _ _ _ _ q).elim
  | ok a S' => rw [q] at P; exact fun Γ' σ' H' le F' => ⟨Γ', S', F', P.le le⟩
theorem bodyGs {u : List D → M Unit} {Γ : Gh} {S : Sg} {σ : L2.St} {H : Hp} {ds : List D} {vs : List V} {E : Ends} {r : M Fl} (F : FrOk c Γ S σ H) (hd : RepL c Γ.G ds vs) (ht : ∀ d S x S', u d S ≠ .exc x S') (P : PostS c W Γ ((u ds >>= fun _ => r) S) E) :
    rdGs c W u vs σ H fun σ2 H2 => rdS c W r E σ2 H2 := by
  refine ⟨Γ, S, ds, F, hd, ?_⟩
  rw [bind_ap] at P
  cases q : u ds S with
  | bad => rw [q] at P; exact P
  | exc x S' => exact (ht _ _ _ _ q).elim
  | ok a S' => rw [q] at P; exact fun Γ' σ' H' le F' => ⟨Γ', S', F', P.le le⟩
theorem ss_for {it : M (Itm D)} (hp : PassesOwn (model X.prog X.w) X.A X.env X.xe) (hc : X.calm = true) (hi : PI X tg iter (rdI c W it)) (hg : PG X tg (rdG c W t)) (ht : ∀ d S x S', t d S ≠ .exc x S') (hb : PSs X body (rdS c W h))
    (hs : ∀ x, foldedSetIterable iter X.env x = pure x := by intro _; rfl) : PS X (.For tg iter body [] pos) (rdS c W (sFor it t h)) := ss_of (ps_for hp hc hi hg hb hs) fun E σ H q => by
  obtain ⟨Γ, S, F, P⟩ := q
  refine ⟨Γ, S, F, (PostS.bindE P).imp fun I S1 Γ1 H1 e1 F1 ⟨_, P1⟩ J hJ => ?_⟩
  refine ⟨fun i m σ H => m = I.l.length - i ∧ i ≤ I.l.length ∧ ∃ Γ S, Γ1.le Γ ∧ FrOk c Γ S σ H ∧ PostS c W Γ (loopL I.ok (fun d => t d >>= fun _ => h) (I.l.drop i) S) E, ⟨_, rfl, Nat.zero_le _, Γ1, S1, Gh.le.refl, F1, P1⟩, ?_⟩
  rintro i m σ H ⟨rfl, hi, Γ2, S2, e2, F2, P2⟩
  have hok := loopL_ok P2.ne
  obtain ⟨k1, k2⟩ := hJ Γ2 S2 σ H i e2.sub F2 hok
  by_cases hl : i < I.l.length
  · refine .inr ?_
    have hget := List.getElem?_eq_getElem hl
    obtain ⟨g1, g2⟩ := k1 _ hget
    rw [List.drop_eq_getElem_cons hl] at P2
    refine ⟨g1, fun σ' H' => ∃ Γ S, Γ1.le Γ ∧ FrOk c Γ S σ' H' ∧ PostS c W Γ (loopL I.ok (fun d => t d >>= fun _ => h) (I.l.drop (i + 1)) S) E, fun σ' H' ⟨Γ3, S3, e3, F3, P3⟩ => ⟨_, by omega, rfl, hl, Γ3, S3, e3, F3, P3⟩, fun x H' y => ?_⟩
    obtain ⟨Γ3, e3, F3, r3⟩ := g2 x H' y
    refine bodyG F3 r3 ht ?_
    have P3 := PostS.le P2 e3
    have e13 := e2.trans e3
    cases q : (t I.l[i] >>= fun _ => h) S2 with
    | bad => rw [loopL_cons hok, q] at P3; exact P3
    | exc x S' => rw [loopL_exc (body := fun d => t d >>= fun _ => h) hok q] at P3; exact P3
    | ok a S' =>
      cases a with
      | nx => rw [loopL_nx (body := fun d => t d >>= fun _ => h) hok q] at P3; exact fun Γ' σ' H' le F' => ⟨Γ', S', e13.trans le, F', P3.le le⟩
      | ct => rw [loopL_ct (body := fun d => t d >>= fun _ => h) hok q] at P3; exact fun Γ' σ' H' le F' => ⟨Γ', S', e13.trans le, F', P3.le le⟩
      | bk => rw [loopL_bk (body := fun d => t d >>= fun _ => h) hok q] at P3; exact P3
      | rt x => rw [loopL_rt (body := fun d => t d >>= fun _ => h) hok q] at P3; exact P3
  · have e : I.l.length = i := by omega
    refine .inl ⟨k2 e, ?_⟩
    rw [List.drop_eq_nil_of_le (by omega), loopL_nil hok] at P2
    exact P2 Γ2 σ H Gh.le.refl F2
/-- .. over new pairs, to a tuple of names -/
theorem ss_forT {it : M (Itm (List D))} {u : List D → M Unit} {es : List Expr} {kk : Nat} {tpos : Pos} {n : Nat} (hp : PassesOwn (model X.prog X.w) X.A X.env X.xe) (hc : X.calm = true) (hK : X.K = c.K) (hi : PI X (.Tuple es kk tpos) iter (rdIT c W it)) (hg : PGs X es (rdGs c W u)) (ht : ∀ d S x S', u d S ≠ .exc x S') (hb : PSs X body (rdS c W h))
    (hu : ∀ ds S, ds.length ≠ n → u ds S = .bad) (hn : (assignEach es X.env).length = n := by rfl) (hst : (assignEach es X.env).findIdx? (·.1) = none := by rfl)
    (hs : ∀ x, foldedSetIterable iter X.env x = pure x := by intro _; rfl) : PS X (.For (.Tuple es kk tpos) iter body [] pos) (rdS c W (sFor it u h)) := ss_of (ps_for hp hc hi (pg_tup hc hg hn hst) hb hs) fun E σ H q => by
  obtain ⟨Γ, S, F, P⟩ := q
  refine ⟨Γ, S, F, (PostS.bindE P).imp fun I S1 Γ1 H1 e1 F1 ⟨_, P1⟩ J hJ => ?_⟩
  refine ⟨fun i m σ H => m = I.l.length - i ∧ i ≤ I.l.length ∧ ∃ Γ S, Γ1.le Γ ∧ FrOk c Γ S σ H ∧ PostS c W Γ (loopL I.ok (fun d => u d >>= fun _ => h) (I.l.drop i) S) E, ⟨_, rfl, Nat.zero_le _, Γ1, S1, Gh.le.refl, F1, P1⟩, ?_⟩
  rintro i m σ H ⟨rfl, hi, Γ2, S2, e2, F2, P2⟩
  have hok := loopL_ok P2.ne
  obtain ⟨k1, k2⟩ := hJ Γ2 S2 σ H i e2.sub F2 hok
  by_cases hl : i < I.l.length
  · refine .inr ?_
    have hget := List.getElem?_eq_getElem hl
    obtain ⟨g1, g2⟩ := k1 _ hget
    rw [List.drop_eq_getElem_cons hl] at P2
    refine ⟨g1, fun σ' H' => ∃ Γ S, Γ1.le Γ ∧ FrOk c Γ S σ' H' ∧ PostS c W Γ (loopL I.ok (fun d => u d >>= fun _ => h) (I.l.drop (i + 1)) S) E, fun σ' H' ⟨Γ3, S3, e3, F3, P3⟩ => ⟨_, by omega, rfl, hl, Γ3, S3, e3, F3, P3⟩, fun x H' y => ?_⟩
    obtain ⟨Γ3, T, vs, e3, F3, rfl, hT, r3⟩ := g2 x H' y
    have P3 := PostS.le P2 e3
    have e13 := e2.trans e3
    have hlen : vs.length = n := by
      rw [r3.length]
      refine Classical.byContradiction fun hne => ?_
      have qb := hu I.l[i] S2 hne
      rw [loopL_cons hok, bind_bad qb] at P3
      exact P3
    refine ⟨T, vs, rfl, .inl (.inl hT), hlen, bodyGs F3 r3 ht ?_⟩
    cases q : (u I.l[i] >>= fun _ => h) S2 with
    | bad => rw [loopL_cons hok, q] at P3; exact P3
    | exc x S' => rw [loopL_exc (body := fun d => u d >>= fun _ => h) hok q] at P3; exact P3
    | ok a S' =>
      cases a with
      | nx => rw [loopL_nx (body := fun d => u d >>= fun _ => h) hok q] at P3; exact fun Γ' σ' H' le F' => ⟨Γ', S', e13.trans le, F', P3.le le⟩
      | ct => rw [loopL_ct (body := fun d => u d >>= fun _ => h) hok q] at P3; exact fun Γ' σ' H' le F' => ⟨Γ', S', e13.trans le, F', P3.le le⟩
      | bk => rw [loopL_bk (body := fun d => u d >>= fun _ => h) hok q] at P3; exact P3
      | rt x => rw [loopL_rt (body := fun d => u d >>= fun _ => h) hok q] at P3; exact P3
  · have e : I.l.length = i := by omega
    refine .inl ⟨k2 e, ?_⟩
    rw [List.drop_eq_nil_of_le (by omega), loopL_nil hok] at P2
    exact P2 Γ2 σ H Gh.le.refl F2
end
end Dd

set_option Elab.async false
set_option linter.all false
set_option maxRecDepth 100000
namespace Dd
open PySem PySem.Spec PyProof.Rows L2

/-! ### a def runs as its meaning -/
def finishR (base : Nat) (st : Store) : R → FRes
  | .p d => .ok (.val d) (st.take base)
  | .r n => if base ≤ n then (match st[n]? with
    | some (.mu o) => .ok (.new o) (st.take base)
    | some (.fz l) => .ok (.val (.lst l)) (st.take base)
    | _ => .bad) else .bad
def finish (base : Nat) : Res Fl → FRes
  | .ok .nx S => .ok (.val .non) (S.st.take base)
  | .ok (.rt x) S => finishR base S.st x
  | .exc x S => .exc x (S.st.take base)
  | _ => .bad
def startS (n : Nat) (xs : List R) (st : Store) : Sg := { sl := xs.map some ++ List.replicate (n - xs.length) none, st := st }
def runF (n : Nat) (h : M Fl) : Fn := fun xs st => finish st.length (h (startS n xs st))
section
variable {c : Cg} {Γ Γ' : Gh} {st st' : Store} {H H' : Hp}
theorem ConOk.rho {a : Addr} {o : Con} {u : HO} {ρ : List Addr} (h : ConOk c Γ a o u) : ConOk c { Γ with ρ := ρ } a o u := by
  cases o with
  | lst l => exact h
  | dct k => exact h
  | dt k => exact h
  | obj k fs => exact h
theorem StOk.trunc (F : StOk c Γ' st' H') (e : Γ.le Γ') : StOk c { Γ' with ρ := Γ.ρ } (st'.take Γ.ρ.length) H' := by
  obtain ⟨t, ht⟩ := e.r
  have hlen : Γ.ρ.length ≤ st'.length := by rw [F.len, ht]; simp
  have ix : ∀ (n : Nat) (a : Addr), Γ.ρ[n]? = some a → Γ'.ρ[n]? = some a := fun n a h => e.at h
  have cl : ∀ (n : Nat) (x : Cell), (st'.take Γ.ρ.length)[n]? = some x → st'[n]? = some x := fun n x h => by
    rw [List.getElem?_take] at h
    split at h
    · exact h
    · cases h
  refine ⟨F.g, F.l, F.gl, by simp [hlen], fun n x a e1 e2 => ?_, fun n m a o u e1 e2 e3 e4 => F.inj n m a o u (cl _ _ e1) (cl _ _ e2) (ix _ _ e3) (ix _ _ e4)⟩
  have q := F.cell n x a (cl _ _ e1) (ix _ _ e2)
  cases x with
  | mu o =>
    obtain ⟨u, q1, q2, q3, q4⟩ := q
    exact ⟨u, q1, q2.rho, q3, q4⟩
  | fz l => exact q
  | dead => trivial
/-- one cell above is kept -/
theorem StOk.trunc1 {n : Nat} {a : Addr} {o : Con} (F : StOk c Γ' st' H') (e : Γ.le Γ') (hn : Γ.ρ.length ≤ n) (ho : st'[n]? = some (.mu o)) (ha : Γ'.ρ[n]? = some a) :
    StOk c { Γ' with ρ := Γ.ρ ++ [a] } (st'.take Γ.ρ.length ++ [.mu o]) H' := by
  have T := F.trunc e
  have hl : (st'.take Γ.ρ.length).length = Γ.ρ.length := T.len
  refine ⟨F.g, F.l, F.gl, by simp [hl], fun m x b e1 e2 => ?_, fun m k b o1 o2 e1 e2 e3 e4 => ?_⟩
  · by_cases hm : m < Γ.ρ.length
    · rw [List.getElem?_append_left (by omega)] at e1
      have e2' : (Γ.ρ ++ [a])[m]? = some b := e2
      rw [List.getElem?_append_left hm] at e2'
      have q := T.cell m x b e1 e2'
      cases x with
      | mu p => obtain ⟨u, q1, q2, q3, q4⟩ := q; exact ⟨u, q1, q2.rho, q3, q4⟩
      | fz l => exact q
      | dead => trivial
    · have hm' : m = Γ.ρ.length := by
        have := (List.getElem?_eq_some_iff.mp e1).1
        simp [hl] at this; omega
      subst hm'
      have e2' : (Γ.ρ ++ [a])[Γ.ρ.length]? = some b := e2
      have e1' : (st'.take Γ.ρ.length ++ [Cell.mu o])[(st'.take Γ.ρ.length).length]? = some x := by rw [hl]; exact e1
      simp at e1' e2'
      subst e1' e2'
      obtain ⟨u, q1, q2, q3, q4⟩ := F.cell n _ a ho ha
      exact ⟨u, q1, q2.rho, q3, q4⟩
  · have low : ∀ (k : Nat) (p : Con), (st'.take Γ.ρ.length ++ [Cell.mu o])[k]? = some (.mu p) → (Γ.ρ ++ [a])[k]? = some b → (k < Γ.ρ.length ∧ st'[k]? = some (.mu p) ∧ Γ'.ρ[k]? = some b) ∨ (k = Γ.ρ.length ∧ b = a) := fun k p h1 h2 => by
      by_cases hk : k < Γ.ρ.length
      · refine .inl ⟨hk, ?_, ?_⟩
        · rw [List.getElem?_append_left (by omega), List.getElem?_take] at h1
          rw [if_pos hk] at h1; exact h1
        · rw [List.getElem?_append_left hk] at h2
          exact e.at h2
      · have hk' : k = Γ.ρ.length := by
          have := (List.getElem?_eq_some_iff.mp h2).1
          simp at this; omega
        subst hk'
        simp at h2
        exact .inr ⟨rfl, h2.symm⟩
    rcases low m o1 e1 e3 with ⟨a1, a2, a3⟩ | ⟨a1, a2⟩
    · rcases low k o2 e2 e4 with ⟨b1, b2, b3⟩ | ⟨b1, b2⟩
      · exact F.inj m k b o1 o2 a2 b2 a3 b3
      · subst b2
        have := F.inj m n b o1 o a2 ho a3 ha
        omega
    · rcases low k o2 e2 e4 with ⟨b1, b2, b3⟩ | ⟨b1, b2⟩
      · subst a2
        have := F.inj k n b o2 o b2 ho b3 ha
        omega
      · rw [a1, b1]
theorem le_trunc (e : Γ.le Γ') : Γ.le { Γ' with ρ := Γ.ρ } := ⟨e.g, e.l, [], by simp⟩
end
section
variable {P : Program} {w : World} {K : PySem.W.Frag} {mg : Str → Option Value} {base : Heap} {c : Cg}
theorem start_ok {N ps : List Str} {xs : List R} {vs : List V} {Γ : Gh} {st : Store} {H : Hp} (h : RepRL c Γ xs vs) (F : StOk c Γ st H) : FrOk c Γ (startS N.length xs st) (L2.start N vs) H := by
  refine ⟨F, by simp [startS, L2.start, h.length], fun i x hx => ?_⟩
  have hl := h.length
  unfold startS at hx
  simp only at hx
  by_cases hi : i < xs.length
  · rw [List.getElem?_append_left (by simpa using hi)] at hx
    rw [List.getElem?_map] at hx
    cases q : xs[i]? with
    | none => rw [q] at hx; cases hx
    | some y =>
      rw [q] at hx
      cases hx
      obtain ⟨v, h1, h2⟩ := h.get q
      refine ⟨v, ?_, h2⟩
      unfold L2.start
      rw [List.getElem?_append_left (by simp; omega), List.getElem?_map, h1]
      rfl
  · rw [List.getElem?_append_right (by simpa using hi)] at hx
    obtain ⟨_, q⟩ := List.getElem?_eq_some_iff.mp hx
    rw [List.getElem_replicate] at q
    cases q
theorem finish_ok {Γ : Gh} {S : Sg} {st : Store} {r : Res Fl} {Q : VK} {E : XK} (hl : st.length = Γ.ρ.length) (h : FPost c Γ (finish st.length r) Q E) :
    PostS c (fun cls d _ H => E cls d H) Γ r { nx := fun _ H' => Q .non H', rt := Q } := by
  cases r with
  | bad => exact h
  | exc x S' =>
    intro Γ' σ' H' cls dd e F q
    have T := F.s.trunc e
    rw [← hl] at T
    exact h { Γ' with ρ := Γ.ρ } H' cls dd (le_trunc e) T q
  | ok a S' =>
    cases a with
    | nx =>
      intro Γ' σ' H' e F
      have T := F.s.trunc e
      rw [← hl] at T
      exact h { Γ' with ρ := Γ.ρ } H' .non (le_trunc e) T ((Rep.non_iff (c := c) (G := Γ'.G)).mpr rfl)
    | bk => exact (show False from h).elim
    | ct => exact (show False from h).elim
    | rt x =>
      intro Γ' σ' H' v e F q
      have T := F.s.trunc e
      rw [← hl] at T
      have h : FPost c Γ (finishR st.length S'.st x) Q E := h
      cases x with
      | p d => exact h { Γ' with ρ := Γ.ρ } H' v (le_trunc e) T q
      | r n =>
        obtain ⟨a, q1, q2⟩ := q
        subst q2
        unfold finishR at h
        simp only at h
        by_cases hb : st.length ≤ n
        · rw [if_pos hb] at h
          cases q3 : S'.st[n]? with
          | none => rw [q3] at h; exact h.elim
          | some y =>
            rw [q3] at h
            cases y with
            | dead => exact h.elim
            | fz l =>
              obtain ⟨a', vs, k1, k2, k3⟩ := F.s.fro q3
              rw [q1] at k1; cases k1
              exact h { Γ' with ρ := Γ.ρ } H' _ (le_trunc e) T (Rep.lst_iff.mpr ⟨a, vs, rfl, k2, k3⟩)
            | mu o =>
              have T1 := F.s.trunc1 e (by omega) q3 q1
              rw [← hl] at T1
              exact h { Γ' with ρ := Γ.ρ } H' a (le_trunc e) T1
        · rw [if_neg hb] at h; exact h.elim
/-- THE RULE of a def -/
theorem fn_ok {x qual : Str} {st : Stmt} {f : Addr} {fd : FuncData} {N ps : List Str} {k : Nat} {h : M Fl} (F : Fun K x qual st f fd) (S : FnScope N ps (defScope st))
    (hbody : ∀ (cdv : Value) (A : Around) (outer : List Env) (s : Shared) (H : Hp) (E : XK), (A.deeper (envOfC qual (defScope st) s.heap.objs.size f cdv)).guards = some [] → Room k (A.deeper (envOfC qual (defScope st) s.heap.objs.size f cdv)) →
      Takes (cxOf (L2.CX P w) P w K mg base N qual (defScope st) f cdv A outer s H E) (fun cls d _ H => E cls d H) →
      PSs (cxOf (L2.CX P w) P w K mg base N qual (defScope st) f cdv A outer s H E) (defBody st) (rdS c (fun cls d _ H => E cls d H) h)) :
    FnG P w K mg base (k + 1) f fd ps (spF c ps.length (runF N.length h)) := by
  obtain ⟨oc, od, kV, doc, pm, an, cdv, ct, osl, rfl, lk, hcd⟩ := F.ex
  refine ⟨fun vs H Q E ⟨_, _, _, h, _⟩ => h, fun A outer s H args us vs Q E hG hr e0 hb r hsp => ?_⟩
  have keep : ∀ b o, base.get? b = some o → s.heap.get? b = some o := fun b o e => (e0.bs b o e).1
  have KX : K.In s.heap := e0.mod.kin.keeps keep
  obtain ⟨xs, Γ, st', hl, hx, F', hP⟩ := hsp
  have hall : ∀ y ∈ ps.zip us, (defScope st).names.lookup y.1 = some .local ∨ ((defScope st).names.lookup y.1 = some .cell ∧ ((cellsFrom (s.heap.objs.size + 1) (defScope st).names []).lookup y.1).isSome = true) := fun y hy =>
    (S.par y.1 (List.of_mem_zip (a := y.1) (b := y.2) hy).1).imp_right fun q => ⟨q, PySem.W.cellsFrom_some _ _ _ (.inl q)⟩
  have cr := PySem.W.codeRec_of KX hcd
  have lk' := KX _ _ lk
  refine codeAny_call_function hr.depth lk' rfl S.co S.gen rfl cr ?_
  refine hb _ _ _ _ ?_
  refine wpAny_newFunctionEnv_cells S.kind hall fun env he s1 z => ?_
  subst he
  refine ⟨(e0.mod.nolimit.keeps keep).keeps z.toInCall.keep, codeAny_func ?_⟩
  have B := hbody cdv A outer s H E hG (hr.deeper _) (takes_of rfl rfl rfl rfl)
  have I0 : Inv (cxOf (L2.CX P w) P w K mg base N qual (defScope st) f cdv A outer s H E) [] (L2.start N vs) H s1 := inv_start S hr.hd e0 hl r z
  have B2 := B.run [] s1 (L2.start N vs) H { nx := fun _ H' => Q .non H', rt := Q } I0 ⟨Γ, _, start_ok (ps := ps) hx F', finish_ok (S := startS N.length xs st') F'.len hP⟩
  refine wpAny_mono B2 (fun fl s' q => ?_) fun _ _ q => q
  have fin : ∀ {σ' : L2.St} {H' : Hp} {v : V} {u : Value}, L2.Inv (cxOf (L2.CX P w) P w K mg base N qual (defScope st) f cdv A outer s H E) [] σ' H' s' → RelV v u → Q v H' → CE outer P w H s Q u s' :=
    fun {σ' H' v u} J rv q => ⟨v, H', J.os, J.bare, J.base, J.hok, rv, q⟩
  cases fl with
  | ret u =>
    obtain ⟨v, σ', H', J, rv, q⟩ := q
    exact fin J rv q
  | next =>
    obtain ⟨σ', H', J, q⟩ := q
    exact fin (v := V.non) (u := Value.none) J rfl q
  | brk =>
    obtain ⟨_, _, _, q⟩ := q
    exact False.elim q
  | cont =>
    obtain ⟨_, _, _, q⟩ := q
    exact False.elim q
end

/-! ### what is walked: lists, tuples, enumerate, zip, ranges -/
theorem meets_enumerate_newT (l : Addr) (items : Array Value) (n : Nat) (dct : Option Addr) (sl : Array (Option Value)) :
    Meets (Builtin.«enumerate.__new__» ⟨[.type "enumerate", .ref l], []⟩) (fun _ R s => s.heap.get? l = some { cls := .type "tuple", dict := dct, data := .seq items n, slots := sl } ∧
      R (.ok (.ret (.ref (s.heap.push { cls := .type "tuple_iterator", data := .fields #[.ref l, .int 0 0] }).objs.size)))
        { s with heap := (s.heap.push { cls := .type "tuple_iterator", data := .fields #[.ref l, .int 0 0] }).push { cls := .type "enumerate", data := .fields #[.none, .bool false, .ref s.heap.objs.size, rawInt 0, .none, .none] } }) :=
  .of_wp fun prog w A R s h => by
    obtain ⟨hp, g, d, tk, os⟩ := s; obtain ⟨hl, h⟩ := h
    have hsub := sub_enumerate
    have hL : Heap.IsTuple (Shared.heap ⟨hp, g, d, tk, os⟩) l items := ⟨_, hl, rfl, n, rfl⟩
    wp_walk using AutoSeq1.wpAny_loadPart' hl
    refine wpAny_stack_any fun st => wpAny_pure ?_
    split
    · rename_i c _ _ _ _ _
      cases (c == Value.type "enumerate")
      · wp_walk using AutoSeq1.wpAny_loadPart' hl, wpAny_pyIter_tuple hL
        exact ⟨_, rfl, h⟩
      · wp_walk using AutoSeq1.wpAny_loadPart' hl, wpAny_pyIter_tuple hL
        exact ⟨_, rfl, h⟩
    · wp_walk using AutoSeq1.wpAny_loadPart' hl, wpAny_pyIter_tuple hL
      exact ⟨_, rfl, h⟩
theorem call_enumerate_tuple {prog : Program} {w : World} {A : Around} {E : Value → Shared → Prop} {s : Shared} {l : Addr} {items : Array Value} {Q : Value → Shared → Prop} (hL : s.heap.IsTuple l items)
    (h : ∀ h', IsEnum h' (s.heap.objs.size + 1) s.heap.objs.size 0 .none → h'.IsTupleIter s.heap.objs.size l 0 → h'.objs.size = s.heap.objs.size + 2 →
      (∀ b o, s.heap.get? b = some o → h'.get? b = some o) → Q (.ref (s.heap.objs.size + 1)) { s with heap := h' }) :
    wpAny (model prog w) A (call (.type "enumerate") [.ref l]) Q E s := by
  obtain ⟨⟨c, dct, dt, sl⟩, hl, hc, n, hd⟩ := hL
  replace hc : c = .type "tuple" := hc
  replace hd : dt = .seq items n := hd
  subst hc hd
  refine callType_new F.called_enumerate (by decide) (F.typeCall_enumerate_1 _) (F.newCall_enumerate_1 _) (fun obj => F.args_object_init_2 obj _) F.entry_enumerate_new
    (meets_enumerate_newT l items n dct sl) ⟨hl, ?_⟩
  have hz : (s.heap.push { cls := .type "tuple_iterator", data := .fields #[.ref l, .int 0 0] }).objs.size = s.heap.objs.size + 1 := Heap.size_push ..
  show _ ∧ _
  rw [hz]
  have he : IsEnum ((s.heap.push { cls := .type "tuple_iterator", data := .fields #[.ref l, .int 0 0] }).push
      { cls := .type "enumerate", data := .fields #[.none, .bool false, .ref s.heap.objs.size, rawInt 0, .none, .none] }) (s.heap.objs.size + 1) s.heap.objs.size 0 .none := by
    have := Heap.get?_push_size (s.heap.push { cls := .type "tuple_iterator", data := .fields #[.ref l, .int 0 0] })
      (o := { cls := .type "enumerate", data := .fields #[.none, .bool false, .ref s.heap.objs.size, rawInt 0, .none, .none] }) rfl
    rw [hz] at this; exact this
  refine ⟨⟨_, he, rfl⟩, h _ he ⟨_, Heap.get?_push_of_some _ (Heap.get?_push_size _ rfl), rfl, rfl⟩ (by rw [Heap.size_push, hz]) fun b o x => Heap.get?_push_of_some _ (Heap.get?_push_of_some _ x)⟩
/-- the tuple at a, each item in a new pair -/
def IteT (K : PySem.W.Frag) (a : Addr) : L2.It :=
  ⟨fun i H => ∃ (xs : List V) (x : V), SqT K H a xs ∧ xs[i]? = some x, fun i H v H' => ∃ T x, v = .ref T ∧ H T = none ∧ H' = upd H T (.tup [.int (i : Nat), x]) ∧ ∀ xs, SqT K H a xs → xs[i]? = some x, fun i H => ∃ xs : List V, SqT K H a xs ∧ xs.length = i⟩
theorem in1_handled {A : Around} (h : A.handled = none) : A.in1.handled = none := h
theorem turn_enumT {P : Program} {w : World} {K : PySem.W.Frag} {elts : List Expr} {kk : Nat} {tpos : Pos} (a e it : Addr) (hai : a ≠ it) (hae : a ≠ e) :
    Turn P w K (.Tuple elts kk tpos) (IteT K a) [e, it] e (fun i h => (∃ old, IsEnum h e it ((i : Nat) : Int) old) ∧ h.IsTupleIter it a i ∧ e ≠ it) where
  mem := by simp
  obj := fun i h st b hb => by
    obtain ⟨⟨old, he⟩, ⟨o, ho, hc, hd⟩, _⟩ := st
    have e' : b = e ∨ b = it := by simpa using hb
    rcases e' with z | z
    · rw [z]; exact ⟨_, he, fun v q => nomatch q⟩
    · rw [z]; exact ⟨o, ho, fun v q => by rw [hd] at q; cases q⟩
  keep := fun i h h' st k => let ⟨⟨old, he⟩, hi, hne⟩ := st; ⟨⟨old, k e (by simp) _ he⟩, hi.at fun o q => k it (by simp) o q, hne⟩
  item := by
    intro X hP hw hK hc i pins s σ H E I hf st hg
    subst hP hw hK
    obtain ⟨⟨old, he⟩, hit, hne⟩ := st
    obtain ⟨xs, x, hq, hx⟩ := hg
    obtain ⟨its, rv, p, hz⟩ := I.tuple hq
    obtain ⟨u, hu, ru⟩ := rv.get hx
    have hel : e < s.heap.objs.size := Heap.lt_size he
    have hil : it < s.heap.objs.size := by obtain ⟨_, q, _⟩ := hit; exact Heap.lt_size q
    have hlt : i < its.toArray.size := by simpa using (List.getElem?_eq_some_iff.mp hu).1
    refine wpAny_pyNext_enum_itemD (Draws.tuple (prog := X.prog) (w := X.w) (in1_handled (I.ok.hd hc)) it a hai its.toArray) he ⟨hit, p⟩ hlt hne (by simp; exact ⟨hne, Ne.symm hae⟩) fun y h' tk hP ho hit' hT hsz hk => ?_
    have hy : u = y := by
      have hP' : its.toArray[i]? = some y := hP
      have hu' : its.toArray[i]? = some u := by simpa using hu
      rw [hu'] at hP'; exact Option.some.inj hP'
    subst hy
    refine ⟨_, rfl, wpAny_letOwnedTupleGo_enum (s := { s with heap := h', toks := tk + 1 }) ho fun h'' he' sb => ?_⟩
    have hT2 : h''.get? s.heap.objs.size = some { cls := .type "tuple", data := .seq #[.int i tk, u] } := (sb.2 _ (Nat.ne_of_gt hel)).trans hT
    have new : ObjOk X.prog X.w (upd H s.heap.objs.size (.tup [.int (i : Nat), x])) h'' s.heap.objs.size (.tup [.int (i : Nat), x]) :=
      ⟨by show 2 ≤ sizeLine; decide, [.int i tk, u], .cons ⟨_, rfl⟩ (.cons ru .nil), ⟨_, hT2, rfl, _, rfl⟩⟩
    have I1 : Inv X pins σ (upd H s.heap.objs.size (.tup [.int (i : Nat), x])) { s with heap := h'', toks := tk + 1 } :=
      I.turnedNew (ch := [e, it]) (fun b ob hb q => (sb.2 b (fun z => hb (by simp [z]))).trans (hk b ob (fun z => hb (by simp [z])) (fun z => hb (by simp [z])) q)) hf (Nat.le_refl _) new
    refine ⟨.ref s.heap.objs.size, _, I1, rfl, ⟨_, x, rfl, I.hok.fresh (Nat.le_refl _), rfl, fun ys hy => by rw [I.tuple_inj hy hq]; exact hx⟩, ⟨⟨u, ?_⟩, hit'.1.at fun o q => (sb.2 it (Ne.symm hne)).trans q, hne⟩, fun b hb => ?_⟩
    · have e1 : ((i + 1 : Nat) : Int) = (i : Int) + 1 := by omega
      rw [e1]; exact he'
    · have hb' : b < s.heap.objs.size := by
        have e' : b = e ∨ b = it := by simpa using hb
        rcases e' with z | z
        · rw [z]; exact hel
        · rw [z]; exact hil
      rw [upd_ne (Nat.ne_of_lt hb')]
      exact (hf b hb).1
  done := by
    intro X hP hw hK hc i pins s σ H E I hf st hg
    subst hP hw hK
    obtain ⟨⟨old, he⟩, hit, hne⟩ := st
    obtain ⟨xs, hq, hx⟩ := hg
    obtain ⟨its, rv, p, hz⟩ := I.tuple hq
    obtain ⟨f0, f1, f2, f3, f4, f5⟩ := hf it (by simp)
    have hl : its.toArray.size = i := by simp; rw [← rv.length]; exact hx
    subst hl
    exact wpAny_pyNext_enum_endD (Draws.tuple (prog := X.prog) (w := X.w) (in1_handled (I.ok.hd hc)) it a hai its.toArray) he ⟨hit, p⟩ fun h' eb => ⟨rfl, I.turned (t' := s.toks) (fun b o hb q => eb b o hb q) f0 f1 f3 f4 f5⟩
  self := fun A i s Q E st h => let ⟨⟨_, he⟩, _⟩ := st; wpAny_pyIter_enum he h
end Dd

set_option Elab.async false
set_option linter.all false
set_option maxRecDepth 100000
namespace Dd
open PySem PySem.Spec PyProof.Rows L2

/-- arguments that are ints -/
def asI : R → Option Int
  | .p (.int j) => some j
  | _ => none
theorem asI_some {x : R} {j : Int} (h : asI x = some j) : x = .p (.int j) := by
  cases x with
  | r n => cases h
  | p d =>
    cases d with
    | int i => cases h; rfl
    | _ => cases h
def asI1 : List R → Option Int
  | [x] => asI x
  | _ => none
theorem asI1_some {xs : List R} {j : Int} (h : asI1 xs = some j) : xs = [.p (.int j)] := by
  cases xs with
  | nil => cases h
  | cons x xs =>
    cases xs with
    | nil => rw [asI_some h]
    | cons y ys => cases h
def asI2 : List R → Option (Int × Int)
  | [x, y] => match asI x with
    | some i => match asI y with
      | some j => some (i, j)
      | none => none
    | none => none
  | _ => none
theorem asI2_some {xs : List R} {i j : Int} (h : asI2 xs = some (i, j)) : xs = [.p (.int i), .p (.int j)] := by
  cases xs with
  | nil => cases h
  | cons x xs =>
    cases xs with
    | nil => cases h
    | cons y ys =>
      cases ys with
      | cons z zs => cases h
      | nil =>
        unfold asI2 at h
        simp only at h
        cases hx : asI x with
        | none => rw [hx] at h; cases h
        | some i' =>
          rw [hx] at h
          simp only at h
          cases hy : asI y with
          | none => rw [hy] at h; cases h
          | some j' => rw [hy] at h; cases h; rw [asI_some hx, asI_some hy]
/-- a list's or tuple's items -/
def itL (f : M R) : M (Itm D) := do
  let x ← f
  fun S => match getL x S with
    | some l => .ok ⟨fun S' => getL x S' = some l, l⟩ S
    | none => .bad
/-- the items with their numbers -/
def numbered : Nat → List D → List (List D)
  | _, [] => []
  | k, d :: ds => [.int k, d] :: numbered (k + 1) ds
theorem numbered_get : ∀ {l : List D} {k i : Nat} {ds : List D}, (numbered k l)[i]? = some ds → ∃ d, l[i]? = some d ∧ ds = [.int ((k + i : Nat) : Int), d]
  | [], k, i, ds, h => by simp [numbered] at h
  | d :: l, k, i, ds, h => by
    cases i with
    | zero => simp [numbered] at h; exact ⟨d, rfl, h.symm⟩
    | succ i =>
      have h' : (numbered (k + 1) l)[i]? = some ds := by simpa [numbered] using h
      obtain ⟨d', h1, h2⟩ := numbered_get h'
      exact ⟨d', by simpa using h1, by rw [h2]; congr 3; omega⟩
theorem numbered_length : ∀ {l : List D} {k : Nat}, (numbered k l).length = l.length
  | [], _ => rfl
  | _ :: l, k => by simp [numbered, numbered_length (l := l)]
def itE (f : M R) : M (Itm (List D)) := do
  let x ← f
  fun S => match getL x S with
    | some l => .ok ⟨fun S' => getL x S' = some l, numbered 0 l⟩ S
    | none => .bad
def intsFrom (lo : Int) : Nat → List D
  | 0 => []
  | n + 1 => .int lo :: intsFrom (lo + 1) n
theorem intsFrom_length : ∀ {lo : Int} {n : Nat}, (intsFrom lo n).length = n
  | _, 0 => rfl
  | lo, n + 1 => by simp [intsFrom, intsFrom_length]
theorem intsFrom_get : ∀ {lo : Int} {n i : Nat} {d : D}, (intsFrom lo n)[i]? = some d → d = .int (lo + (i : Nat)) ∧ i < n
  | lo, 0, i, d, h => by simp [intsFrom] at h
  | lo, n + 1, i, d, h => by
    cases i with
    | zero => simp [intsFrom] at h; exact ⟨by rw [← h]; simp, by omega⟩
    | succ i =>
      obtain ⟨h1, h2⟩ := intsFrom_get (lo := lo + 1) (n := n) (i := i) (by simpa [intsFrom] using h)
      exact ⟨by rw [h1]; congr 1; omega, by omega⟩
def downFrom (i c : Int) : Nat → List D
  | 0 => []
  | n + 1 => .int i :: downFrom (i + c) c n
section
variable {X : Cx} {c : Cg} {W : WX} {tg e e2 : Expr} {f f2 : M R} {g : M (List R)} {pos p : Pos} {elts : List Expr} {kk : Nat} {tpos : Pos} {es : List Expr}
theorem si_of {t : TI} {it : M (Itm D)} (h : PI X tg e t) (hi : ∀ σ H R, rdI c W it σ H R → t σ H R) : PI X tg e (rdI c W it) := ⟨fun pins s σ H R I q => h.run pins s σ H R I (hi σ H R q)⟩
theorem siT_of {t : TI} {it : M (Itm (List D))} (h : PI X tg e t) (hi : ∀ σ H R, rdIT c W it σ H R → t σ H R) : PI X tg e (rdIT c W it) := ⟨fun pins s σ H R I q => h.run pins s σ H R I (hi σ H R q)⟩
/-- lists and tuples alike -/
def iSeq (K : PySem.W.Frag) (tl : TE) : TI := fun σ H R => tl σ H fun x H1 => ∃ a, x = .ref a ∧ (((∃ xs, SqL K H1 a xs) ∧ R (Itl K a) H1) ∨ ((∃ xs, SqT K H1 a xs) ∧ R (Itt K a) H1))
theorem pi_seq {tl : TE} (hl : PE X e tl) : PI X tg e (iSeq X.K tl) := by
  refine ⟨fun pins s σ H R I h => ?_⟩
  refine thn (hl.run pins s σ H _ I h) fun v s1 ⟨x, H1, I1, r1, a, e1, q⟩ => ?_
  subst e1
  cases r1
  have fin : ∀ (b : Addr), b ∈ [s1.heap.objs.size] → FpOk X pins H1 b := fun b hb => by
    have e : b = s1.heap.objs.size := by simpa using hb
    subst e
    exact I1.fpOk (Nat.le_refl _) (I1.hok.fresh (Nat.le_refl _))
  rcases q with ⟨⟨xs, hq⟩, q⟩ | ⟨⟨xs, hq⟩, q⟩
  · obtain ⟨its, rv, p, hz⟩ := I1.list hq
    refine wpAny_pyIter_list p.isList ?_
    exact ⟨s1.heap.objs.size, [s1.heap.objs.size], _, _, H1, rfl, I1.kept (t' := s1.toks) fun b o e => Heap.get?_push_of_some _ e, turn_list a _, ⟨_, Heap.get?_push_size _ rfl, rfl, rfl⟩, fin, q⟩
  · obtain ⟨its, rv, p, hz⟩ := I1.tuple hq
    refine wpAny_pyIter_tuple (show s1.heap.IsTuple a its.toArray from p) ?_
    exact ⟨s1.heap.objs.size, [s1.heap.objs.size], _, _, H1, rfl, I1.kept (t' := s1.toks) fun b o e => Heap.get?_push_of_some _ e, turn_tuple a _, ⟨_, Heap.get?_push_size _ rfl, rfl, rfl⟩, fin, q⟩
theorem itL_list {Γ0 : Gh} {x : R} {a : Addr} {l : List D} (hv : RepR c Γ0 x (.ref a)) (hx : ∀ S, getLst x S = getL x S) : ItOk c Γ0 ⟨fun S' => getL x S' = some l, l⟩ (Itl c.K a) := by
  intro Γ S σ H i e F hok
  have hok : getL x S = some l := hok
  obtain ⟨a', vs, e1, h1, h2⟩ := getLst_ok F (hv.sub e) ((hx S).trans hok)
  cases e1
  refine ⟨fun d hd => ?_, fun hl => ⟨vs, h1, by rw [h2.length]; exact Nat.le_of_eq hl⟩⟩
  obtain ⟨v, q1, q2⟩ := h2.get hd
  refine ⟨⟨vs, v, h1, q1⟩, fun y H' hy => ?_⟩
  obtain ⟨rfl, hy⟩ := hy
  have := hy vs h1
  rw [q1] at this; cases this
  exact ⟨Γ, Gh.le.refl, F, q2⟩
theorem itL_tup {Γ0 : Gh} {a : Addr} {l : List D} (hv : RepR c Γ0 (.p (.tup l)) (.ref a)) : ItOk c Γ0 ⟨fun S' => getL (.p (.tup l)) S' = some l, l⟩ (Itt c.K a) := by
  intro Γ S σ H i e F hok
  obtain ⟨a', vs, e1, h1, h2⟩ := Rep.tup_iff.mp (RepR.pure.mp (hv.sub e))
  cases e1
  have h1 := (TupS.mono F.s.g h1).sq
  refine ⟨fun d hd => ?_, fun hl => ⟨vs, h1, by rw [h2.length]; exact Nat.le_of_eq hl⟩⟩
  obtain ⟨v, q1, q2⟩ := h2.get hd
  refine ⟨⟨vs, v, h1, q1⟩, fun y H' hy => ?_⟩
  obtain ⟨rfl, hy⟩ := hy
  have := hy vs h1
  rw [q1] at this; cases this
  exact ⟨Γ, Gh.le.refl, F, q2⟩
theorem getL_kind {x : R} {S : Sg} {l : List D} (h : getL x S = some l) : (∀ S, getLst x S = getL x S) ∨ x = .p (.tup l) := by
  cases x with
  | r n => exact .inl fun _ => rfl
  | p d =>
    cases d with
    | tup l' => cases h; exact .inr rfl
    | lst l' => exact .inl fun _ => rfl
    | scp l' => exact .inl fun _ => rfl
    | _ => cases h
theorem si_seq (hK : X.K = c.K) (h : PE X e (rdE c W f)) : PI X tg e (rdI c W (itL f)) := si_of (pi_seq h) fun σ H R q => by
  obtain ⟨Γ, S, F, P⟩ := q
  refine ⟨Γ, S, F, (Post.bind P).imp fun x S1 Γ1 H1 e1 F1 ⟨_, P1⟩ v hv => ?_⟩
  cases q : getL x S1 with
  | none => rw [q] at P1; exact P1.elim
  | some l =>
    rw [q] at P1
    have P2 := fun J hJ => Post.ok (c := c) (W := W) P1 Gh.le.refl F1 J hJ
    obtain ⟨a, vs, rfl, h1, h2⟩ := getL_ok F1 hv q
    refine ⟨a, rfl, ?_⟩
    rw [hK]
    rcases getL_kind q with hx | rfl
    · obtain ⟨a', vs', e1, h1, h2⟩ := getLst_ok F1 hv ((hx S1).trans q)
      cases e1
      exact .inl ⟨⟨vs', h1⟩, P2 _ (itL_list hv hx)⟩
    · obtain ⟨a', vs', e1, h1, h2⟩ := Rep.tup_iff.mp (RepR.pure.mp hv)
      cases e1
      exact .inr ⟨⟨vs', (TupS.mono F1.s.g h1).sq⟩, P2 _ (itL_tup hv)⟩

/-! ### enumerate -/
def iEnumA (K : PySem.W.Frag) (ta : TA) : TI := fun σ H R => ta σ H fun vs H1 => ∃ a, vs = [.ref a] ∧ (((∃ xs, SqL K H1 a xs) ∧ R (Ite K a) H1) ∨ ((∃ xs, SqT K H1 a xs) ∧ R (IteT K a) H1))
theorem pi_enumA {ta : TA} (hg : Gl X "enumerate") (hm : X.mg "enumerate" = none) (ha : PA X [e] ta) (hs : starEach [e] X.env = (false, eval e X.env) :: starEach [] X.env := by rfl) :
    PI X (.Tuple elts kk tpos) (.Call (.Name "enumerate" p) [e] [] pos) (iEnumA X.K ta) := by
  refine ⟨fun pins s σ H R I h => ?_⟩
  refine Call_ (ld_blt I hg hm boot_enumerate (PyProof.Rows.callWith_type1 (thn (ha.run pos pins s σ H _ I h) fun us s1 ⟨vs, H1, I1, r1, q1⟩ => ?_) hs rfl))
  obtain ⟨a, ex, q⟩ := q1
  subst ex
  cases r1 with
  | cons r rr =>
    cases rr
    cases r
    have fin : ∀ b, b ∈ [s1.heap.objs.size + 1, s1.heap.objs.size] → FpOk X pins H1 b := fun b hb => by
      have e' : b = s1.heap.objs.size + 1 ∨ b = s1.heap.objs.size := by simpa using hb
      have hle : s1.heap.objs.size ≤ b := by
        rcases e' with z | z
        · rw [z]; exact Nat.le_add_right _ _
        · rw [z]; exact Nat.le_refl _
      exact I1.fpOk hle (I1.hok.fresh hle)
    rcases q with ⟨⟨xs, hq⟩, q⟩ | ⟨⟨xs, hq⟩, q⟩
    · obtain ⟨its, rv, p', hz⟩ := I1.list hq
      refine call_enumerate_list p'.isList fun h' he hit hsz hk => wpAny_pyIter_enum he ?_
      have I2 : L2.Inv X pins σ H1 { s1 with heap := h' } := I1.kept (t' := s1.toks) hk
      exact ⟨s1.heap.objs.size + 1, [s1.heap.objs.size + 1, s1.heap.objs.size], _, _, H1, rfl, I2, turn_enum a (s1.heap.objs.size + 1) s1.heap.objs.size, ⟨⟨.none, he⟩, hit, Nat.succ_ne_self _⟩, fin, q⟩
    · obtain ⟨its, rv, p', hz⟩ := I1.tuple hq
      refine call_enumerate_tuple (show s1.heap.IsTuple a its.toArray from p') fun h' he hit hsz hk => wpAny_pyIter_enum he ?_
      have I2 : L2.Inv X pins σ H1 { s1 with heap := h' } := I1.kept (t' := s1.toks) hk
      have hlt : a < s1.heap.objs.size := by obtain ⟨o, e, _⟩ := p'; exact Heap.lt_size e
      exact ⟨s1.heap.objs.size + 1, [s1.heap.objs.size + 1, s1.heap.objs.size], _, _, H1, rfl, I2, turn_enumT a (s1.heap.objs.size + 1) s1.heap.objs.size (Nat.ne_of_lt hlt) (Nat.ne_of_lt (Nat.lt_succ_of_lt hlt)), ⟨⟨.none, he⟩, hit, Nat.succ_ne_self _⟩, fin, q⟩
theorem newW_ok {Γ : Gh} {S : Sg} {σ : L2.St} {H : Hp} {vs : List V} {p : Addr} (F : FrOk c Γ S σ H) (hp : H p = none) :
    ∃ Γ', Γ.le Γ' ∧ FrOk c Γ' S σ (upd H p (.tup vs)) := by
  have hG : Γ.G p = none := Ext.none F.s.g hp
  have ex : Ext Γ.G (upd Γ.G p (.tup vs)) := Ext.upd hG
  have le : Γ.le { Γ with G := upd Γ.G p (.tup vs) } := ⟨ex, rfl, [], by simp⟩
  exact ⟨_, le, F.of le (F.s.newG hp)⟩
theorem itE_list {Γ0 : Gh} {x : R} {a : Addr} {l : List D} (hv : RepR c Γ0 x (.ref a)) (hx : ∀ S, getLst x S = getL x S) : ItOkT c Γ0 ⟨fun S' => getL x S' = some l, numbered 0 l⟩ (Ite c.K a) := by
  intro Γ S σ H i e F hok
  have hok : getL x S = some l := hok
  obtain ⟨a', vs, e1, h1, h2⟩ := getLst_ok F (hv.sub e) ((hx S).trans hok)
  cases e1
  refine ⟨fun ds hd => ?_, fun hl => ⟨vs, h1, by rw [h2.length]; rw [numbered_length] at hl; exact Nat.le_of_eq hl⟩⟩
  obtain ⟨d, hd2, rfl⟩ := numbered_get hd
  obtain ⟨v, q1, q2⟩ := h2.get hd2
  refine ⟨⟨vs, v, h1, q1⟩, fun y H' hy => ?_⟩
  obtain ⟨T, x', rfl, hT, rfl, hy⟩ := hy
  have := hy vs h1
  rw [q1] at this; cases this
  obtain ⟨Γ', le, F'⟩ := newW_ok (vs := [.int (i : Nat), v]) F hT
  exact ⟨Γ', T, _, le, F', rfl, upd_same, RepL.cons (Rep.int_iff.mpr (by simp)) (RepL.one (q2.mono le.g))⟩
theorem itE_tup {Γ0 : Gh} {a : Addr} {l : List D} (hv : RepR c Γ0 (.p (.tup l)) (.ref a)) : ItOkT c Γ0 ⟨fun S' => getL (.p (.tup l)) S' = some l, numbered 0 l⟩ (IteT c.K a) := by
  intro Γ S σ H i e F hok
  obtain ⟨a', vs, e1, h1, h2⟩ := Rep.tup_iff.mp (RepR.pure.mp (hv.sub e))
  cases e1
  have h1 := (TupS.mono F.s.g h1).sq
  refine ⟨fun ds hd => ?_, fun hl => ⟨vs, h1, by rw [h2.length]; rw [numbered_length] at hl; exact hl⟩⟩
  obtain ⟨d, hd2, rfl⟩ := numbered_get hd
  obtain ⟨v, q1, q2⟩ := h2.get hd2
  refine ⟨⟨vs, v, h1, q1⟩, fun y H' hy => ?_⟩
  obtain ⟨T, x', rfl, hT, rfl, hy⟩ := hy
  have := hy vs h1
  rw [q1] at this; cases this
  obtain ⟨Γ', le, F'⟩ := newW_ok (vs := [.int (i : Nat), v]) F hT
  exact ⟨Γ', T, _, le, F', rfl, upd_same, RepL.cons (Rep.int_iff.mpr (by simp)) (RepL.one (q2.mono le.g))⟩
theorem si_enum (hK : X.K = c.K) (hg : Gl X "enumerate") (hm : X.mg "enumerate" = none) (h : PE X e (rdE c W f)) (hs : starEach [e] X.env = (false, eval e X.env) :: starEach [] X.env := by rfl) : PI X (.Tuple elts kk tpos) (.Call (.Name "enumerate" p) [e] [] pos) (rdIT c W (itE f)) :=
  siT_of (pi_enumA hg hm (sa_cons h sa_nil hs) hs) fun σ H R q => by
    obtain ⟨Γ, S, F, P⟩ := q
    refine ⟨Γ, S, F, ?_⟩
    rw [show aC f aN S = (match f S with | .ok x S1 => .ok [x] S1 | .exc x S1 => .exc x S1 | .bad => .bad) from by
      show (f >>= fun x => aN >>= fun xs => pure (x :: xs)) S = _
      rw [bind_ap]; cases f S <;> rfl]
    have P := Post.bind P
    cases qf : f S with
    | bad => rw [qf] at P; exact P
    | exc x S' => rw [qf] at P; exact P
    | ok x S1 =>
      rw [qf] at P
      intro Γ1 H1 e1 F1 vs hvs
      obtain ⟨_, P1⟩ := P Γ1 H1 e1 F1
      obtain ⟨v, r, rfl, hv, hr⟩ := hvs
      have hr : r = [] := hr
      subst hr
      cases q : getL x S1 with
      | none => rw [q] at P1; exact P1.elim
      | some l =>
        rw [q] at P1
        have P2 := fun J hJ => Post.ok (c := c) (W := W) P1 Gh.le.refl F1 J hJ
        obtain ⟨a, vs, rfl, h1, h2⟩ := getL_ok F1 hv q
        refine ⟨a, rfl, ?_⟩
        rw [hK]
        rcases getL_kind q with hx | rfl
        · obtain ⟨a', vs', e1, h1, h2⟩ := getLst_ok F1 hv ((hx S1).trans q)
          cases e1
          exact .inl ⟨⟨vs', h1⟩, P2 _ (itE_list hv hx)⟩
        · obtain ⟨a', vs', e1, h1, h2⟩ := Rep.tup_iff.mp (RepR.pure.mp hv)
          cases e1
          exact .inr ⟨⟨vs', (TupS.mono F1.s.g h1).sq⟩, P2 _ (itE_tup hv)⟩

/-! ### ranges -/
theorem itR_ok {Γ0 : Gh} {lo : Int} {n : Nat} : ItOk c Γ0 ⟨fun _ => True, intsFrom lo n⟩ (Itr lo n) := by
  intro Γ S σ H i e F _
  refine ⟨fun d hd => ?_, fun hl => ?_⟩
  · obtain ⟨rfl, hi⟩ := intsFrom_get hd
    refine ⟨hi, fun y H' hy => ?_⟩
    obtain ⟨rfl, rfl⟩ := hy
    exact ⟨Γ, Gh.le.refl, F, Rep.int_iff.mpr rfl⟩
  · rw [intsFrom_length] at hl
    exact Nat.le_of_eq hl
theorem ints1 {Γ : Gh} {xs : List R} {vs : List V} {j : Int} (h : RepRL c Γ xs vs) (e : asI1 xs = some j) : vs = [.int j] := by
  rw [asI1_some e] at h
  obtain ⟨v, r, rfl, h1, h2⟩ := h
  rw [RepR.int h1, show r = [] from h2]
theorem ints2 {Γ : Gh} {xs : List R} {vs : List V} {i j : Int} (h : RepRL c Γ xs vs) (e : asI2 xs = some (i, j)) : vs = [.int i, .int j] := by
  rw [asI2_some e] at h
  obtain ⟨v, r, rfl, h1, u, r', rfl, h2, h3⟩ := h
  rw [RepR.int h1, RepR.int h2, show r' = [] from h3]
def itR1 (g : M (List R)) : M (Itm D) := do
  let xs ← g
  fun S => match asI1 xs with
    | some j => if -(2 ^ 62) ≤ j ∧ j < 2 ^ 62 then .ok ⟨fun _ => True, intsFrom 0 j.toNat⟩ S else .bad
    | none => .bad
theorem si_range1 {a : Expr} (hg : Gl X "range") (hm : X.mg "range" = none) (ha : PA X [a] (rdA c W g)) (hs : starEach [a] X.env = [(false, eval a X.env)] := by rfl) : PI X tg (.Call (.Name "range" p) [a] [] pos) (rdI c W (itR1 g)) :=
  si_of (pi_range1 hg hm ha hs) fun σ H R q => by
    obtain ⟨Γ, S, F, P⟩ := q
    refine ⟨Γ, S, F, (Post.bind P).imp fun xs S1 Γ1 H1 e1 F1 ⟨_, P1⟩ vs hvs => ?_⟩
    cases q : asI1 xs with
    | none => rw [q] at P1; exact P1.elim
    | some j =>
      rw [q] at P1
      have P1 : Post c W σ Γ1 (if -(2 ^ 62) ≤ j ∧ j < 2 ^ 62 then Res.ok (⟨fun _ => True, intsFrom 0 j.toNat⟩ : Itm D) S1 else .bad) _ := P1
      by_cases h : -(2 ^ 62) ≤ j ∧ j < 2 ^ 62
      · rw [if_pos h] at P1
        exact ⟨j, ints1 hvs q, h.1, h.2, Post.ok (c := c) (W := W) P1 Gh.le.refl F1 _ itR_ok⟩
      · rw [if_neg h] at P1; exact P1.elim
end

end Dd

set_option Elab.async false
set_option linter.all false
set_option maxRecDepth 100000
namespace Dd
open PySem PySem.Spec PyProof.Rows L2

/-! ### comprehensions -/
def setS (S : Sg) : List Nat → List D → Sg
  | k :: ks, d :: ds => setS { S with sl := S.sl.set k (some (.p d)) } ks ds
  | _, _ => S
def setV (σ : L2.St) : List Nat → List V → L2.St
  | k :: ks, v :: vs => setV (σ.set k (some v)) ks vs
  | _, _ => σ
/-- the slots of a block's own names, forgotten -/
def wipeL (sl : List (Option R)) : List Nat → List (Option R)
  | [] => sl
  | v :: vs => (wipeL sl vs).set v none
def wipeS (S : Sg) (vs : List Nat) : Sg := { S with sl := wipeL S.sl vs }
/-- one turn: the target, the test, the element; the own names forgotten -/
def lcB {α : Type} (own ks : List Nat) (unp : α → Option (List D)) (tt : M Bool) (f : M R) : α → M (Option D) := fun x S => match unp x with
  | some ds => if ds.length = ks.length then (do
      let b ← tt
      if b = true then do
        let x ← f
        let y ← pure1 x
        fun S => .ok (some y) (wipeS S own)
      else fun S => .ok none (wipeS S own)) (setS S ks ds) else .bad
  | none => .bad
open Classical in
noncomputable def lcL {α : Type} (ok : Sg → Prop) (body : α → M (Option D)) : List α → List D → M (List D)
  | [], acc => fun S => if ok S then .ok acc S else .bad
  | d :: ds, acc => fun S => if ok S then (match body d S with
    | .ok none S' => lcL ok body ds acc S'
    | .ok (some y) S' => if acc.length < sizeLine then lcL ok body ds (acc ++ [y]) S' else .bad
    | _ => .bad) else .bad
def lcFin (S1 : Sg) : Res (List D) → Res R
  | .ok acc S' => allocL acc { S1 with st := S'.st }
  | _ => .bad
/-- [f for ks in it if tt]; own: the block's own names' slots -/
noncomputable def lcE {α : Type} (own ks : List Nat) (unp : α → Option (List D)) (it : M (Itm α)) (tt : M Bool) (f : M R) : M R := do
  let I ← it
  fun S => lcFin S (lcL I.ok (lcB own ks unp tt f) I.l [] (wipeS S own))
def tYesM : M Bool := pure true
def unp1 : D → Option (List D) := fun d => some [d]
def unpT : D → Option (List D) := fun d => match d with
  | .tup l => some l
  | _ => none
def unpW : List D → Option (List D) := some
section
variable {α : Type} {ok : Sg → Prop} {body : α → M (Option D)} {d : α} {ds : List α} {acc : List D} {S S' : Sg} {y : D}
theorem lcL_nil (h : ok S) : lcL ok body [] acc S = .ok acc S := by unfold lcL; rw [if_pos h]
theorem lcL_ok {l : List α} {r : List D} (h : lcL ok body l acc S = .ok r S') : ok S := by
  apply Classical.byContradiction
  intro hn
  cases l with
  | nil => unfold lcL at h; rw [if_neg hn] at h; cases h
  | cons d ds => unfold lcL at h; rw [if_neg hn] at h; cases h
theorem lcL_inv {r : List D} {SF : Sg} (h : lcL ok body (d :: ds) acc S = .ok r SF) : (∃ S', body d S = .ok none S' ∧ lcL ok body ds acc S' = .ok r SF) ∨ ∃ y S', body d S = .ok (some y) S' ∧ acc.length < sizeLine ∧ lcL ok body ds (acc ++ [y]) S' = .ok r SF := by
  have hok := lcL_ok h
  unfold lcL at h
  rw [if_pos hok] at h
  cases q : body d S with
  | bad => rw [q] at h; cases h
  | exc x S' => rw [q] at h; cases h
  | ok a S' =>
    rw [q] at h
    cases a with
    | none => exact .inl ⟨S', rfl, h⟩
    | some y =>
      simp only at h
      by_cases hl : acc.length < sizeLine
      · rw [if_pos hl] at h; exact .inr ⟨y, S', rfl, hl, h⟩
      · rw [if_neg hl] at h; cases h
end
section
variable {c : Cg} {W : WX} {Γ : Gh} {S : Sg} {σ : L2.St} {H : Hp}
theorem FrOk.wipe (F : FrOk c Γ S σ H) : ∀ (vs : List Nat), FrOk c Γ (wipeS S vs) (L2.wipe σ vs) H
  | [] => F
  | v :: vs => by
    have G := FrOk.wipe F vs
    refine ⟨G.s, by show ((wipeL S.sl vs).set v none).length = ((L2.wipe σ vs).set v none).length; rw [List.length_set, List.length_set]; exact G.len, fun i x h => ?_⟩
    have h : ((wipeL S.sl vs).set v none)[i]? = some (some x) := h
    show ∃ w, ((L2.wipe σ vs).set v none)[i]? = some (some w) ∧ _
    by_cases e : v = i
    · subst e
      have hlt := (List.getElem?_eq_some_iff.mp h).1
      simp at hlt
      rw [List.getElem?_set_self hlt] at h
      cases h
    · rw [List.getElem?_set_ne e] at h ⊢
      exact G.sl i x h
theorem FrOk.putL : ∀ {ks : List Nat} {ds : List D} {vs : List V} {S : Sg} {σ : L2.St}, FrOk c Γ S σ H → RepL c Γ.G ds vs → FrOk c Γ (setS S ks ds) (setV σ ks vs) H
  | [], _, _, _, _, F, _ => by unfold setS setV; exact F
  | k :: ks, [], vs, _, _, F, h => by rw [RepL.nil_iff.mp h]; unfold setS setV; exact F
  | k :: ks, d :: ds, vs, S, σ, F, h => by
    obtain ⟨v, r, rfl, h1, h2⟩ := RepL.cons_iff.mp h
    unfold setS setV
    exact FrOk.putL (F.put k (x := .p d) h1) h2
theorem set_wipe_comm {σ : L2.St} {i : Nat} {x : Option V} : ∀ {ws : List Nat}, i ∈ ws → wipe (σ.set i x) ws = wipe σ ws
  | w :: ws, h => by
    unfold wipe
    by_cases e : w = i
    · subst e
      by_cases hm : w ∈ ws
      · rw [set_wipe_comm hm]
      · have : wipe (σ.set w x) ws = (wipe σ ws).set w x := by
          clear h
          induction ws with
          | nil => rfl
          | cons y ys ih =>
            simp only [List.mem_cons, not_or] at hm
            unfold wipe
            rw [ih hm.2, List.set_comm _ _ hm.1]
        rw [this, List.set_set]
    · rw [set_wipe_comm ((List.mem_cons.mp h).resolve_left fun q => e q.symm)]
theorem setV_wipe : ∀ {ks : List Nat} {vs : List V} {σ : L2.St} {ws : List Nat}, (∀ k ∈ ks, k ∈ ws) → wipe (setV σ ks vs) ws = wipe σ ws
  | [], _, _, _, _ => by unfold setV; rfl
  | k :: ks, [], _, _, _ => by unfold setV; rfl
  | k :: ks, v :: vs, σ, ws, h => by
    unfold setV
    rw [setV_wipe (fun k' hk => h k' (List.mem_cons_of_mem _ hk)), set_wipe_comm (h k List.mem_cons_self)]
theorem wipe_wipe {σ : L2.St} {ws : List Nat} : wipe (wipe σ ws) ws = wipe σ ws := by
  apply List.ext_getElem?
  intro i
  have key : ∀ (ws : List Nat) (τ : L2.St), (wipe τ ws)[i]? = if i ∈ ws then (τ[i]?).map (fun _ => none) else τ[i]? := by
    intro ws
    induction ws with
    | nil => intro τ; simp [wipe]
    | cons w ws ih =>
      intro τ
      unfold wipe
      by_cases e : w = i
      · subst e
        simp only [List.mem_cons_self, if_true]
        by_cases hl : w < (wipe τ ws).length
        · rw [List.getElem?_set_self hl]
          rw [wipe_length] at hl
          rw [List.getElem?_eq_getElem hl]; rfl
        · rw [List.getElem?_eq_none (by simpa using hl)]
          rw [wipe_length] at hl
          rw [List.getElem?_eq_none (by omega)]; rfl
      · rw [List.getElem?_set_ne e, ih]
        have : (i ∈ w :: ws) ↔ i ∈ ws := by simp [Ne.symm e]
        simp only [this]
  rw [key, key]
  split
  · cases σ[i]? <;> rfl
  · rfl
/-- a tracked object that nothing else speaks of becomes a cell -/
theorem StOk.adopt {st : Store} {p : Addr} {o : Con} {u : HO} (F : StOk c Γ st H) (hp : H p = some u) (hG : Γ.G p = none) (hL : Γ.L p = none) (hn : ∀ (n : Nat) (q : Con), st[n]? = some (.mu q) → Γ.ρ[n]? ≠ some p) (ho : ConOk c Γ p o u) :
    StOk c { Γ with ρ := Γ.ρ ++ [p] } (st ++ [.mu o]) H := by
  have le : Γ.le { Γ with ρ := Γ.ρ ++ [p] } := le_app
  have lo : ∀ (n : Nat) (x : Cell) (a : Addr), (st ++ [Cell.mu o])[n]? = some x → (Γ.ρ ++ [p])[n]? = some a → (n < st.length ∧ st[n]? = some x ∧ Γ.ρ[n]? = some a) ∨ (n = st.length ∧ x = .mu o ∧ a = p) := fun n x a e1 e2 => by
    by_cases hn : n < st.length
    · have hn2 : n < Γ.ρ.length := by rw [← F.len]; exact hn
      rw [List.getElem?_append_left hn] at e1
      rw [List.getElem?_append_left hn2] at e2
      exact .inl ⟨hn, e1, e2⟩
    · have hn' : n = st.length := by
        have := (List.getElem?_eq_some_iff.mp e1).1
        simp at this; omega
      subst hn'
      rw [F.len] at e2
      simp at e1 e2
      exact .inr ⟨rfl, e1.symm, e2.symm⟩
  refine ⟨F.g, F.l, F.gl, by simp [F.len], fun n x a e1 e2 => ?_, fun n m a q q' e1 e2 e3 e4 => ?_⟩
  · rcases lo n x a e1 e2 with ⟨_, h1, h2⟩ | ⟨_, rfl, rfl⟩
    · have q := F.cell n x a h1 h2
      cases x with
      | mu w => obtain ⟨w', k1, k2, k3, k4⟩ := q; exact ⟨w', k1, k2.mono le, k3, k4⟩
      | fz l => exact q
      | dead => trivial
    · exact ⟨u, hp, ho.mono le, hG, hL⟩
  · rcases lo n _ a e1 e3 with ⟨_, h1, h2⟩ | ⟨h0, h1, h2⟩
    · rcases lo m _ a e2 e4 with ⟨_, k1, k2⟩ | ⟨k0, k1, k2⟩
      · exact F.inj n m a q q' h1 k1 h2 k2
      · subst k2; exact (hn n q h1 h2).elim
    · rcases lo m _ a e2 e4 with ⟨_, k1, k2⟩ | ⟨k0, k1, k2⟩
      · subst h2; exact (hn m q' k1 k2).elim
      · rw [h0, k0]
/-- another L: what it speaks of apart from the cells and G -/
theorem StOk.relL {st : Store} {L : Hp} (F : StOk c Γ st H) (hL : Ext L H) (hg : ∀ a o, L a = some o → Γ.G a = none) (hc : ∀ (n : Nat) (q : Con) (a : Addr), st[n]? = some (.mu q) → Γ.ρ[n]? = some a → L a = none) : StOk c { Γ with L := L } st H where
  g := F.g
  l := hL
  gl := hg
  len := F.len
  cell := fun n x a e1 e2 => by
    have q := F.cell n x a e1 e2
    cases x with
    | mu w =>
      obtain ⟨w', k1, k2, k3, k4⟩ := q
      refine ⟨w', k1, ?_, k3, hc n w a e1 e2⟩
      cases w with
      | lst l => exact k2
      | dct k => exact k2
      | dt k => exact k2
      | obj k fs => exact k2
    | fz l => exact q
    | dead => trivial
  inj := F.inj
theorem FrOk.relL {L : Hp} (F : FrOk c Γ S σ H) (hL : Ext L H) (hg : ∀ a o, L a = some o → Γ.G a = none) (hc : ∀ (n : Nat) (q : Con) (a : Addr), S.st[n]? = some (.mu q) → Γ.ρ[n]? = some a → L a = none) : FrOk c { Γ with L := L } S σ H :=
  ⟨F.s.relL hL hg hc, F.len, fun i x h => let ⟨v, h1, h2⟩ := F.sl i x h; ⟨v, h1, by cases x <;> exact h2⟩⟩
/-- the list at D, kept by L, is written -/
theorem FrOk.setL {D : Addr} {u u' : HO} (F : FrOk c Γ S σ H) (hD : Γ.L D = some u) : FrOk c { Γ with L := upd Γ.L D u' } S σ (upd H D u') := by
  have hG : Γ.G D = none := F.s.gl D _ hD
  have hc : ∀ (n : Nat) (q : Con) (a : Addr), S.st[n]? = some (.mu q) → Γ.ρ[n]? = some a → a ≠ D := fun n q a e1 e2 z => by
    obtain ⟨w, _, _, _, k⟩ := F.s.cell n _ a e1 e2
    rw [z, hD] at k; cases k
  refine ⟨⟨fun a o e => ?_, fun a o e => ?_, fun a o e => ?_, F.s.len, fun n x a e1 e2 => ?_, F.s.inj⟩, F.len, fun i x h => let ⟨v, h1, h2⟩ := F.sl i x h; ⟨v, h1, by cases x <;> exact h2⟩⟩
  · have : a ≠ D := fun z => by
      have e' : Γ.G a = some o := e
      rw [z, hG] at e'; cases e'
    rw [upd_ne this]; exact F.s.g a o e
  · by_cases h : a = D
    · subst h
      have e' : upd Γ.L a u' a = some o := e
      rw [upd_same] at e' ⊢; exact e'
    · have e' : upd Γ.L D u' a = some o := e
      rw [upd_ne h] at e' ⊢; exact F.s.l a o e'
  · by_cases h : a = D
    · rw [h]; exact hG
    · have e' : upd Γ.L D u' a = some o := e
      rw [upd_ne h] at e'; exact F.s.gl a o e'
  · have q := F.s.cell n x a e1 e2
    cases x with
    | mu w =>
      obtain ⟨w', k1, k2, k3, k4⟩ := q
      have hne := hc n w a e1 e2
      refine ⟨w', by rw [upd_ne hne]; exact k1, ?_, k3, by show upd Γ.L D u' a = none; rw [upd_ne hne]; exact k4⟩
      cases w with
      | lst l => exact k2
      | dct k => exact k2
      | dt k => exact k2
      | obj k fs => exact k2
    | fz l => exact q
    | dead => trivial
/-- a new object, kept by L -/
theorem FrOk.newL {D : Addr} {u : HO} (F : FrOk c Γ S σ H) (hD : H D = none) : FrOk c { Γ with L := upd Γ.L D u } S σ (upd H D u) := by
  have hG : Γ.G D = none := Ext.none F.s.g hD
  have hL : Γ.L D = none := Ext.none F.s.l hD
  refine ⟨⟨fun a o e => ?_, fun a o e => ?_, fun a o e => ?_, F.s.len, fun n x a e1 e2 => ?_, F.s.inj⟩, F.len, fun i x h => let ⟨v, h1, h2⟩ := F.sl i x h; ⟨v, h1, by cases x <;> exact h2⟩⟩
  · have e' : Γ.G a = some o := e
    rw [upd_ne (ne_of_none (F.s.g a o e') hD)]; exact F.s.g a o e'
  · by_cases h : a = D
    · subst h
      have e' : upd Γ.L a u a = some o := e
      rw [upd_same] at e' ⊢; exact e'
    · have e' : upd Γ.L D u a = some o := e
      rw [upd_ne h] at e' ⊢; exact F.s.l a o e'
  · by_cases h : a = D
    · rw [h]; exact hG
    · have e' : upd Γ.L D u a = some o := e
      rw [upd_ne h] at e'; exact F.s.gl a o e'
  · have q := F.s.cell n x a e1 e2
    cases x with
    | mu w =>
      obtain ⟨w', k1, k2, k3, k4⟩ := q
      have hne : a ≠ D := ne_of_none k1 hD
      refine ⟨w', by rw [upd_ne hne]; exact k1, ?_, k3, by show upd Γ.L D u a = none; rw [upd_ne hne]; exact k4⟩
      cases w with
      | lst l => exact k2
      | dct k => exact k2
      | dt k => exact k2
      | obj k fs => exact k2
    | fz l => exact q
    | dead => trivial
end

/-! ### the comprehension itself -/
abbrev W0 : WX := fun _ _ _ _ => False
def ItG {α : Type} (c : Cg) (Γ0 : Gh) (IY : Gh → α → V → Hp → Prop) (I : Itm α) (J : L2.It) : Prop := ∀ (Γ : Gh) (S : Sg) (σ : L2.St) (H : Hp) (i : Nat), Γ0.sub Γ → FrOk c Γ S σ H → I.ok S →
  (∀ d, I.l[i]? = some d → J.go i H ∧ ∀ x H', J.yld i H x H' → ∃ Γ', Γ.le Γ' ∧ FrOk c Γ' S σ H' ∧ IY Γ' d x H') ∧ (I.l.length = i → J.stop i H)
def rdIG {α : Type} (c : Cg) (W : WX) (IY : Gh → α → V → Hp → Prop) (f : M (Itm α)) : TI := fun σ H R => ∃ Γ S, FrOk c Γ S σ H ∧ Post c W σ Γ (f S) fun I S' Γ' H' => ∀ J, ItG c Γ' IY I J → R J H'
section
variable {c : Cg} {W : WX} {α : Type} {IY : Gh → α → V → Hp → Prop} {own ks : List Nat} {unp : α → Option (List D)} {it : M (Itm α)} {tt : M Bool} {f : M R} {wi : TI} {g : TG}
theorem lc_read (hit : ∀ σ H R, rdIG c W IY it σ H R → wi σ H R)
    (hg : ∀ Γ S σ H item x Q ds, FrOk c Γ S σ H → IY Γ item x H → unp item = some ds → ds.length = ks.length → (∀ vs, RepL c Γ.G ds vs → Q (setV σ ks vs) H) → g x σ H Q)
    (hks : ∀ k ∈ ks, k ∈ own) {σ : L2.St} {H : Hp} {Q : VK} (q : rdE c W (lcE own ks unp it tt f) σ H Q) : tLc wi g (rdT c W0 tt) (rdE c W0 f) own σ H Q := by
  obtain ⟨Γ, S, F, P⟩ := q
  refine hit σ H _ ⟨Γ, S, F, (Post.bind P).imp fun I S1 Γ1 H1 e1 F1 ⟨_, P1⟩ J hJ => ?_⟩
  intro D hD
  cases hq : lcL I.ok (lcB own ks unp tt f) I.l [] (wipeS S1 own) with
  | bad => rw [hq] at P1; exact P1.elim
  | exc x S' => rw [hq] at P1; exact P1.elim
  | ok accF SF =>
  rw [hq] at P1
  have P1 : Post c W σ Γ1 (if accF.length ≤ sizeLine then Res.ok (R.r SF.st.length) { S1 with st := SF.st ++ [.mu (.lst accF)] } else .bad) (fun x S' Γ' H' => ∀ v, RepR c Γ' x v → Q v H') := P1
  have hz : accF.length ≤ sizeLine := by
    refine Classical.byContradiction fun hn => ?_
    rw [if_neg hn] at P1; exact P1
  rw [if_pos hz] at P1
  have hLD : Γ1.L D = none := Ext.none F1.s.l hD
  refine ⟨fun i m H => m = I.l.length - i ∧ i ≤ I.l.length ∧ ∃ Γ S accD accV, Γ1.sub Γ ∧ Γ.L = upd Γ1.L D (.lst accV) ∧ FrOk c Γ S (wipe σ own) H ∧ RepL c Γ.G accD accV ∧ lcL I.ok (lcB own ks unp tt f) (I.l.drop i) accD S = .ok accF SF,
    ⟨_, rfl, Nat.zero_le _, { Γ1 with L := upd Γ1.L D (.lst []) }, wipeS S1 own, [], [], ⟨Ext.refl, [], by simp⟩, rfl, (F1.wipe own).newL hD, RepL.nil, by simpa using hq⟩, ?_⟩
  rintro i m H ⟨rfl, hi, Γ2, S2, accD, accV, s2, hL, F2, hA, hlc⟩
  have hok := lcL_ok hlc
  obtain ⟨k1, k2⟩ := hJ Γ2 S2 (wipe σ own) H i s2 F2 hok
  by_cases hl : i < I.l.length
  · refine .inr ?_
    obtain ⟨g1, g2⟩ := k1 _ (List.getElem?_eq_getElem hl)
    rw [List.drop_eq_getElem_cons hl] at hlc
    refine ⟨g1, fun H' => ∃ Γ S accD accV, Γ1.sub Γ ∧ Γ.L = upd Γ1.L D (.lst accV) ∧ FrOk c Γ S (wipe σ own) H' ∧ RepL c Γ.G accD accV ∧ lcL I.ok (lcB own ks unp tt f) (I.l.drop (i + 1)) accD S = .ok accF SF, fun H' h => ⟨_, by omega, rfl, hl, h⟩, fun x H' y => ?_⟩
    obtain ⟨Γ3, e3, F3, iy⟩ := g2 x H' y
    have main : ∃ ds, unp I.l[i] = some ds ∧ ds.length = ks.length := by
      rcases lcL_inv hlc with ⟨S', hb, _⟩ | ⟨y, S', hb, _⟩ <;> (unfold lcB at hb; cases hu : unp I.l[i] with
        | none => rw [hu] at hb; cases hb
        | some ds =>
          rw [hu] at hb
          simp only at hb
          by_cases hds : ds.length = ks.length
          · exact ⟨ds, rfl, hds⟩
          · rw [if_neg hds] at hb; cases hb)
    obtain ⟨ds, hu, hds⟩ := main
    refine hg Γ3 S2 _ H' I.l[i] x _ ds F3 iy hu hds fun vs hvs => ?_
    have hw : wipe (setV (wipe σ own) ks vs) own = wipe σ own := by rw [setV_wipe hks, wipe_wipe]
    refine ⟨hw, Γ3, setS S2 ks ds, F3.putL hvs, ?_⟩
    have hB : ∀ r, lcB own ks unp tt f I.l[i] S2 = r → (tt >>= fun b => if b = true then (do
        let x ← f
        let y ← pure1 x
        fun S => .ok (some y) (wipeS S own)) else fun S => .ok none (wipeS S own)) (setS S2 ks ds) = r := fun r hr => by
      unfold lcB at hr
      rw [hu] at hr
      simp only at hr
      rw [if_pos hds] at hr
      exact hr
    have hne : ∀ r, lcB own ks unp tt f I.l[i] S2 = r → (∃ a S', r = .ok a S') → ∃ b S4, tt (setS S2 ks ds) = .ok b S4 := fun r hr ⟨a, S', e⟩ => by
      have := hB r hr
      rw [bind_ap] at this
      cases ht : tt (setS S2 ks ds) with
      | ok b S4 => exact ⟨b, S4, rfl⟩
      | exc x S4 => rw [ht] at this; rw [e] at this; cases this
      | bad => rw [ht] at this; rw [e] at this; cases this
    have e23 : Γ1.sub Γ3 := s2.trans e3.sub
    rcases lcL_inv hlc with ⟨S', hb, hrest⟩ | ⟨yD, S', hb, hlt, hrest⟩
    · obtain ⟨b, S4, ht⟩ := hne _ hb ⟨_, _, rfl⟩
      have hb2 := hB _ hb
      rw [bind_ok ht] at hb2
      rw [ht]
      intro Γ4 H4 e4 F4
      cases b with
      | true =>
        exfalso
        simp only [if_true] at hb2
        rw [bind_ap] at hb2
        cases hf : f S4 with
        | bad => rw [hf] at hb2; cases hb2
        | exc x S5 => rw [hf] at hb2; cases hb2
        | ok x5 S5 =>
          rw [hf] at hb2
          simp only at hb2
          rw [bind_ap] at hb2
          cases hp : pure1 x5 S5 with
          | bad => rw [hp] at hb2; cases hb2
          | exc x S5 => rw [hp] at hb2; cases hb2
          | ok y6 S6 => rw [hp] at hb2; cases hb2
      | false =>
        simp only [Bool.false_eq_true, if_false] at hb2
        cases hb2
        have F5 := F4.wipe own
        rw [hw] at F5
        exact ⟨Γ4, _, accD, accV, e23.trans e4.sub, by rw [e4.l, e3.l, hL], F5, RepL.mono (e3.trans e4).g hA, hrest⟩
    · obtain ⟨b, S4, ht⟩ := hne _ hb ⟨_, _, rfl⟩
      have hb2 := hB _ hb
      rw [bind_ok ht] at hb2
      rw [ht]
      intro Γ4 H4 e4 F4
      cases b with
      | false =>
        simp only [Bool.false_eq_true, if_false] at hb2
        cases hb2
      | true =>
        simp only [if_true] at hb2
        rw [bind_ap] at hb2
        refine ⟨Γ4, S4, F4, ?_⟩
        cases hf : f S4 with
        | bad => rw [hf] at hb2; cases hb2
        | exc x S5 => rw [hf] at hb2; cases hb2
        | ok x5 S5 =>
          rw [hf] at hb2
          simp only at hb2
          rw [bind_ap] at hb2
          cases hp : pure1 x5 S5 with
          | bad => rw [hp] at hb2; cases hb2
          | exc x S5 => rw [hp] at hb2; cases hb2
          | ok y6 S6 =>
            rw [hp] at hb2
            cases hb2
            intro Γ5 H5 e5 F5 v hv
            obtain ⟨d, Γ6, S6', e6, F6, hd, hd2, hd3⟩ := pure1_ok (W := W0) (K := fun d S' _ _ => d = yD ∧ S' = S6) F5 hv (by rw [hp]; exact fun _ _ _ _ => ⟨rfl, rfl⟩)
            subst hd2 hd3
            have e36 := e4.trans (e5.trans e6)
            have hL6 : Γ6.L = upd Γ1.L D (.lst accV) := by rw [e36.l, e3.l, hL]
            have hD6 : Γ6.L D = some (.lst accV) := by rw [hL6, upd_same]
            have hA6 : RepL c Γ6.G accD accV := RepL.mono (e3.trans e36).g hA
            refine ⟨accV, F6.s.l D _ hD6, by rw [hA6.length]; exact hlt, ?_⟩
            have F7 := (F6.setL (u' := .lst (accV ++ [v])) hD6).wipe own
            rw [hw] at F7
            exact ⟨{ Γ6 with L := upd Γ6.L D (.lst (accV ++ [v])) }, _, accD ++ [d], accV ++ [v], (e23.trans e36.sub).trans ⟨Ext.refl, [], by simp⟩, by show upd Γ6.L D _ = _; rw [hL6, upd_upd], F7, hA6.append (RepL.one hd), hrest⟩
  · have e : I.l.length = i := by omega
    refine .inl ⟨k2 e, ?_⟩
    rw [List.drop_eq_nil_of_le (by omega), lcL_nil hok] at hlc
    cases hlc
    have hLD2 : Γ2.L D = some (.lst accV) := by rw [hL, upd_same]
    have hLne : ∀ a, a ≠ D → Γ2.L a = Γ1.L a := fun a h => by rw [hL, upd_ne h]
    have R1 : StOk c { Γ2 with L := Γ1.L } SF.st H := F2.s.relL (fun a o h => by
        by_cases ha : a = D
        · rw [ha, hLD] at h; cases h
        · exact F2.s.l a o (by rw [hLne a ha]; exact h)) (fun a o h => by
        by_cases ha : a = D
        · rw [ha, hLD] at h; cases h
        · exact F2.s.gl a o (by rw [hLne a ha]; exact h)) (fun n p a h1 h2 => by
        by_cases ha : a = D
        · rw [ha]; exact hLD
        · obtain ⟨w, _, _, _, k⟩ := F2.s.cell n _ a h1 h2
          rw [← hLne a ha]; exact k)
    have R2 := R1.adopt (p := D) (o := .lst accF) (u := .lst accV) (F2.s.l D _ hLD2) (F2.s.gl D _ hLD2) hLD (fun n p h1 h2 => by
        obtain ⟨w, _, _, _, k⟩ := F2.s.cell n _ D h1 h2
        rw [hLD2] at k; cases k) ⟨accV, rfl, hA⟩
    have le : Γ1.le { G := Γ2.G, L := Γ1.L, ρ := Γ2.ρ ++ [D] } := ⟨s2.g, rfl, by
      obtain ⟨t, ht⟩ := s2.r
      exact ⟨t ++ [D], by show Γ2.ρ ++ [D] = _; rw [ht, List.append_assoc]⟩⟩
    refine Post.ok (c := c) (W := W) P1 le (F1.of le R2) (.ref D) ⟨D, ?_, rfl⟩
    show (Γ2.ρ ++ [D])[SF.st.length]? = some D
    rw [F2.s.len]; simp
end
end Dd

set_option Elab.async false
set_option linter.all false
set_option maxRecDepth 100000
namespace Dd
open PySem PySem.Spec PyProof.Rows L2

def gNs : List Nat → TGs
  | [] => gNil
  | k :: ks => gCons (gName k) (gNs ks)
theorem gNs_read : ∀ {ks : List Nat} {vs : List V} {σ : L2.St} {H : Hp} {Q : L2.St → Hp → Prop}, vs.length = ks.length → Q (setV σ ks vs) H → gNs ks vs σ H Q
  | [], [], σ, H, Q, _, h => ⟨rfl, by unfold setV at h; exact h⟩
  | [], v :: vs, σ, H, Q, e, h => by simp at e
  | k :: ks, [], σ, H, Q, e, h => by simp at e
  | k :: ks, v :: vs, σ, H, Q, e, h => ⟨v, vs, rfl, gNs_read (by simpa using e) (by unfold setV at h; exact h)⟩
section
variable {X : Cx} {c : Cg} {W : WX} {elt iter tg : Expr} {ifs : List Expr} {scope : Scope} {own : List (Str × Nat)} {pos spos : Pos} {it : M (Itm D)} {itw : M (Itm (List D))} {tt : M Bool} {f : M R} {i : Nat} {ks : List Nat} {es : List Expr} {kk : Nat} {tpos : Pos} {n : Nat}
theorem sts_nil : PTs X [] (rdT c W tYesM) := ⟨fun pins s σ H Q I q => pts_nil.run pins s σ H Q I (by
  obtain ⟨Γ, S, F, P⟩ := q
  exact Post.ok (c := c) (W := W) P Gh.le.refl F)⟩
theorem sts_one {e : Expr} (h : PT X e (rdT c W tt)) : PTs X [e] (rdT c W tt) := pts_one h
theorem lc1_read (hi : i ∈ own.map (·.2)) {σ : L2.St} {H : Hp} {Q : VK} (q : rdE c W (lcE (own.map (·.2)) [i] unp1 it tt f) σ H Q) : tLc (rdI c W it) (gName i) (rdT c W0 tt) (rdE c W0 f) (own.map (·.2)) σ H Q :=
  lc_read (IY := fun Γ d x _ => Rep c Γ.G d x) (wi := rdI c W it) (fun σ H R q => q) (fun Γ S σ H item x Q ds F iy hu hl k => by
    cases hu
    exact k [x] (RepL.one iy)) (fun k hk => by
      have : k = i := by simpa using hk
      rw [this]; exact hi) q
theorem lcT_read {K : PySem.W.Frag} (hK : K = c.K) (hn : n = ks.length) (hi : ∀ k ∈ ks, k ∈ own.map (·.2)) {σ : L2.St} {H : Hp} {Q : VK} (q : rdE c W (lcE (own.map (·.2)) ks unpT it tt f) σ H Q) : tLc (rdI c W it) (gTup K n (gNs ks)) (rdT c W0 tt) (rdE c W0 f) (own.map (·.2)) σ H Q :=
  lc_read (IY := fun Γ d x _ => Rep c Γ.G d x) (wi := rdI c W it) (fun σ H R q => q) (fun Γ S σ H item x Q ds F iy hu hl k => by
    cases item with
    | tup l =>
      cases hu
      obtain ⟨a, vs, e1, e2, e3⟩ := Rep.tup_iff.mp iy
      exact ⟨a, vs, e1, by rw [hK]; exact (TupS.mono F.s.g e2).sq, by rw [e3.length, hl, hn], gNs_read (by rw [e3.length, hl]) (k vs e3)⟩
    | _ => cases hu) hi q
theorem lcW_read {K : PySem.W.Frag} (hn : n = ks.length) (hi : ∀ k ∈ ks, k ∈ own.map (·.2)) {σ : L2.St} {H : Hp} {Q : VK} (q : rdE c W (lcE (own.map (·.2)) ks unpW itw tt f) σ H Q) : tLc (rdIT c W itw) (gTup K n (gNs ks)) (rdT c W0 tt) (rdE c W0 f) (own.map (·.2)) σ H Q :=
  lc_read (IY := fun Γ ds x H => ∃ T vs, x = .ref T ∧ H T = some (.tup vs) ∧ RepL c Γ.G ds vs) (wi := rdIT c W itw) (fun σ H R ⟨Γ, S, F, P⟩ => ⟨Γ, S, F, P.imp fun I S1 Γ1 H1 e1 F1 h J hJ => h J fun Γ S σ H i e F ok => ⟨fun ds hd => ⟨((hJ Γ S σ H i e F ok).1 ds hd).1, fun x H' y => by
      obtain ⟨Γ', T, vs, a1, a2, a3, a4, a5⟩ := ((hJ Γ S σ H i e F ok).1 ds hd).2 x H' y
      exact ⟨Γ', a1, a2, T, vs, a3, a4, a5⟩⟩, (hJ Γ S σ H i e F ok).2⟩⟩) (fun Γ S σ H item x Q ds F iy hu hl k => by
    cases hu
    obtain ⟨T, vs, e1, e2, e3⟩ := iy
    exact ⟨T, vs, e1, .inl (.inl e2), by rw [e3.length, hl, hn], gNs_read (by rw [e3.length, hl]) (k vs e3)⟩) hi q
/-- what a block asks of its parts -/
abbrev InBlk (X : Cx) (scope : Scope) (P : Cx → Prop) : Prop := ∀ (s : Shared) (H : Hp) (C : Addr) (cl : List (Str × Addr)) (fp : List Addr), P (X.blk s H scope (compEnvC scope cl C X.env) fp)
theorem se_lc1 (hc : X.calm = true) (hN : X.N.Nodup) (hi : PI X tg iter (rdI c W it)) (ok : BlkOk X.N X.env.scope scope own) (hm : i ∈ own.map (·.2))
    (hg : InBlk X scope fun Y => PG Y tg (gName i)) (ht : InBlk X scope fun Y => PTs Y ifs (rdT c W0 tt)) (he : InBlk X scope fun Y => PE Y elt (rdE c W0 f)) (hs : ∀ x, foldedSetIterable iter X.env x = pure x := by intro _; rfl) :
    PE X (.ListComp elt [⟨tg, iter, ifs, 0⟩] scope pos) (rdE c W (lcE (own.map (·.2)) [i] unp1 it tt f)) := se_of (pe_lc hc hN hi ok hg ht he hs) fun σ H Q q => lc1_read hm q
theorem se_lcW (hc : X.calm = true) (hN : X.N.Nodup) (hi : PI X tg iter (rdIT c W itw)) (ok : BlkOk X.N X.env.scope scope own) (hn : n = ks.length) (hm : ∀ k ∈ ks, k ∈ own.map (·.2))
    (hg : InBlk X scope fun Y => PG Y tg (gTup X.K n (gNs ks))) (ht : InBlk X scope fun Y => PTs Y ifs (rdT c W0 tt)) (he : InBlk X scope fun Y => PE Y elt (rdE c W0 f)) (hs : ∀ x, foldedSetIterable iter X.env x = pure x := by intro _; rfl) :
    PE X (.ListComp elt [⟨tg, iter, ifs, 0⟩] scope pos) (rdE c W (lcE (own.map (·.2)) ks unpW itw tt f)) := se_of (pe_lc hc hN hi ok hg ht he hs) fun σ H Q q => lcW_read hn hm q
/-- name = [..] on one line -/
theorem setLc_read {lc : M R} {t : TE} {j : Nat} (h : ∀ σ H Q, rdE c W lc σ H Q → t σ H Q) {E : Ends} {σ : L2.St} {H : Hp} (q : rdS c W (sSet j lc) E σ H) : tAsg t (gName j) E σ H := by
  obtain ⟨Γ, S, F, P⟩ := q
  refine h σ H _ ⟨Γ, S, F, (PostS.bindE P).imp fun x S1 Γ1 H1 e1 F1 ⟨_, P1⟩ v hv => ?_⟩
  exact P1 Γ1 _ H1 Gh.le.refl (F1.put j hv)
variable {y : Str} {py : Pos} {j : Nat}
theorem ss_lc1 (hc : X.calm = true) (hN : X.N.Nodup) (hy : X.N[j]? = some y) (hyl : X.env.scope.names.lookup y = some .local) (hsw : swapsWith (.ListComp elt [⟨tg, iter, ifs, 0⟩] scope pos) (some (.Name y py)) spos.line X.env = pure true)
    (hi : PI X tg iter (rdI c W it)) (ok : BlkOk X.N X.env.scope scope own) (hm : i ∈ own.map (·.2))
    (hg : InBlk X scope fun Y => PG Y tg (gName i)) (ht : InBlk X scope fun Y => PTs Y ifs (rdT c W0 tt)) (he : InBlk X scope fun Y => PE Y elt (rdE c W0 f)) (hs : ∀ x, foldedSetIterable iter X.env x = pure x := by intro _; rfl) :
    PS X (.Assign [.Name y py] (.ListComp elt [⟨tg, iter, ifs, 0⟩] scope pos) spos) (rdS c W (sSet j (lcE (own.map (·.2)) [i] unp1 it tt f))) :=
  ss_of (ps_setLc hc hN hy hyl hsw hi ok hg ht he hs) fun E σ H q => setLc_read (fun σ H Q q => lc1_read hm q) q
theorem ss_lcT (hc : X.calm = true) (hN : X.N.Nodup) (hK : X.K = c.K) (hy : X.N[j]? = some y) (hyl : X.env.scope.names.lookup y = some .local) (hsw : swapsWith (.ListComp elt [⟨tg, iter, ifs, 0⟩] scope pos) (some (.Name y py)) spos.line X.env = pure true)
    (hi : PI X tg iter (rdI c W it)) (ok : BlkOk X.N X.env.scope scope own) (hn : n = ks.length) (hm : ∀ k ∈ ks, k ∈ own.map (·.2))
    (hg : InBlk X scope fun Y => PG Y tg (gTup X.K n (gNs ks))) (ht : InBlk X scope fun Y => PTs Y ifs (rdT c W0 tt)) (he : InBlk X scope fun Y => PE Y elt (rdE c W0 f)) (hs : ∀ x, foldedSetIterable iter X.env x = pure x := by intro _; rfl) :
    PS X (.Assign [.Name y py] (.ListComp elt [⟨tg, iter, ifs, 0⟩] scope pos) spos) (rdS c W (sSet j (lcE (own.map (·.2)) ks unpT it tt f))) :=
  ss_of (ps_setLc hc hN hy hyl hsw hi ok hg ht he hs) fun E σ H q => setLc_read (fun σ H Q q => lcT_read hK hn hm q) q
/-- name = [..] made pure at once: the name is stored, then taken as pure -/
def sPur (i : Nat) : M Fl := do
  let x ← vr i
  let d ← pure1 x
  put i (.p d)
  pure .nx
theorem FrOk.same {Γ : Gh} {S : Sg} {σ : L2.St} {H : Hp} {x : R} {v : V} {i : Nat} (F : FrOk c Γ S σ H) (hs : σ[i]? = some (some v)) (h : RepR c Γ x v) : FrOk c Γ { S with sl := S.sl.set i (some x) } σ H := by
  have h1 := F.put i h
  have : σ.set i (some v) = σ := by
    apply List.ext_getElem?
    intro k
    by_cases e : i = k
    · subst e
      rw [List.getElem?_set_self (List.getElem?_eq_some_iff.mp hs).1, hs]
    · rw [List.getElem?_set_ne e]
  rw [this] at h1
  exact h1
/-- behind a statement nothing happens but that a name's value is taken as pure -/
theorem ss_thenPur {st : Stmt} {h : M Fl} {i : Nat} (hs : PS X st (rdS c W h)) : PS X st (rdS c W (sSq h (sPur i))) := ⟨fun pins s σ H E I q => by
  obtain ⟨Γ, S, F, P⟩ := q
  refine hs.run pins s σ H E I ⟨Γ, S, F, ?_⟩
  have P2 := P.seq
  cases q : h S with
  | bad => rw [q] at P2; exact P2
  | exc x S' => rw [q] at P2; exact P2
  | ok a S' =>
    rw [q] at P2
    cases a with
    | nx =>
      intro Γ' σ' H' e F'
      obtain ⟨Γ2, S2, F2, P3⟩ := P2 Γ' σ' H' e F'
      have P3' := PostS.bindE (σ := σ') P3
      unfold vr at P3'
      split at P3'
      · rename_i x hx
        obtain ⟨v, h1, h2⟩ := F2.sl i x hx
        obtain ⟨_, P4⟩ := Post.ok (c := c) (W := W) P3' Gh.le.refl F2
        obtain ⟨d, Γ3, S3, e3, F3, hd, _, P5⟩ := pure1_ok F2 h2 (PostS.bindE P4)
        exact P5 Γ3 σ' H' Gh.le.refl (F3.same h1 (x := .p d) hd)
      · exact P3'.elim
    | rt x => exact P2
    | bk => exact P2
    | ct => exact P2⟩
end

/-! ### names in parallel -/
def sPar (i j : Nat) (g : M (List R)) : M Fl := do
  let xs ← g
  fun S => match xs with
    | x :: r => match r with
      | y :: r' => if r'.isEmpty = true then .ok .nx { S with sl := (S.sl.set i (some x)).set j (some y) } else .bad
      | [] => .bad
    | [] => .bad
def sPar3 (i j l : Nat) (g : M (List R)) : M Fl := do
  let xs ← g
  fun S => match xs with
    | x :: r => match r with
      | y :: r' => match r' with
        | z :: r'' => if r''.isEmpty = true then .ok .nx { S with sl := ((S.sl.set i (some x)).set j (some y)).set l (some z) } else .bad
        | [] => .bad
      | [] => .bad
    | [] => .bad
section
variable {X : Cx} {c : Cg} {W : WX} {x y z : Str} {a b d : Expr} {g : M (List R)} {px py pz pt pos : Pos} {kt k2 pt2} {i j l : Nat}
theorem ss_par (hc : X.calm = true) (hN : X.N.Nodup) (hi : X.N[i]? = some x) (hj : X.N[j]? = some y) (hij : i ≠ j)
    (hx : X.env.scope.names.lookup x = some .local) (hy : X.env.scope.names.lookup y = some .local) (ha : PA X [a, b] (rdA c W g))
    (hw : swappedStores [.Tuple [.Name x px, .Name y py] kt pt] (.Tuple [a, b] k2 pt2) X.env = pure (some [x, y]))
    (hs : swapsWithSole [.Tuple [.Name x px, .Name y py] kt pt] (.Tuple [a, b] k2 pt2) pos.line X.env = pure false := by rfl) :
    PS X (.Assign [.Tuple [.Name x px, .Name y py] kt pt] (.Tuple [a, b] k2 pt2) pos) (rdS c W (sPar i j g)) := ss_of (ps_par hc hN hi hj hij hx hy ha hw hs) fun E σ H q => by
  obtain ⟨Γ, S, F, P⟩ := q
  refine ⟨Γ, S, F, (PostS.bindE P).imp fun xs S1 Γ1 H1 e1 F1 ⟨_, P1⟩ vs hvs => ?_⟩
  cases xs with
  | nil => exact P1.elim
  | cons p r =>
    cases r with
    | nil => exact P1.elim
    | cons p' r' =>
      cases r' with
      | cons q r'' => exact (show False from P1).elim
      | nil =>
        obtain ⟨v, r, rfl, h1, w, r2, rfl, h2, h3⟩ := hvs
        have : r2 = [] := h3
        subst this
        exact ⟨v, w, rfl, P1 Γ1 _ H1 Gh.le.refl ((F1.put i h1).put j h2)⟩
theorem ss_par3 (hc : X.calm = true) (hN : X.N.Nodup) (hi : X.N[i]? = some x) (hj : X.N[j]? = some y) (hl : X.N[l]? = some z) (hij : i ≠ j) (hil : i ≠ l) (hjl : j ≠ l)
    (hx : X.env.scope.names.lookup x = some .local) (hy : X.env.scope.names.lookup y = some .local) (hz : X.env.scope.names.lookup z = some .local) (ha : PA X [a, b, d] (rdA c W g))
    (hw : swappedStores [.Tuple [.Name x px, .Name y py, .Name z pz] kt pt] (.Tuple [a, b, d] k2 pt2) X.env = pure (some [x, y, z]))
    (hs : swapsWithSole [.Tuple [.Name x px, .Name y py, .Name z pz] kt pt] (.Tuple [a, b, d] k2 pt2) pos.line X.env = pure false := by rfl) :
    PS X (.Assign [.Tuple [.Name x px, .Name y py, .Name z pz] kt pt] (.Tuple [a, b, d] k2 pt2) pos) (rdS c W (sPar3 i j l g)) := ss_of (ps_par3 hc hN hi hj hl hij hil hjl hx hy hz ha hw hs) fun E σ H q => by
  obtain ⟨Γ, S, F, P⟩ := q
  refine ⟨Γ, S, F, (PostS.bindE P).imp fun xs S1 Γ1 H1 e1 F1 ⟨_, P1⟩ vs hvs => ?_⟩
  cases xs with
  | nil => exact P1.elim
  | cons p r =>
    cases r with
    | nil => exact P1.elim
    | cons p' r' =>
      cases r' with
      | nil => exact P1.elim
      | cons p'' r'' =>
        cases r'' with
        | cons q r3 => exact (show False from P1).elim
        | nil =>
          obtain ⟨v, r, rfl, h1, w, r2, rfl, h2, u, r3, rfl, h3, h4⟩ := hvs
          have : r3 = [] := h4
          subst this
          exact ⟨v, w, u, rfl, P1 Γ1 _ H1 Gh.le.refl (((F1.put i h1).put j h2).put l h3)⟩
end
end Dd

set_option Elab.async false
set_option linter.all false
set_option maxRecDepth 100000
namespace Dd
open PySem PySem.Spec PyProof.Rows L2

theorem RepR.mkI {c : Cg} {Γ : Gh} {i : Int} : RepR c Γ (.p (.int i)) (.int i) := (Rep.int_iff (c := c) (G := Γ.G)).mpr rfl
theorem RepR.mkB {c : Cg} {Γ : Gh} {i : Bool} : RepR c Γ (.p (.bl i)) (.bl i) := (Rep.bl_iff (c := c) (G := Γ.G)).mpr rfl
theorem RepR.mkS {c : Cg} {Γ : Gh} {i : Str} : RepR c Γ (.p (.str i)) (.str i) := (Rep.str_iff (c := c) (G := Γ.G)).mpr rfl
theorem RepR.mkN {c : Cg} {Γ : Gh} : RepR c Γ (.p .non) .non := (Rep.non_iff (c := c) (G := Γ.G)).mpr rfl
theorem RepL.atI {c : Cg} {G : Hp} {ds : List D} {vs : List V} {i : Int} {d : D} (h : RepL c G ds vs) (e : L2.atI ds i = some d) : ∃ v, L2.atI vs i = some v ∧ Rep c G d v := by
  unfold L2.atI at e ⊢
  rw [h.length]
  cases q : ixN ds.length i with
  | none => rw [q] at e; cases e
  | some j =>
    rw [q] at e
    exact h.get (i := j) e
/-! ### o[i] -/
def opIx : R → R → M R := fun x y S => match asI y with
  | some i => match getL x S with
    | some l => match L2.atI l i with
      | some d => .ok (.p d) S
      | none => .bad
    | none => match x with
      | .p (.str z) => if z.length ≤ sizeLine then (match L2.atI z.cps.toList i with
        | some ch => .ok (.p (.str ⟨#[ch]⟩)) S
        | none => .bad) else .bad
      | _ => .bad
  | none => .bad
section
variable {X : Cx} {c : Cg} {W : WX} {a b e : Expr} {f fa fb : M R} {g : M (List R)} {pos : Pos}
theorem asI_rep {Γ : Gh} {x : R} {v : V} {i : Int} (h : RepR c Γ x v) (e : asI x = some i) : v = .int i := by
  rw [asI_some e] at h
  exact RepR.int h
theorem od_ix (hK : X.K = c.K) : OpD c W opIx (rIx X.K) := by
  intro Γ S σ H x y v w Q F hx hy P
  unfold opIx at P
  cases hi : asI y with
  | none => rw [hi] at P; exact P.elim
  | some i =>
    rw [hi] at P
    have hw := asI_rep hy hi
    subst hw
    cases hl : getL x S with
    | some l =>
      rw [hl] at P
      cases hd : L2.atI l i with
      | none => simp only [hd] at P; exact P.elim
      | some d =>
        simp only [hd] at P
        rcases getL_kind hl with hk | rfl
        · obtain ⟨p, vs, rfl, h1, h2⟩ := getLst_ok F hx ((hk S).trans hl)
          obtain ⟨u, q1, q2⟩ := h2.atI hd
          exact .inl ⟨p, vs, i, u, rfl, rfl, by rw [hK]; exact h1, q1, Post.ok (c := c) (W := W) P Gh.le.refl F u q2⟩
        · obtain ⟨p, vs, rfl, h1, h2⟩ := Rep.tup_iff.mp (RepR.pure.mp hx)
          cases hl
          obtain ⟨u, q1, q2⟩ := h2.atI hd
          exact .inr (.inl ⟨p, vs, i, u, rfl, rfl, by rw [hK]; exact (TupS.mono F.s.g h1).sq, q1, Post.ok (c := c) (W := W) P Gh.le.refl F u q2⟩)
    | none =>
      rw [hl] at P
      cases x with
      | r n => exact P.elim
      | p d =>
        cases d with
        | str z =>
          have hv := RepR.str hx
          subst hv
          have P : Post c W σ Γ (if z.length ≤ sizeLine then (match L2.atI z.cps.toList i with | some ch => Res.ok (R.p (.str ⟨#[ch]⟩)) S | none => .bad) else .bad) (fun z S' Γ' H' => ∀ u, RepR c Γ' z u → Q u H') := P
          by_cases hz : z.length ≤ sizeLine
          · rw [if_pos hz] at P
            cases hc : L2.atI z.cps.toList i with
            | none => rw [hc] at P; exact P.elim
            | some ch =>
              rw [hc] at P
              exact .inr (.inr ⟨z, i, ch, rfl, rfl, hz, hc, Post.ok (c := c) (W := W) P Gh.le.refl F _ RepR.mkS⟩)
          · rw [if_neg hz] at P; exact P.elim
        | _ => exact P.elim
theorem se_ix (hK : X.K = c.K) (ha : PE X a (rdE c W fa)) (hb : PE X b (rdE c W fb)) (hs : PlainIx b := by exact fun _ _ => rfl) : PE X (.Subscript a b pos) (rdE c W (bin opIx fa fb)) :=
  se_of (pe_ix ix_seq ha hb hs) fun σ H Q q => bin_read (od_ix hK) q

/-! ### o[lo:hi] -/
def opt0 : M (Option Int) := pure none
def opt1 (f : M R) : M (Option Int) := do
  let x ← f
  fun S => match asI x with
    | some i => .ok (some i) S
    | none => .bad
def rdO (c : Cg) (W : WX) (f : M (Option Int)) : TO := fun σ H Q => ∃ Γ S, FrOk c Γ S σ H ∧ Post c W σ Γ (f S) fun o S' Γ' H' => Q o H'
theorem so_none : PO X none (rdO c W opt0) := ⟨fun pins s σ H Q I q => po_none.run pins s σ H Q I (by
  obtain ⟨Γ, S, F, P⟩ := q
  exact Post.ok (c := c) (W := W) P Gh.le.refl F)⟩
theorem so_some (h : PE X e (rdE c W f)) : PO X (some e) (rdO c W (opt1 f)) := ⟨fun pins s σ H Q I q => (po_some h).run pins s σ H Q I (by
  obtain ⟨Γ, S, F, P⟩ := q
  refine ⟨Γ, S, F, (Post.bind P).imp fun x S1 Γ1 H1 e1 F1 ⟨_, P1⟩ v hv => ?_⟩
  cases hi : asI x with
  | none => rw [hi] at P1; exact P1.elim
  | some i =>
    rw [hi] at P1
    exact ⟨i, asI_rep hv hi, Post.ok (c := c) (W := W) P1 Gh.le.refl F1⟩)⟩
def cutD {α : Type} (xs : List α) (lo hi : Option Int) : List α := (xs.drop (HT.sIx xs.length 0 lo)).take (HT.sIx xs.length xs.length hi - HT.sIx xs.length 0 lo)
theorem RepL.cut {G : Hp} {ds : List D} {vs : List V} (h : RepL c G ds vs) (lo hi : Option Int) : RepL c G (cutD ds lo hi) (cutV vs lo hi) := by
  unfold cutD cutV
  rw [h.length]
  exact (h.drop _).take _
/-- a list's slice: a new list; a tuple's that is not the whole: a new tuple -/
def opSl (x : R) (lo hi : Option Int) : M R := fun S => match x with
  | .p (.tup l) => if HT.sIx l.length 0 lo = 0 ∧ HT.sIx l.length l.length hi = l.length then .ok (.p (.tup l)) S else .ok (.p (.tup (cutD l lo hi))) S
  | x => match getLst x S with
    | some l => if l.length ≤ sizeLine then .ok (.r S.st.length) { S with st := S.st ++ [.mu (.lst (cutD l lo hi))] } else .bad
    | none => .bad
def slE (f : M R) (l h : M (Option Int)) : M R := do
  let x ← f
  let lo ← l
  let hi ← h
  opSl x lo hi

def rSlF (K : PySem.W.Frag) : V → Option Int → Option Int → Hp → VK → Prop := fun x lo hi H Q => ∃ a xs, x = .ref a ∧ SqT K H a xs ∧
  (HT.sIx xs.length 0 lo = 0 ∧ HT.sIx xs.length xs.length hi = xs.length → Q (.ref a) H) ∧
  (¬ (HT.sIx xs.length 0 lo = 0 ∧ HT.sIx xs.length xs.length hi = xs.length) → ∀ p o, H p = none → o.dict = none → Q (.ref p) (upd H p (.frz o (.tup (cutV xs lo hi)))))
theorem sl_tupF : SlR X (rSlF X.K) := by
  intro pins s σ H x v vl vu lo hi sl Q I rx hs pl pu h
  obtain ⟨a, xs, rfl, hx, q1, q2⟩ := h
  cases rx
  obtain ⟨its, r, ht, hz⟩ := I.tuple hx
  have hlen : its.toArray.size = xs.length := by rw [List.size_toArray]; exact r.length.symm
  refine ⟨"tuple", _, PyProof.Rows.slot_tuple_getitem.lookup, ht.typeIs, ?_⟩
  by_cases hw : HT.sIx xs.length 0 lo = 0 ∧ HT.sIx xs.length xs.length hi = xs.length
  · exact getItem_tuple_whole ht hs pl pu (by rw [hlen]; exact hw) ⟨.ref a, H, I, rfl, q1 hw⟩
  · refine HT.getItem_tuple_cut ht hs pl pu (by rw [hlen]; exact hw) ?_ (by rw [hlen]; exact hz)
    rw [hlen]
    refine ⟨.ref s.heap.objs.size, _, I.laid (t' := s.toks) (o := .frz { cls := .type "tuple", data := .seq ((its.drop (HT.sIx xs.length 0 lo)).take (HT.sIx xs.length xs.length hi - HT.sIx xs.length 0 lo)).toArray } (.tup (cutV xs lo hi))) (fun b ob q => Heap.get?_push_of_some _ q) (Nat.le_refl _) ?_, rfl, q2 hw _ _ (I.hok.fresh (Nat.le_refl _)) rfl⟩
    exact ⟨Heap.get?_push_size _ rfl, Nat.le_trans (cutV_length xs lo hi) hz, _, (r.drop (HT.sIx xs.length 0 lo)).take (HT.sIx xs.length xs.length hi - HT.sIx xs.length 0 lo), IsTup.new _ _⟩
variable {l h : M (Option Int)} {lo hi : Option Expr} {p2 : Pos}
theorem sl_done (hK : X.K = c.K) {Γ : Gh} {S : Sg} {σ : L2.St} {H : Hp} {x : R} {v : V} {o o' : Option Int} {Q : VK} (F : FrOk c Γ S σ H) (hv : RepR c Γ x v) (P : Post c W σ Γ (opSl x o o' S) fun z S' Γ' H' => ∀ u, RepR c Γ' z u → Q u H') : rSlL X.K v o o' H Q ∨ rSlF X.K v o o' H Q := by
  have lst : ∀ y : R, (∀ S, getLst y S = getL y S) → RepR c Γ y v → Post c W σ Γ (match getLst y S with
    | some l => if l.length ≤ sizeLine then Res.ok (R.r S.st.length) { S with st := S.st ++ [.mu (.lst (cutD l o o'))] } else .bad
    | none => .bad) (fun z S' Γ' H' => ∀ u, RepR c Γ' z u → Q u H') → rSlL X.K v o o' H Q := fun y hy hv P => by
    cases q : getLst y S with
    | none => rw [q] at P; exact P.elim
    | some l =>
      rw [q] at P
      have P : Post c W σ Γ (if l.length ≤ sizeLine then Res.ok (R.r S.st.length) { S with st := S.st ++ [.mu (.lst (cutD l o o'))] } else .bad) (fun z S' Γ' H' => ∀ u, RepR c Γ' z u → Q u H') := P
      by_cases hz : l.length ≤ sizeLine
      · rw [if_pos hz] at P
        obtain ⟨a, vs, rfl, h1, h2⟩ := getLst_ok F hv q
        refine ⟨a, vs, rfl, hK ▸ h1, fun p hp => ?_⟩
        obtain ⟨Γ3, e3, F3, r3⟩ := newL_ok F (h2.cut o o') hp
        exact Post.ok (c := c) (W := W) P e3 F3 _ r3
      · rw [if_neg hz] at P; exact P.elim
  cases x with
  | r n => exact .inl (lst (.r n) (fun _ => rfl) hv P)
  | p d =>
    cases d with
    | tup l =>
      refine .inr ?_
      obtain ⟨a, vs, rfl, h1, h2⟩ := Rep.tup_iff.mp (RepR.pure.mp hv)
      refine ⟨a, vs, rfl, hK ▸ (TupS.mono F.s.g h1).sq, ?_⟩
      rw [h2.length]
      have P : Post c W σ Γ (if HT.sIx l.length 0 o = 0 ∧ HT.sIx l.length l.length o' = l.length then Res.ok (R.p (.tup l)) S else .ok (.p (.tup (cutD l o o'))) S) (fun z S' Γ' H' => ∀ u, RepR c Γ' z u → Q u H') := P
      refine ⟨fun hw => ?_, fun hw p ob hp ho => ?_⟩
      · rw [if_pos hw] at P
        exact Post.ok (c := c) (W := W) P Gh.le.refl F _ hv
      · rw [if_neg hw] at P
        obtain ⟨Γ3, e3, F3, r3⟩ := newT_ok F (h2.cut o o') hp ho
        exact Post.ok (c := c) (W := W) P e3 F3 _ r3
    | lst l => exact .inl (lst (.p (.lst l)) (fun _ => rfl) hv P)
    | scp l => exact .inl (lst (.p (.scp l)) (fun _ => rfl) hv P)
    | _ => exact P.elim
theorem se_sl (hK : X.K = c.K) (he : PE X e (rdE c W f)) (hl : PO X lo (rdO c W l)) (hh : PO X hi (rdO c W h)) : PE X (.Subscript e (.Slice lo hi none p2) pos) (rdE c W (slE f l h)) :=
  se_of (pe_slice (SlR.or sl_list sl_tupF) he hl hh) fun σ H Q q => by
    obtain ⟨Γ, S, F, P⟩ := q
    refine ⟨Γ, S, F, (Post.bind P).imp fun x S1 Γ1 H1 e1 F1 ⟨_, P1⟩ v hv => ?_⟩
    refine ⟨Γ1, S1, F1, (Post.bind P1).imp fun o S2 Γ2 H2 e2 F2 ⟨_, P2⟩ => ?_⟩
    refine ⟨Γ2, S2, F2, (Post.bind P2).imp fun o' S3 Γ3 H3 e3 F3 ⟨_, P3⟩ => ?_⟩
    exact sl_done hK F3 (hv.mono (e2.trans e3)) P3

/-! ### o[i] = e -/
/-- a list's cell is written at a place -/
def setAt (x y : R) (d : D) : M Unit := fun S => match x with
  | .r n => match asI y with
    | some i => match S.st[n]? with
      | some (.mu (.lst l)) => match ixN l.length i with
        | some j => .ok () { S with st := S.st.set n (.mu (.lst (l.set j d))) }
        | none => .bad
      | _ => .bad
    | none => .bad
  | _ => .bad
def sSub (f fo fi : M R) : M Fl := do
  let x ← f
  let d ← pure1 x
  let o ← fo
  let i ← fi
  setAt o i d
  pure .nx
theorem lstC {Γ : Gh} {S : Sg} {σ : L2.St} {H : Hp} {n : Nat} {v : V} {l : List D} (F : FrOk c Γ S σ H) (hv : RepR c Γ (.r n) v) (e : S.st[n]? = some (.mu (.lst l))) : ∃ a vs, v = .ref a ∧ Γ.ρ[n]? = some a ∧ H a = some (.lst vs) ∧ RepL c Γ.G l vs ∧
    ∀ l' vs', RepL c Γ.G l' vs' → FrOk c Γ { S with st := S.st.set n (.mu (.lst l')) } σ (upd H a (.lst vs')) := by
  obtain ⟨a, vs, h1, h2, h3, h4, h5⟩ := F.s.lst e
  obtain ⟨a', k1, rfl⟩ := hv
  rw [h1] at k1; cases k1
  exact ⟨a, vs, rfl, h1, h2, h3, fun l' vs' hr => F.of Gh.le.refl (F.s.setC e h1 ⟨vs', rfl, hr⟩)⟩
theorem ss_sub {o i : Expr} {fo fi : M R} (he : PE X e (rdE c W f)) (ho : PE X o (rdE c W fo)) (hi : PE X i (rdE c W fi)) {spos : Pos} (hs : swapsWithSole [.Subscript o i pos] e spos.line X.env = pure false := by rfl) (hw : swappedStores [.Subscript o i pos] e X.env = pure none := by rfl)
    (h1 : (assignEach [.Subscript o i pos] X.env).map (·.2) = [assign (.Subscript o i pos) X.env] := by rfl)
    (ha : ∀ v, assign (.Subscript o i pos) X.env v = (do
      let ov ← holding [v] (eval o X.env)
      let iv ← holding [v, ov] (eval i X.env)
      standAt pos
      holding [v, ov, iv] (setItem ov iv v)
      release [v, ov, iv] []) := by intro _; rfl) : PS X (.Assign [.Subscript o i pos] e spos) (rdS c W (sSub f fo fi)) := ss_of (ps_asg he (pg_sub ho hi set_list ha) hs hw h1) fun E σ H q => by
  obtain ⟨Γ, S, F, P⟩ := q
  refine ⟨Γ, S, F, (PostS.bindE P).imp fun x S1 Γ1 H1 e1 F1 ⟨_, P1⟩ v hv => ?_⟩
  obtain ⟨d, Γ2, S2, e2, F2, hd, _, P2⟩ := pure1_ok F1 hv (PostS.bindE P1)
  refine ⟨Γ2, S2, F2, (PostS.bindE P2).imp fun ox S3 Γ3 H3 e3 F3 ⟨_, P3⟩ ov hov => ?_⟩
  refine ⟨Γ3, S3, F3, (PostS.bindE P3).imp fun ix S4 Γ4 H4 e4 F4 ⟨_, P4⟩ iv hiv => ?_⟩
  have P5 := PostS.bindE (σ := σ) P4
  cases ox with
  | p d => exact P5.elim
  | r n =>
    unfold setAt at P5
    simp only at P5
    cases hi : asI ix with
    | none => rw [hi] at P5; exact P5.elim
    | some k =>
      rw [hi] at P5
      simp only at P5
      cases hn : S4.st[n]? with
      | none => rw [hn] at P5; exact P5.elim
      | some y =>
        rw [hn] at P5
        cases y with
        | dead => exact P5.elim
        | fz l => exact P5.elim
        | mu u =>
          cases u with
          | dct k => exact P5.elim
          | dt k => exact P5.elim
          | obj k fs => exact P5.elim
          | lst l =>
            simp only at P5
            cases hj : ixN l.length k with
            | none => rw [hj] at P5; exact P5.elim
            | some j =>
              rw [hj] at P5
              obtain ⟨a, vs, rfl, r1, r2, r3, upd'⟩ := lstC F4 (hov.mono e4) hn
              refine ⟨a, vs, k, j, rfl, asI_rep hiv hi, r2, by rw [r3.length]; exact hj, ?_⟩
              have F5 := upd' (l.set j d) (vs.set j v) (r3.set j (Rep.mono (e3.trans e4).g hd))
              obtain ⟨_, P6⟩ := Post.ok (c := c) (W := W) P5 Gh.le.refl F5
              exact P6 Γ4 σ _ Gh.le.refl F5
end
end Dd

set_option Elab.async false
set_option linter.all false
set_option maxRecDepth 100000
namespace Dd
open PySem PySem.Spec PyProof.Rows L2

/-! ### lists that are tracked; +, * -/
/-- a list that is no one's but ours or frozen -/
def getM (x : R) (S : Sg) : Option (List D) := match x with
  | .p (.lst l) => some l
  | .p _ => none
  | .r n => match S.st[n]? with
    | some (.mu (.lst l)) => some l
    | some (.fz l) => some l
    | _ => none
section
variable {X : Cx} {c : Cg} {W : WX} {a b e : Expr} {f fa fb : M R} {g : M (List R)} {pos : Pos} {Γ : Gh} {S : Sg} {σ : L2.St} {H : Hp}
theorem getM_ok {x : R} {v : V} {l : List D} (F : FrOk c Γ S σ H) (hx : RepR c Γ x v) (h : getM x S = some l) : ∃ a vs, v = .ref a ∧ H a = some (.lst vs) ∧ RepL c Γ.G l vs := by
  cases x with
  | p d =>
    cases d with
    | lst l' =>
      cases h
      obtain ⟨a, vs, h1, h2, h3⟩ := Rep.lst_iff.mp (RepR.pure.mp hx)
      exact ⟨a, vs, h1, F.s.g _ _ h2, h3⟩
    | _ => cases h
  | r n =>
    obtain ⟨a, h1, h2⟩ := hx
    unfold getM at h
    simp only at h
    split at h
    · rename_i l' e
      cases h
      obtain ⟨a', vs, h3, h4, h5, _⟩ := F.s.lst e
      rw [h1] at h3; cases h3
      exact ⟨a, vs, h2, h4, h5⟩
    · rename_i l' e
      cases h
      obtain ⟨a', vs, h3, h4, h5⟩ := F.s.fro e
      rw [h1] at h3; cases h3
      exact ⟨a, vs, h2, F.s.g _ _ h4, h5⟩
    · cases h
/-- + : ints, texts, lists -/
def opAdd : R → R → M R := fun x y S => match asI x with
  | some i => match asI y with
    | some j => .ok (.p (.int (i + j))) S
    | none => .bad
  | none => match getM x S with
    | some l => match getM y S with
      | some l' => if l.length + l'.length ≤ sizeLine then .ok (.r S.st.length) { S with st := S.st ++ [.mu (.lst (l ++ l'))] } else .bad
      | none => .bad
    | none => match x with
      | .p (.str z) => match y with
        | .p (.str z') => if z.length + z'.length ≤ sizeLine then .ok (.p (.str (z ++ z'))) S else .bad
        | _ => .bad
      | _ => .bad
def rAddA : R2 := fun x y H Q => (rI0 (fun i j => .int (i + j)) x y H Q ∨ rCat x y H Q) ∨ ∃ i j, x = .str i ∧ y = .str j ∧ i.length + j.length ≤ sizeLine ∧ Q (.str (i ++ j)) H
theorem op_addA : OpR X (binaryOp .Add) rAddA := OpR.or (OpR.or op_add op_cat) op_add_str
theorem od_add : OpD c W opAdd rAddA := by
  intro Γ S σ H x y v w Q F hx hy P
  unfold opAdd at P
  cases hi : asI x with
  | some i =>
    rw [hi] at P
    simp only at P
    cases hj : asI y with
    | none => rw [hj] at P; exact P.elim
    | some j =>
      rw [hj] at P
      exact .inl (.inl ⟨i, j, asI_rep hx hi, asI_rep hy hj, Post.ok (c := c) (W := W) P Gh.le.refl F _ RepR.mkI⟩)
  | none =>
    rw [hi] at P
    simp only at P
    cases hl : getM x S with
    | some l =>
      rw [hl] at P
      simp only at P
      cases hl' : getM y S with
      | none => rw [hl'] at P; exact P.elim
      | some l' =>
        rw [hl'] at P
        simp only at P
        by_cases hz : l.length + l'.length ≤ sizeLine
        · rw [if_pos hz] at P
          obtain ⟨a, vs, rfl, h1, h2⟩ := getM_ok F hx hl
          obtain ⟨b, ws, rfl, k1, k2⟩ := getM_ok F hy hl'
          refine .inl (.inr ⟨a, b, vs, ws, rfl, rfl, h1, k1, by rw [h2.length, k2.length]; exact hz, fun p hp => ?_⟩)
          obtain ⟨Γ3, e3, F3, r3⟩ := newL_ok F (h2.append k2) hp
          exact Post.ok (c := c) (W := W) P e3 F3 _ r3
        · rw [if_neg hz] at P; exact P.elim
    | none =>
      rw [hl] at P
      cases x with
      | r n => exact P.elim
      | p d =>
        cases d with
        | str z =>
          cases y with
          | r n => exact P.elim
          | p d' =>
            cases d' with
            | str z' =>
              have P : Post c W σ Γ (if z.length + z'.length ≤ sizeLine then Res.ok (R.p (.str (z ++ z'))) S else .bad) (fun z S' Γ' H' => ∀ u, RepR c Γ' z u → Q u H') := P
              by_cases hz : z.length + z'.length ≤ sizeLine
              · rw [if_pos hz] at P
                exact .inr ⟨z, z', RepR.str hx, RepR.str hy, hz, Post.ok (c := c) (W := W) P Gh.le.refl F _ RepR.mkS⟩
              · rw [if_neg hz] at P; exact P.elim
            | _ => exact P.elim
        | _ => exact P.elim
/-- * : ints, a list times an int -/
def opMul : R → R → M R := fun x y S => match asI y with
  | some j => match asI x with
    | some i => if CMulW i j then .ok (.p (.int (i * j))) S else .bad
    | none => match getM x S with
      | some l => if -(2 ^ 63) ≤ j ∧ j < 2 ^ 63 ∧ l.length * j.toNat ≤ sizeLine then .ok (.r S.st.length) { S with st := S.st ++ [.mu (.lst (List.replicate j.toNat l).flatten)] } else .bad
      | none => .bad
  | none => .bad
theorem RepL.rep {G : Hp} {ds : List D} {vs : List V} (h : RepL c G ds vs) : ∀ n : Nat, RepL c G (List.replicate n ds).flatten (List.replicate n vs).flatten
  | 0 => RepL.nil
  | n + 1 => by
    rw [List.replicate_succ, List.replicate_succ, List.flatten_cons, List.flatten_cons]
    exact h.append (RepL.rep h n)
theorem op_mulA : OpR X (binaryOp .Mult) (fun x y H Q => rI CMulW (fun i j => .int (i * j)) x y H Q ∨ rRep x y H Q) := OpR.or op_mulW op_rep
theorem od_mul : OpD c W opMul (fun x y H Q => rI CMulW (fun i j => .int (i * j)) x y H Q ∨ rRep x y H Q) := by
  intro Γ S σ H x y v w Q F hx hy P
  unfold opMul at P
  cases hj : asI y with
  | none => rw [hj] at P; exact P.elim
  | some j =>
    rw [hj] at P
    simp only at P
    have hw := asI_rep hy hj
    cases hi : asI x with
    | some i =>
      rw [hi] at P
      simp only at P
      by_cases hz : CMulW i j
      · rw [if_pos hz] at P
        exact .inl ⟨i, j, asI_rep hx hi, hw, hz, Post.ok (c := c) (W := W) P Gh.le.refl F _ RepR.mkI⟩
      · rw [if_neg hz] at P; exact P.elim
    | none =>
      rw [hi] at P
      simp only at P
      cases hl : getM x S with
      | none => rw [hl] at P; exact P.elim
      | some l =>
        rw [hl] at P
        simp only at P
        by_cases hz : -(2 ^ 63) ≤ j ∧ j < 2 ^ 63 ∧ l.length * j.toNat ≤ sizeLine
        · rw [if_pos hz] at P
          obtain ⟨a, vs, rfl, h1, h2⟩ := getM_ok F hx hl
          refine .inr ⟨a, j, vs, rfl, hw, h1, hz.1, hz.2.1, by rw [h2.length]; exact hz.2.2, fun p hp => ?_⟩
          obtain ⟨Γ3, e3, F3, r3⟩ := newL_ok F (h2.rep j.toNat) hp
          exact Post.ok (c := c) (W := W) P e3 F3 _ r3
        · rw [if_neg hz] at P; exact P.elim

/-! ### methods of lists and tuples -/
def isLst (x : R) (S : Sg) : Bool := (getLst x S).isSome
theorem ty_lst (hK : X.K = c.K) : TyD c isLst (tyV X.K "list") := by
  intro Γ S σ H x v F hx h
  unfold isLst at h
  obtain ⟨l, hl⟩ := Option.isSome_iff_exists.mp h
  obtain ⟨a, vs, rfl, h1, h2⟩ := getLst_ok F hx hl
  exact .inl ⟨rfl, vs, hK ▸ h1⟩
/-- x.append(y) -/
def opApp : R → List R → M R := fun x xs => match xs with
  | [y] => do
    let d ← pure1 y
    fun S => match x with
      | .r n => match S.st[n]? with
        | some (.mu (.lst l)) => if l.length < sizeLine then .ok (.p .non) { S with st := S.st.set n (.mu (.lst (l ++ [d]))) } else .bad
        | _ => .bad
      | _ => .bad
  | _ => bad
theorem one_arg {Γ : Gh} {y : R} {vs : List V} (h : RepRL c Γ [y] vs) : ∃ v, vs = [v] ∧ RepR c Γ y v := by
  obtain ⟨v, r, rfl, h1, h2⟩ := h
  exact ⟨v, by rw [show r = [] from h2], h1⟩
theorem md_app : MtD c W opApp rAppend := by
  intro Γ S σ H x v xs vs Q F hx hxs P
  cases xs with
  | nil => exact P.elim
  | cons y ys =>
    cases ys with
    | cons z zs => exact P.elim
    | nil =>
      obtain ⟨u, rfl, hu⟩ := one_arg hxs
      obtain ⟨d, Γ2, S2, e2, F2, hd, _, P2⟩ := pure1_ok F hu (Post.bind P)
      cases x with
      | p d => exact P2.elim
      | r n =>
        simp only at P2
        cases hn : S2.st[n]? with
        | none => rw [hn] at P2; exact P2.elim
        | some q =>
          rw [hn] at P2
          cases q with
          | dead => exact P2.elim
          | fz l => exact P2.elim
          | mu o =>
            cases o with
            | dct k => exact P2.elim
            | dt k => exact P2.elim
            | obj k fs => exact P2.elim
            | lst l =>
              simp only at P2
              by_cases hz : l.length < sizeLine
              · rw [if_pos hz] at P2
                obtain ⟨a, ws, rfl, r1, r2, r3, up⟩ := lstC F2 (hx.mono e2) hn
                exact ⟨a, ws, u, rfl, rfl, r2, by rw [r3.length]; exact hz, Post.ok (c := c) (W := W) P2 Gh.le.refl (up _ _ (r3.append (RepL.one hd))) _ RepR.mkN⟩
              · rw [if_neg hz] at P2; exact P2.elim
/-- x.pop(i) -/
def opPopAt : R → List R → M R := fun x xs S => match asI1 xs with
  | some i => match x with
    | .r n => match S.st[n]? with
      | some (.mu (.lst l)) => if -(2 ^ 63) ≤ i ∧ i < 2 ^ 63 then (match seqIndex? i l.length with
        | some k => match l[k]? with
          | some d => .ok (.p d) { S with st := S.st.set n (.mu (.lst (l.eraseIdx k))) }
          | none => .bad
        | none => .bad) else .bad
      | _ => .bad
    | _ => .bad
  | none => .bad
theorem md_popAt : MtD c W opPopAt rPopAt := by
  intro Γ S σ H x v xs vs Q F hx hxs P
  unfold opPopAt at P
  cases hi : asI1 xs with
  | none => rw [hi] at P; exact P.elim
  | some i =>
    rw [hi] at P
    have hv := ints1 hxs hi
    subst hv
    cases x with
    | p d => exact P.elim
    | r n =>
      simp only at P
      cases hn : S.st[n]? with
      | none => rw [hn] at P; exact P.elim
      | some q =>
        rw [hn] at P
        cases q with
        | dead => exact P.elim
        | fz l => exact P.elim
        | mu o =>
          cases o with
          | dct k => exact P.elim
          | dt k => exact P.elim
          | obj k fs => exact P.elim
          | lst l =>
            simp only at P
            by_cases hz : -(2 ^ 63) ≤ i ∧ i < 2 ^ 63
            · rw [if_pos hz] at P
              cases hk : seqIndex? i l.length with
              | none => rw [hk] at P; exact P.elim
              | some k =>
                rw [hk] at P
                simp only at P
                cases hd : l[k]? with
                | none => rw [hd] at P; exact P.elim
                | some d =>
                  rw [hd] at P
                  obtain ⟨a, ws, rfl, r1, r2, r3, up⟩ := lstC F hx hn
                  obtain ⟨u, q1, q2⟩ := r3.get hd
                  exact ⟨a, ws, i, k, u, rfl, rfl, r2, hz.1, hz.2, by rw [r3.length]; exact hk, q1, Post.ok (c := c) (W := W) P Gh.le.refl (up _ _ (r3.eraseIdx k)) u q2⟩
            · rw [if_neg hz] at P; exact P.elim
/-- the place of an int in ints -/
def intsOf : List D → Option (List Int)
  | [] => some []
  | .int i :: r => match intsOf r with
    | some l => some (i :: l)
    | none => none
  | _ => none
theorem intsOf_some : ∀ {l : List D} {ns : List Int}, intsOf l = some ns → l = ns.map D.int
  | [], ns, h => by cases h; rfl
  | d :: r, ns, h => by
    cases d with
    | int i =>
      unfold intsOf at h
      cases q : intsOf r with
      | none => rw [q] at h; cases h
      | some l => rw [q] at h; cases h; rw [intsOf_some q]; rfl
    | _ => cases h
theorem intsOf_map : ∀ ns : List Int, intsOf (ns.map D.int) = some ns
  | [] => rfl
  | i :: ns => by show intsOf (.int i :: ns.map D.int) = _; unfold intsOf; rw [intsOf_map ns]
/-- the first place of an int -/
def idxOf (ns : List Int) (i : Int) : Option Nat := ns.findIdx? (· == i)
end
end Dd

set_option Elab.async false
set_option linter.all false
set_option maxRecDepth 100000
namespace Dd
open PySem PySem.Spec PyProof.Rows L2

/-! ### methods with what is raised at the caller's slots -/
section
variable {X : Cx} {k : Nat} {f C : Addr} {fd : FuncData} {ps : List Str} {sp : Sp} {E : L2.St → XK} {x m : Str} {p pos apos : Pos} {e o : Expr} {es : List Expr} {ta : TE} {t : TA}
def tMakeS (C : Addr) (sp : Sp) (E : L2.St → XK) (t : TA) : TE := fun σ H Q => t σ H fun vs H1 => ∀ x dx, H1 x = none → H1 dx = none → dx ≠ x →
  sp (.ref x :: vs) (upd (upd H1 dx (.own x)) x (.ins C dx [])) (fun v H2 => v = .non ∧ Q (.ref x) H2) (E σ)
theorem run_makeS {pins : List (Addr × Obj)} {σ : L2.St} {H : Hp} {s : Shared} {Q : VK} {us : List Value} {vs : List V} {E : XK} (M : Mk X.K C f) (F : FnG X.prog X.w X.K X.mg X.base k f fd ps sp) (hG : X.A.guards = some []) (hr : Room (k + 1) X.A) (hb : Binds X.K fd ps [])
    (hx : PassesAt (L2.CX X.prog X.w) X σ E) (I : L2.Inv X pins σ H s) (r : Vals vs us)
    (h : ∀ x dx, H x = none → H dx = none → dx ≠ x → sp (.ref x :: vs) (upd (upd H dx (.own x)) x (.ins C dx [])) (fun v H2 => v = .non ∧ Q (.ref x) H2) E) :
    wpAny (model X.prog X.w) X.A (call (.ref C) us) (EP X pins σ Q) X.xe s := by
  have hq := h (s.heap.objs.size + 1) s.heap.objs.size (I.hok.fresh (Nat.le_succ _)) (I.hok.fresh (Nat.le_refl _)) (Nat.ne_of_lt (Nat.lt_succ_self _))
  have I2 := L2.Inv.made (C := C) I
  have r2 : Vals (V.ref (s.heap.objs.size + 1) :: vs) (Value.ref (s.heap.objs.size + 1) :: us) := .cons rfl r
  have hl : (Value.ref (s.heap.objs.size + 1) :: us).length = ps.length := by
    have e := r2.length
    rw [F.len _ _ _ _ hq] at e
    exact e.symm
  have hbb := hb _ (Value.ref (s.heap.objs.size + 1) :: us) I2.kIn (by rw [List.append_nil]; exact hl)
  rw [List.append_nil] at hbb
  refine wpAny_call (make_map (f := f) I.kIn M.makes M.init (beq_iff_eq.mp M.fn) (codeAny_mono (F.run _ X.stack _ _ ⟨Value.ref (s.heap.objs.size + 1) :: us, []⟩ (Value.ref (s.heap.objs.size + 1) :: us) _ _ E hG (hr.make C us [])
    (I2.env0.make C us []) hbb r2 hq) fun r s' hq' => ?_))
  cases r with
  | error e => exact hx pins _ _ e s' I2 hq'
  | ok fl =>
    cases fl with
    | ret u =>
      obtain ⟨v, H', I3, rv, ev, q3⟩ := I2.after hq'
      subst ev
      exact ⟨rv, ⟨V.ref (s.heap.objs.size + 1), H', I3, rfl, q3⟩⟩
    | next => exact False.elim hq'
    | brk => exact False.elim hq'
    | cont => exact False.elim hq'
theorem pe_makeS (M : Mk X.K C f) (F : FnG X.prog X.w X.K X.mg X.base k f fd ps sp) (hG : X.A.guards = some []) (hr : Room (k + 1) X.A) (hg : Gl X x) (hm : X.mg x = some (.ref C)) (hb : Binds X.K fd ps []) (hx : ∀ σ, PassesAt (L2.CX X.prog X.w) X σ (E σ))
    (ha : PA X (e :: es) t) (hdb : (x == ("__debug__" : Str)) = false := by decide) (he : starEach (e :: es) X.env = (false, eval e X.env) :: starEach es X.env := by rfl) (hpl : (backTo pos (starEach es X.env)).any (·.1) = false := by rfl) :
    PE X (.Call (.Name x p) (e :: es) [] pos) (tMakeS C sp E t) := by
  refine ⟨fun pins s σ H Q I h => ?_⟩
  refine wpAny_Call_Name_kw (ld_glob I hg hm ?_ hdb)
  refine PySem.W.callWith_K (h₀ := X.base) I.ok.mod.kin M.kp (thn (ha.run pos pins s σ H _ I h) fun us s1 ⟨vs, H1, I1, r, q⟩ => ⟨I1.kIn, ?_⟩) he hpl
  exact run_makeS M F hG hr hb (hx σ) I1 r q
theorem getprop_okG {C pA gA a dx : Addr} {fs : List (Str × V)} {f' : Str} {fd : FuncData} {ps : List Str} {sp : Sp} {E : XK} {pins : List (Addr × Obj)} {σ : L2.St} {H : Hp} {s : Shared} {Q : VK} {b : Bool} {E' : Value → Shared → Prop} (I : L2.Inv X pins σ H s) (ea : H a = some (.ins C dx fs)) (cl : Cls X.K C) (hp : PropOf X.K C f' pA gA)
    (F : FnG X.prog X.w X.K X.mg X.base k gA fd ps sp) (hG : X.A.guards = some []) (hr : Room (k + 1) X.A) (hb : Binds X.K fd ps []) (hx : Passes (L2.CX X.prog X.w) X.nox E) (h : sp [.ref a] H Q E) :
    wpAny (model X.prog X.w) X.A (getAttr (.ref a) f' b) (EP X pins σ Q) E' s := by
  obtain ⟨mA, O, _, _, _, _⟩ := ins_get I.hok ea
  obtain ⟨od, J, _⟩ := O.look
  obtain ⟨rest, hrec⟩ := hp.rec_
  have I1 := I.tok (s.toks + 1)
  have hl : ([Value.ref a] ++ []).length = ps.length := by
    rw [← F.len _ _ _ _ h]
    rfl
  have hc : (PySem.W.clsIn X.K C).isSome = true := by
    obtain ⟨cd, hc, _⟩ := PySem.W.any_some cl.hd
    rw [hc]
    rfl
  refine PySem.W.get_bind I.kIn J (PySem.W.plainGet_of (cl.get f')).1 (PySem.W.findObj_data hc hp.at_ hp.get hp.tak) (PySem.W.plainGet_of (cl.get f')).2 (wpAny_call (PySem.W.prop_get (s := { s with toks := s.toks + 1 }) I.kIn hrec ?_))
  refine codeAny_mono (F.run X.A.in1 X.stack { s with toks := s.toks + 1 } H ⟨[.ref a], []⟩ (.ref a :: []) (.ref a :: []) Q E hG hr.in1 I1.env0.in1 (hb _ [.ref a] I1.kIn hl) (.cons rfl .nil) h) fun r s' hq => ?_
  cases r with
  | error er => exact False.elim (hx pins σ H { s with toks := s.toks + 1 } er s' (I1.wish _) hq)
  | ok fl =>
    cases fl with
    | ret u =>
      obtain ⟨v, H', I3, rv, q3⟩ := I1.after hq
      show wpAny _ _ (handedOut u) _ _ _
      rw [PySem.W.handedOut_of (handed_of rv)]
      exact wpAny_pure ⟨v, H', I3, rv, q3⟩
    | next => exact False.elim hq
    | brk => exact False.elim hq
    | cont => exact False.elim hq
theorem pe_propG {C pA gA : Addr} {f' : Str} {E : XK} (he : PE X e ta) (cl : Cls X.K C) (hp : PropOf X.K C f' pA gA) (F : FnG X.prog X.w X.K X.mg X.base k gA fd ps sp) (hG : X.A.guards = some []) (hr : Room (k + 1) X.A) (hb : Binds X.K fd ps []) (hx : Passes (L2.CX X.prog X.w) X.nox E)
    (hab : attributeBase e f' X.env (eval e X.env) = eval e X.env) : PE X (.Attribute e f' pos) (tProp C sp [] E ta) := by
  refine ⟨fun pins s σ H Q I h => ?_⟩
  refine attr_of hab (thn (he.run pins s σ H _ I h) fun u s1 ⟨x, H1, I1, rx, a, dx, fs, ex, ea, q⟩ => ?_)
  subst ex
  obtain rfl : u = Value.ref a := rx
  exact getprop_okG I1 ea cl hp F hG hr hb hx q
end

/-! ### instances -/
/-- the class and the attributes of an instance -/
def insOf (x : R) (S : Sg) : Option (Nat × List (Str × D)) := match x with
  | .p (.scr l) => some (0, [("own_levels", .tup l)])
  | .p _ => none
  | .r n => match S.st[n]? with
    | some (.mu (.obj k fs)) => some (k, fs)
    | _ => none
section
variable {X : Cx} {c : Cg} {W : WX} {e o : Expr} {es : List Expr} {f fv : M R} {g : M (List R)} {pos p apos : Pos} {F : Fn} {n k K' : Nat} {fA : Addr} {fd : FuncData} {ps : List Str} {x m : Str}
theorem RepF.lookup {G : Hp} : ∀ {fs : List (Str × D)} {vs : List (Str × V)} (m : Str), RepF c G fs vs → (fs.lookup m = none → vs.lookup m = none) ∧ ∀ d, fs.lookup m = some d → ∃ v, vs.lookup m = some v ∧ Rep c G d v
  | [], vs, m, h => by
    have : vs = [] := h
    subst this
    exact ⟨fun _ => rfl, fun d h => by cases h⟩
  | (y, d') :: fs, vs, m, h => by
    obtain ⟨v, r, rfl, h1, h2⟩ := h
    by_cases e : m = y
    · subst e
      rw [List.lookup_cons_self, List.lookup_cons_self]
      exact ⟨fun h => by simp at h, fun d h => ⟨v, rfl, by cases h; exact h1⟩⟩
    · have eb : (m == y) = false := beq_eq_false_iff_ne.mpr e
      rw [List.lookup_cons, List.lookup_cons, eb]
      exact RepF.lookup m h2
theorem insOf_ok {Γ : Gh} {S : Sg} {σ : L2.St} {H : Hp} {v : V} {k : Nat} {fs : List (Str × D)} (Fo : FrOk c Γ S σ H) (hv : RepR c Γ x' v) (h : insOf x' S = some (k, fs)) :
    ∃ a dx vs, v = .ref a ∧ H a = some (.ins (c.cls k) dx vs) ∧ RepF c Γ.G fs vs := by
  cases x' with
  | p d =>
    cases d with
    | scr l =>
      cases h
      obtain ⟨a, dx, b, vs, h1, h2, h3, h4⟩ := Rep.scr_iff.mp (RepR.pure.mp hv)
      exact ⟨a, dx, _, h1, Fo.s.g _ _ h2, .ref b, [], rfl, Rep.tup_iff.mpr ⟨b, vs, rfl, h3, h4⟩, rfl⟩
    | _ => cases h
  | r n =>
    unfold insOf at h
    simp only at h
    split at h
    · rename_i k' fs' e
      cases h
      obtain ⟨a, h1, h2⟩ := hv
      obtain ⟨u, q1, ⟨dx, vs, rfl, q2⟩, _⟩ := Fo.s.cell n _ a e h1
      exact ⟨a, dx, vs, h2, q1, q2⟩
    · cases h
/-- o.f, a property of the class k: nothing is raised -/
def propU (k : Nat) (F : Fn) (f : M R) : M R := do
  let x ← f
  fun S => match insOf x S with
    | some (k', _) => if k' = k then (match F [x] S.st with
      | .exc _ _ => .bad
      | r => applyF S r) else .bad
    | none => .bad
theorem se_prop {f' : Str} {pA gA : Addr} (ho : PE X o (rdE c W f)) (cl : Cls X.K (c.cls k)) (hp : PropOf X.K (c.cls k) f' pA gA) (Fk : FnG X.prog X.w X.K X.mg X.base K' gA fd ps (spF c 1 F)) (hG : X.A.guards = some []) (hr : Room (K' + 1) X.A) (hb : Binds X.K fd ps [])
    (hab : attributeBase o f' X.env (eval o X.env) = eval o X.env := by rfl) : PE X (.Attribute o f' pos) (rdE c W (propU k F f)) :=
  se_of (pe_propG ho cl hp Fk hG hr hb (passL (X := X.nox)) hab) fun σ H Q q => by
    obtain ⟨Γ, S, Fo, P⟩ := q
    refine ⟨Γ, S, Fo, (Post.bind P).imp fun x S1 Γ1 H1 e1 F1 ⟨_, P1⟩ v hv => ?_⟩
    cases hi : insOf x S1 with
    | none => rw [hi] at P1; exact P1.elim
    | some kf =>
      obtain ⟨k', fs⟩ := kf
      rw [hi] at P1
      simp only at P1
      by_cases hk : k' = k
      · rw [if_pos hk] at P1
        subst hk
        obtain ⟨a, dx, vs, rfl, h1, h2⟩ := insOf_ok F1 hv hi
        refine ⟨a, dx, vs, rfl, h1, [x], Γ1, S1.st, rfl, ⟨.ref a, [], rfl, hv, rfl⟩, F1.s, ?_⟩
        cases hF : F [x] S1.st with
        | bad => rw [hF] at P1; exact P1.elim
        | exc y st => rw [hF] at P1; exact P1.elim
        | ok r st =>
          rw [hF] at P1
          have := applyF_ok (r := .ok r st) F1 P1
          cases r with
          | val d => exact this
          | new o => exact this
      · rw [if_neg hk] at P1; exact P1.elim
/-- o.f, an attribute that is kept in the instance -/
def attrU (k : Nat) (f' : Str) (f : M R) : M R := do
  let x ← f
  fun S => match insOf x S with
    | some (k', fs) => if k' = k then (match fs.lookup f' with
      | some d => .ok (.p d) S
      | none => .bad) else .bad
    | none => .bad
theorem se_attr {f' : Str} (hK : X.K = c.K) (ho : PE X o (rdE c W f)) (cl : Cls X.K (c.cls k)) (na : NoAttr X.K (c.cls k) f') (hab : attributeBase o f' X.env (eval o X.env) = eval o X.env := by rfl) : PE X (.Attribute o f' pos) (rdE c W (attrU k f' f)) :=
  se_of (pe_fld ho hab) fun σ H Q q => by
    obtain ⟨Γ, S, Fo, P⟩ := q
    refine ⟨Γ, S, Fo, (Post.bind P).imp fun x S1 Γ1 H1 e1 F1 ⟨_, P1⟩ v hv => ?_⟩
    cases hi : insOf x S1 with
    | none => rw [hi] at P1; exact P1.elim
    | some kf =>
      obtain ⟨k', fs⟩ := kf
      rw [hi] at P1
      simp only at P1
      by_cases hk : k' = k
      · rw [if_pos hk] at P1
        subst hk
        cases hd : fs.lookup f' with
        | none => rw [hd] at P1; exact P1.elim
        | some d =>
          rw [hd] at P1
          obtain ⟨a, dx, vs, rfl, h1, h2⟩ := insOf_ok F1 hv hi
          obtain ⟨u, q1, q2⟩ := (h2.lookup f').2 d hd
          exact ⟨a, _, dx, vs, u, rfl, h1, cl, na, q1, Post.ok (c := c) (W := W) P1 Gh.le.refl F1 u q2⟩
      · rw [if_neg hk] at P1; exact P1.elim
/-- o.f = e -/
def putD (f : Str) (d : D) : List (Str × D) → List (Str × D)
  | [] => [(f, d)]
  | (g, x) :: r => if g = f then (g, d) :: r else (g, x) :: putD f d r
theorem RepF.put {G : Hp} {f : Str} {d : D} {v : V} (h : Rep c G d v) : ∀ {fs : List (Str × D)} {vs : List (Str × V)}, RepF c G fs vs → RepF c G (putD f d fs) (putF f v vs)
  | [], vs, q => by
    have : vs = [] := q
    subst this
    exact ⟨v, [], rfl, h, rfl⟩
  | (g, x) :: r, vs, q => by
    obtain ⟨u, r', rfl, h1, h2⟩ := q
    unfold putD putF
    by_cases e : g = f
    · rw [if_pos e, if_pos e]; exact ⟨v, r', rfl, h, h2⟩
    · rw [if_neg e, if_neg e]; exact ⟨u, _, rfl, h1, RepF.put h h2⟩
theorem RepF.length {G : Hp} : ∀ {fs : List (Str × D)} {vs : List (Str × V)}, RepF c G fs vs → vs.length = fs.length
  | [], vs, q => by rw [show vs = [] from q]; rfl
  | (g, x) :: r, vs, q => by
    obtain ⟨u, r', rfl, h1, h2⟩ := q
    simp [RepF.length h2]
def sFld (k : Nat) (f' : Str) (fo f : M R) : M Fl := do
  let x ← f
  let d ← pure1 x
  let o ← fo
  fun S => match o with
    | .r n => match S.st[n]? with
      | some (.mu (.obj k' fs)) => if k' = k ∧ fs.length < 900 then .ok .nx { S with st := S.st.set n (.mu (.obj k' (putD f' d fs))) } else .bad
      | _ => .bad
    | _ => .bad
end
end Dd

set_option Elab.async false
set_option linter.all false
set_option maxRecDepth 100000
namespace Dd
open PySem PySem.Spec PyProof.Rows L2

section
variable {X : Cx} {c : Cg} {W : WX} {e o a b : Expr} {es : List Expr} {f fo fv fa fb : M R} {g : M (List R)} {pos pos' p apos : Pos} {F : Fn} {n k K' : Nat} {fA : Addr} {fd : FuncData} {ps : List Str} {x m : Str}
theorem ss_fld {f' : Str} (hv : PE X e (rdE c W f)) (ho : PE X o (rdE c W fo)) (cl : Cls X.K (c.cls k)) (na : NoAttr X.K (c.cls k) f') (hs : swapsWith e (some (.Attribute o f' pos')) pos.line X.env = pure false := by rfl) : PS X (.Assign [.Attribute o f' pos'] e pos) (rdS c W (sFld k f' fo f)) :=
  ss_of (ps_fld ho hv hs) fun E σ H q => by
    obtain ⟨Γ, S, Fo, P⟩ := q
    refine ⟨Γ, S, Fo, (PostS.bindE P).imp fun x S1 Γ1 H1 e1 F1 ⟨_, P1⟩ v hv => ?_⟩
    obtain ⟨d, Γ2, S2, e2, F2, hd, _, P2⟩ := pure1_ok F1 hv (PostS.bindE P1)
    refine ⟨Γ2, S2, F2, (PostS.bindE P2).imp fun ox S3 Γ3 H3 e3 F3 ⟨_, P3⟩ ov hov => ?_⟩
    cases ox with
    | p d => exact P3.elim
    | r n =>
      simp only at P3
      cases hn : S3.st[n]? with
      | none => rw [hn] at P3; exact P3.elim
      | some y =>
        rw [hn] at P3
        cases y with
        | dead => exact P3.elim
        | fz l => exact P3.elim
        | mu u =>
          cases u with
          | dct k => exact P3.elim
          | dt k => exact P3.elim
          | lst k => exact P3.elim
          | obj k' fs =>
            simp only at P3
            by_cases hk : k' = k ∧ fs.length < 900
            · rw [if_pos hk] at P3
              obtain ⟨rfl, hl⟩ := hk
              obtain ⟨a, ha, rfl⟩ := hov
              obtain ⟨u, q1, ⟨dx, vs, rfl, q2⟩, _⟩ := F3.s.cell n _ a hn ha
              refine ⟨a, _, dx, vs, rfl, q1, cl, na, by rw [q2.length]; omega, ?_⟩
              exact P3 Γ3 σ _ Gh.le.refl (F3.of Gh.le.refl (F3.s.setC hn ha ⟨dx, _, rfl, q2.put (Rep.mono e3.g hd)⟩))
            · rw [if_neg hk] at P3; exact P3.elim
/-- C(..): a new object's cell, then __init__ -/
def makeU (k : Nat) (F : Fn) (n : Nat) (g : M (List R)) : M R := do
  let xs ← g
  fun S => if xs.length + 1 = n then (match F (.r S.st.length :: xs) (S.st ++ [.mu (.obj k [])]) with
    | .ok (.val .non) st => .ok (.r S.st.length) { S with st := st }
    | .exc x st => .exc x { S with st := st }
    | _ => .bad) else .bad
theorem StOk.ext {Γ : Gh} {st : Store} {H H' : Hp} (F : StOk c Γ st H) (e : Ext H H') : StOk c Γ st H' :=
  ⟨F.g.trans e, F.l.trans e, F.gl, F.len, fun n x a e1 e2 => by
    have q := F.cell n x a e1 e2
    cases x with
    | mu o => obtain ⟨u, q1, q2⟩ := q; exact ⟨u, e _ _ q1, q2⟩
    | fz l => exact q
    | dead => trivial, F.inj⟩
theorem makeU_read {σ : L2.St} {H : Hp} {Q : VK} (q : rdE c W (makeU k F n g) σ H Q) : tMakeS (c.cls k) (spF c n F) (WE W) (rdA c W g) σ H Q := by
  obtain ⟨Γ, S, Fo, P⟩ := q
  refine ⟨Γ, S, Fo, (Post.bind P).imp fun xs S1 Γ1 H1 e1 F1 ⟨_, P1⟩ vs hvs => ?_⟩
  by_cases hn : xs.length + 1 = n
  · rw [if_pos hn] at P1
    intro y dx hy hdx hne
    have hy' : upd H1 dx (.own y) y = none := by rw [upd_ne (Ne.symm hne)]; exact hy
    have F2 := (F1.s.ext (Ext.upd (o := .own y) hdx)).newC (p := y) (o := .obj k []) (u := .ins (c.cls k) dx []) hy' ⟨dx, [], rfl, rfl⟩
    have hself : RepR c { Γ1 with ρ := Γ1.ρ ++ [y] } (.r S1.st.length) (.ref y) := ⟨y, by show (Γ1.ρ ++ [y])[S1.st.length]? = some y; rw [F1.s.len]; simp, rfl⟩
    refine ⟨.r S1.st.length :: xs, { Γ1 with ρ := Γ1.ρ ++ [y] }, S1.st ++ [.mu (.obj k [])], by simp [hvs.length, hn], ⟨.ref y, vs, rfl, hself, hvs.mono le_app⟩, F2, ?_⟩
    cases hF : F (.r S1.st.length :: xs) (S1.st ++ [.mu (.obj k [])]) with
    | bad => rw [hF] at P1; exact P1.elim
    | exc y' st =>
      rw [hF] at P1
      exact fun Γ' H' cls dd le s q => P1 Γ' H' cls dd (le_app.trans le) (F1.of (le_app.trans le) s) q
    | ok r st =>
      rw [hF] at P1
      cases r with
      | new o => exact P1.elim
      | val d =>
        cases d with
        | non =>
          intro Γ' H' v le s q
          have e3 : Γ1.le Γ' := le_app.trans le
          exact ⟨Rep.non_iff.mp q, Post.ok (c := c) (W := W) P1 e3 (F1.of e3 s) (.ref y) (hself.mono le)⟩
        | _ => exact P1.elim
  · rw [if_neg hn] at P1; exact P1.elim
theorem se_make (M : Mk X.K (c.cls k) fA) (Fk : FnG X.prog X.w X.K X.mg X.base K' fA fd ps (spF c n F)) (hG : X.A.guards = some []) (hr : Room (K' + 1) X.A) (hg : Gl X x) (hm : X.mg x = some (.ref (c.cls k))) (hb : Binds X.K fd ps []) (tk : Takes X W)
    (ha : PA X (e :: es) (rdA c W g)) (hdb : (x == ("__debug__" : Str)) = false := by decide) (he : starEach (e :: es) X.env = (false, eval e X.env) :: starEach es X.env := by rfl) (hpl : (backTo pos (starEach es X.env)).any (·.1) = false := by rfl) :
    PE X (.Call (.Name x p) (e :: es) [] pos) (rdE c W (makeU k F n g)) :=
  se_of (pe_makeS M Fk hG hr hg hm hb (fun σ => passAt tk σ) ha hdb he hpl) fun σ H Q q => makeU_read q
end

/-! ### kinds, isinstance -/
/-- the built-in type of a value; a screen's class is none -/
def kindD : D → Option String
  | .non => some "NoneType"
  | .bl _ => some "bool"
  | .int _ => some "int"
  | .str _ => some "str"
  | .tup _ => some "tuple"
  | .lst _ => some "list"
  | .edct => some "dict"
  | .scp _ => none
  | .scr _ => none
  | .exn _ _ => none
def kindR (x : R) (S : Sg) : Option String := match x with
  | .p d => kindD d
  | .r n => match S.st[n]? with
    | some (.mu (.lst _)) => some "list"
    | some (.fz _) => some "list"
    | some (.mu (.dct _)) => some "dict"
    | _ => none
/-- what is known of an own class among the built-in ones -/
structure ClsF (K : PySem.W.Frag) (C : Addr) : Prop where
  cl : Cls K C
  ha : PySem.W.findIn K (.ref C) "__class__" = some (some (.builtin "object.__class__"))
  hn : PySem.W.specialIn K (.builtin "object.__class__") "__get__" = some (some (.builtin "getset_descriptor.__get__"))
  tk : PySem.W.takesIn K (.builtin "object.__class__") = some true
  mro : PySem.W.mroIn K C (.type "object") = some true
  self : PySem.W.kitOne K (.ref C) (.ref C) = some true
  isNo : ∀ t ∈ ["NoneType", "bool", "int", "str", "tuple", "list", "dict"], PySem.W.kitOne K (.type t) (.ref C) = some false
  noIs : ∀ t ∈ ["bool", "int", "str", "tuple", "list", "dict"], PySem.W.kitOne K (.ref C) (.type t) = some false
  noSub : ∀ t ∈ ["NoneType", "bool", "int", "str", "tuple", "list", "dict"], PySem.W.subIn K (.type t) (.ref C) = some false
section
variable {X : Cx} {c : Cg} {W : WX} {Γ : Gh} {S : Sg} {σ : L2.St} {H : Hp}
theorem kindD_ok {d : D} {v : V} {t : String} (F : FrOk c Γ S σ H) (hv : Rep c Γ.G d v) (h : kindD d = some t) : TyX c.K H v (.type t) := by
  cases d with
  | non => cases h; rw [Rep.non_iff.mp hv]; exact .base .non
  | bl b => cases h; rw [Rep.bl_iff.mp hv]; exact .base (.bl b)
  | int i => cases h; rw [Rep.int_iff.mp hv]; exact .base (.int i)
  | str s => cases h; rw [Rep.str_iff.mp hv]; exact .base (.str s)
  | tup l =>
    cases h
    obtain ⟨a, vs, rfl, h1, h2⟩ := Rep.tup_iff.mp hv
    rcases h1 with ⟨o, h1, _⟩ | ⟨o, its, n, h1, h2, _⟩
    · exact .fTuple (F.s.g _ _ h1)
    · exact .kTuple h1 h2
  | lst l =>
    cases h
    obtain ⟨a, vs, rfl, h1, h2⟩ := Rep.lst_iff.mp hv
    exact .base (.lst (F.s.g _ _ h1))
  | edct =>
    cases h
    obtain ⟨a, rfl, h1⟩ := Rep.edct_iff.mp hv
    exact .base (.dK (F.s.g _ _ h1))
  | _ => cases h
theorem kindR_ok {x : R} {v : V} {t : String} (F : FrOk c Γ S σ H) (hv : RepR c Γ x v) (h : kindR x S = some t) : TyX c.K H v (.type t) := by
  cases x with
  | p d => exact kindD_ok F hv h
  | r n =>
    obtain ⟨a, ha, rfl⟩ := hv
    unfold kindR at h
    simp only at h
    cases hn : S.st[n]? with
    | none => rw [hn] at h; cases h
    | some y =>
      rw [hn] at h
      cases y with
      | dead => cases h
      | fz l =>
        cases h
        obtain ⟨a', vs, h1, h2, _⟩ := F.s.fro hn
        rw [ha] at h1; cases h1
        exact .base (.lst (F.s.g _ _ h2))
      | mu o =>
        obtain ⟨u, q1, q2, _⟩ := F.s.cell n _ a hn ha
        cases o with
        | lst l =>
          cases h
          obtain ⟨vs, rfl, _⟩ := q2
          exact .base (.lst q1)
        | dct kvs =>
          cases h
          obtain ⟨_, rfl⟩ := q2
          exact .base (.dK q1)
        | dt kvs => cases h
        | obj k fs => cases h
theorem kindR_mem {x : R} {t : String} (h : kindR x S = some t) : t ∈ ["NoneType", "bool", "int", "str", "tuple", "list", "dict"] := by
  cases x with
  | p d => cases d <;> first | (cases h; done) | (cases h; simp)
  | r n =>
    unfold kindR at h
    simp only at h
    split at h <;> first | (cases h; done) | (cases h; simp)
theorem ins_ty {C : Addr} (cf : ClsF c.K C) {a dx : Addr} {fs : List (Str × V)} (h : H a = some (.ins C dx fs)) : TyX c.K H (.ref a) (.ref C) := .base (.ins h cf.cl cf.ha cf.hn cf.tk cf.mro)
/-- is a value of a built-in type one of another -/
def subTy (t n : String) : Bool := t == n || (t == "bool" && n == "int")
theorem kitB_sub : ∀ t ∈ ["NoneType", "bool", "int", "str", "tuple", "list", "dict"], ∀ n ∈ ["bool", "int", "str", "tuple", "list", "dict"], kitB t n = some (subTy t n) := by decide +kernel
end
section
variable {X : Cx} {c : Cg} {W : WX} {e a b cE : Expr} {f : M R} {pos p p1 : Pos} {x : Str}
/-- isinstance(e, n) -/
def isB (n : String) (f : M R) : M R := do
  let x ← f
  fun S => match kindR x S with
    | some t => .ok (.p (.bl (subTy t n))) S
    | none => match insOf x S with
      | some q => if q.1 = 0 then .ok (.p (.bl false)) S else .bad
      | none => .bad
/-- isinstance(e, C), C the class k -/
def isC (k : Nat) (f : M R) : M R := do
  let x ← f
  fun S => match kindR x S with
    | some _ => .ok (.p (.bl false)) S
    | none => match insOf x S with
      | some q => if q.1 = k then .ok (.p (.bl true)) S else .bad
      | none => .bad
theorem isB_read (hK : X.K = c.K) {n : String} (hn : n ∈ ["bool", "int", "str", "tuple", "list", "dict"]) (cf : ClsF c.K (c.cls 0)) {σ : L2.St} {H : Hp} {Q : VK} (q : rdE c W (isB n f) σ H Q) : tCB (rIsi X.K) (tCons (rdE c W f) (tCons (tC (.ty n)) tNil)) σ H Q := by
  obtain ⟨Γ, S, Fo, P⟩ := q
  refine ⟨Γ, S, Fo, (Post.bind P).imp fun x S1 Γ1 H1 e1 F1 ⟨_, P1⟩ v hv => ?_⟩
  show rIsi X.K [v, .ty n] H1 Q
  rw [hK]
  cases hk : kindR x S1 with
  | some t =>
    rw [hk] at P1
    exact ⟨v, .ty n, _, _, _, rfl, .ty n, kindR_ok F1 hv hk, kit_ty (kitB_sub t (kindR_mem hk) n hn), Post.ok (c := c) (W := W) P1 Gh.le.refl F1 _ RepR.mkB⟩
  | none =>
    rw [hk] at P1
    simp only at P1
    cases hi : insOf x S1 with
    | none => rw [hi] at P1; exact P1.elim
    | some q =>
      obtain ⟨k', fs⟩ := q
      rw [hi] at P1
      simp only at P1
      by_cases h0 : k' = 0
      · rw [if_pos h0] at P1
        subst h0
        obtain ⟨a, dx, vs, rfl, h1, h2⟩ := insOf_ok F1 hv hi
        exact ⟨_, .ty n, _, _, _, rfl, .ty n, ins_ty cf h1, cf.noIs n hn, Post.ok (c := c) (W := W) P1 Gh.le.refl F1 _ RepR.mkB⟩
      · rw [if_neg h0] at P1; exact P1.elim
theorem isC_read (hK : X.K = c.K) {k : Nat} (cf : ClsF c.K (c.cls k)) {σ : L2.St} {H : Hp} {Q : VK} (q : rdE c W (isC k f) σ H Q) : tCB (rIsi X.K) (tCons (rdE c W f) (tCons (tC (.ref (c.cls k))) tNil)) σ H Q := by
  obtain ⟨Γ, S, Fo, P⟩ := q
  refine ⟨Γ, S, Fo, (Post.bind P).imp fun x S1 Γ1 H1 e1 F1 ⟨_, P1⟩ v hv => ?_⟩
  show rIsi X.K [v, .ref (c.cls k)] H1 Q
  rw [hK]
  cases hk : kindR x S1 with
  | some t =>
    rw [hk] at P1
    exact ⟨v, _, _, _, _, rfl, .own _, kindR_ok F1 hv hk, cf.isNo t (kindR_mem hk), Post.ok (c := c) (W := W) P1 Gh.le.refl F1 _ RepR.mkB⟩
  | none =>
    rw [hk] at P1
    simp only at P1
    cases hi : insOf x S1 with
    | none => rw [hi] at P1; exact P1.elim
    | some q =>
      obtain ⟨k', fs⟩ := q
      rw [hi] at P1
      simp only at P1
      by_cases h0 : k' = k
      · rw [if_pos h0] at P1
        subst h0
        obtain ⟨a, dx, vs, rfl, h1, h2⟩ := insOf_ok F1 hv hi
        exact ⟨_, _, _, _, _, rfl, .own _, ins_ty cf h1, cf.self, Post.ok (c := c) (W := W) P1 Gh.le.refl F1 _ RepR.mkB⟩
      · rw [if_neg h0] at P1; exact P1.elim
theorem se_isB (hK : X.K = c.K) {n : String} (hn : n ∈ ["bool", "int", "str", "tuple", "list", "dict"]) (cf : ClsF c.K (c.cls 0)) (ha : PE X a (rdE c W f)) (hc : PE X b (tC (.ty n))) (hg : Gl X "isinstance") (hm : X.mg "isinstance" = none)
    (hs : starEach [a, b] X.env = (false, eval a X.env) :: starEach [b] X.env := by rfl) (hs2 : starEach [b] X.env = (false, eval b X.env) :: starEach [] X.env := by rfl) (hpl : (backTo pos (starEach [b] X.env)).any (·.1) = false := by rfl) :
    PE X (.Call (.Name "isinstance" p) [a, b] [] pos) (rdE c W (isB n f)) :=
  se_of (pe_callB call_isi hg hm (by decide +kernel) (pa_cons ha (pa_cons hc pa_nil hs2) hs) (by decide) (by decide) hs hpl) fun σ H Q q => isB_read hK hn cf q
theorem se_isC (hK : X.K = c.K) {k : Nat} (cf : ClsF c.K (c.cls k)) (ha : PE X a (rdE c W f)) (hc : PE X b (tC (.ref (c.cls k)))) (hg : Gl X "isinstance") (hm : X.mg "isinstance" = none)
    (hs : starEach [a, b] X.env = (false, eval a X.env) :: starEach [b] X.env := by rfl) (hs2 : starEach [b] X.env = (false, eval b X.env) :: starEach [] X.env := by rfl) (hpl : (backTo pos (starEach [b] X.env)).any (·.1) = false := by rfl) :
    PE X (.Call (.Name "isinstance" p) [a, b] [] pos) (rdE c W (isC k f)) :=
  se_of (pe_callB call_isi hg hm (by decide +kernel) (pa_cons ha (pa_cons hc pa_nil hs2) hs) (by decide) (by decide) hs hpl) fun σ H Q q => isC_read hK cf q
end
end Dd

set_option Elab.async false
set_option linter.all false
set_option maxRecDepth 100000
namespace Dd
open PySem PySem.Spec PyProof.Rows L2

/-! ### == of data -/
mutual
def toPy : D → Option PyData
  | .non => some .none
  | .bl b => some (.bool b)
  | .int i => some (.int i)
  | .str s => some (.str s)
  | .tup l => match toPyL l with
    | some xs => some (.tuple xs)
    | none => none
  | .lst l => match toPyL l with
    | some xs => some (.list xs)
    | none => none
  | .scp l => match toPyL l with
    | some xs => some (.list xs)
    | none => none
  | .scr _ => none
  | .edct => none
  | .exn _ _ => none
def toPyL : List D → Option (List PyData)
  | [] => some []
  | d :: ds => match toPy d with
    | some x => match toPyL ds with
      | some xs => some (x :: xs)
      | none => none
    | none => none
end
mutual
theorem toPy_dp {c : Cg} {G : Hp} : ∀ {d : D} {e : PyData} {v : V}, toPy d = some e → Rep c G d v → Dp c.K G v e
  | .non, e, v, h, r => by unfold toPy at h; cases h; rw [Rep.non_iff.mp r]; exact .non
  | .bl b, e, v, h, r => by unfold toPy at h; cases h; rw [Rep.bl_iff.mp r]; exact .bl b
  | .int i, e, v, h, r => by unfold toPy at h; cases h; rw [Rep.int_iff.mp r]; exact .int i
  | .str s, e, v, h, r => by unfold toPy at h; cases h; rw [Rep.str_iff.mp r]; exact .str s
  | .tup l, e, v, h, r => by
    unfold toPy at h
    cases q : toPyL l with
    | none => rw [q] at h; cases h
    | some xs =>
      rw [q] at h; cases h
      obtain ⟨a, vs, rfl, h1, h2⟩ := Rep.tup_iff.mp r
      exact .tup h1.sq (toPyL_dp q h2)
  | .lst l, e, v, h, r => by
    unfold toPy at h
    cases q : toPyL l with
    | none => rw [q] at h; cases h
    | some xs =>
      rw [q] at h; cases h
      obtain ⟨a, vs, rfl, h1, h2⟩ := Rep.lst_iff.mp r
      exact .lst (.inl (.inl h1)) (toPyL_dp q h2)
  | .scp l, e, v, h, r => by
    unfold toPy at h
    cases q : toPyL l with
    | none => rw [q] at h; cases h
    | some xs =>
      rw [q] at h; cases h
      obtain ⟨a, vs, rfl, h1, h2⟩ := Rep.scp_iff.mp r
      exact .lst h1 (toPyL_dp q h2)
  | .scr _, e, v, h, r => by unfold toPy at h; cases h
  | .edct, e, v, h, r => by unfold toPy at h; cases h
  | .exn _ _, e, v, h, r => by unfold toPy at h; cases h
theorem toPyL_dp {c : Cg} {G : Hp} : ∀ {ds : List D} {es : List PyData} {vs : List V}, toPyL ds = some es → RepL c G ds vs → DpAll c.K G vs es
  | [], es, vs, h, r => by unfold toPyL at h; cases h; rw [RepL.nil_iff.mp r]; exact .nil
  | d :: ds, es, vs, h, r => by
    unfold toPyL at h
    cases q : toPy d with
    | none => rw [q] at h; cases h
    | some x =>
      rw [q] at h
      simp only at h
      cases q2 : toPyL ds with
      | none => rw [q2] at h; cases h
      | some xs =>
        rw [q2] at h; cases h
        obtain ⟨v, r', rfl, h1, h2⟩ := RepL.cons_iff.mp r
        exact .cons (toPy_dp q h1) (toPyL_dp q2 h2)
end
mutual
theorem Dp.mono {K : PySem.W.Frag} {H H' : Hp} (e : Ext H H') : ∀ {d : PyData} {v : V}, Dp K H v d → Dp K H' v d
  | .none, _, h => by cases h; exact .non
  | .bool b, _, h => by cases h; exact .bl b
  | .int b, _, h => by cases h; exact .int b
  | .str b, _, h => by cases h; exact .str b
  | .list ds, _, h => by
    cases h with
    | lst h1 h2 => exact .lst (SqL.mono e h1) (DpAll.mono e h2)
  | .tuple ds, _, h => by
    cases h with
    | tup h1 h2 => exact .tup (SqT.mono e h1) (DpAll.mono e h2)
  | .dict _, _, h => by cases h
theorem DpAll.mono {K : PySem.W.Frag} {H H' : Hp} (e : Ext H H') : ∀ {ds : List PyData} {vs : List V}, DpAll K H vs ds → DpAll K H' vs ds
  | [], _, h => by cases h; exact .nil
  | d :: ds, _, h => by
    cases h with
    | cons h1 h2 => exact .cons (Dp.mono e h1) (DpAll.mono e h2)
end
/-- a value as data, looked at -/
def dataR (x : R) (S : Sg) : Option PyData := match x with
  | .p d => toPy d
  | .r n => match getLst (.r n) S with
    | some l => match toPyL l with
      | some xs => some (.list xs)
      | none => none
    | none => none
/-- == on data, and of a screen with anything by its own method -/
def opEqD : R → R → M R := fun x y S => match dataR x S with
  | some d => match dataR y S with
    | some e => if SeqAt.shaped d = true ∧ SeqAt.shaped e = true then .ok (.p (.bl (PyData.eqv d e))) S else .bad
    | none => .bad
  | none => .bad
def opNeD : R → R → M R := fun x y S => match dataR x S with
  | some d => match dataR y S with
    | some e => if SeqAt.shaped d = true ∧ SeqAt.shaped e = true then .ok (.p (.bl (!PyData.eqv d e))) S else .bad
    | none => .bad
  | none => .bad
section
variable {X : Cx} {c : Cg} {W : WX} {a b e : Expr} {f fa fb : M R} {g : M (List R)} {pos : Pos} {Γ : Gh} {S : Sg} {σ : L2.St} {H : Hp}
theorem dataR_ok {x : R} {v : V} {d : PyData} (F : FrOk c Γ S σ H) (hv : RepR c Γ x v) (h : dataR x S = some d) : Dp c.K H v d := by
  cases x with
  | p y => exact Dp.mono F.s.g (toPy_dp h hv)
  | r n =>
    unfold dataR at h
    simp only at h
    cases q : getLst (.r n) S with
    | none => rw [q] at h; cases h
    | some l =>
      rw [q] at h
      simp only at h
      cases q2 : toPyL l with
      | none => rw [q2] at h; cases h
      | some xs =>
        rw [q2] at h; cases h
        obtain ⟨a, vs, rfl, h1, h2⟩ := getLst_ok F hv q
        exact .lst h1 (DpAll.mono F.s.g (toPyL_dp q2 h2))
theorem od_eqD (hK : X.K = c.K) : OpD c W opEqD (rEqD X.K) := by
  intro Γ S σ H x y v w Q F hx hy P
  unfold opEqD at P
  cases h1 : dataR x S with
  | none => rw [h1] at P; exact P.elim
  | some d =>
    rw [h1] at P
    simp only at P
    cases h2 : dataR y S with
    | none => rw [h2] at P; exact P.elim
    | some e =>
      rw [h2] at P
      simp only at P
      by_cases h : SeqAt.shaped d = true ∧ SeqAt.shaped e = true
      · rw [if_pos h] at P
        exact ⟨d, e, hK ▸ dataR_ok F hx h1, hK ▸ dataR_ok F hy h2, h.1, h.2, Post.ok (c := c) (W := W) P Gh.le.refl F _ RepR.mkB⟩
      · rw [if_neg h] at P; exact P.elim
theorem od_neD (hK : X.K = c.K) : OpD c W opNeD (rNeD X.K) := by
  intro Γ S σ H x y v w Q F hx hy P
  unfold opNeD at P
  cases h1 : dataR x S with
  | none => rw [h1] at P; exact P.elim
  | some d =>
    rw [h1] at P
    simp only at P
    cases h2 : dataR y S with
    | none => rw [h2] at P; exact P.elim
    | some e =>
      rw [h2] at P
      simp only at P
      by_cases h : SeqAt.shaped d = true ∧ SeqAt.shaped e = true
      · rw [if_pos h] at P
        exact ⟨d, e, hK ▸ dataR_ok F hx h1, hK ▸ dataR_ok F hy h2, h.1, h.2, Post.ok (c := c) (W := W) P Gh.le.refl F _ RepR.mkB⟩
      · rw [if_neg h] at P; exact P.elim
/-- e is None, e is not None -/
def isN (f : M R) : M R := do
  let x ← f
  fun S => match x with
    | .p .non => .ok (.p (.bl true)) S
    | _ => .ok (.p (.bl false)) S
theorem non_iff {Γ : Gh} {x : R} {v : V} (h : RepR c Γ x v) : v = .non ↔ x = .p .non := by
  constructor
  · intro e
    subst e
    cases x with
    | r n => obtain ⟨a, _, h2⟩ := h; cases h2
    | p d =>
      cases d with
      | non => rfl
      | bl b => cases RepR.bl h
      | int b => cases RepR.int h
      | str b => cases RepR.str h
      | tup l => obtain ⟨_, _, h, _⟩ := Rep.tup_iff.mp (RepR.pure.mp h); cases h
      | lst l => obtain ⟨_, _, h, _⟩ := Rep.lst_iff.mp (RepR.pure.mp h); cases h
      | scp l => obtain ⟨_, _, h, _⟩ := Rep.scp_iff.mp (RepR.pure.mp h); cases h
      | scr l => obtain ⟨_, _, _, _, h, _⟩ := Rep.scr_iff.mp (RepR.pure.mp h); cases h
      | edct => obtain ⟨_, h, _⟩ := Rep.edct_iff.mp (RepR.pure.mp h); cases h
      | exn _ _ => obtain ⟨_, _, h, _⟩ := Rep.exn_iff.mp (RepR.pure.mp h); cases h
  · intro e; subst e; exact RepR.non h
theorem isN_read {σ : L2.St} {H : Hp} {Q : VK} (q : rdE c W (isN f) σ H Q) : tIsN (rdE c W f) σ H Q := by
  obtain ⟨Γ, S, F, P⟩ := q
  refine ⟨Γ, S, F, (Post.bind P).imp fun x S1 Γ1 H1 e1 F1 ⟨_, P1⟩ v hv => ?_⟩
  by_cases h : x = .p .non
  · have hv2 := (non_iff hv).mpr h
    subst hv2
    subst h
    exact Post.ok (c := c) (W := W) P1 Gh.le.refl F1 _ RepR.mkB
  · have hv2 : ¬ v = .non := fun e => h ((non_iff hv).mp e)
    dsimp only
    rw [decide_eq_false hv2]
    cases x with
    | r n => exact Post.ok (c := c) (W := W) P1 Gh.le.refl F1 _ RepR.mkB
    | p d =>
      cases d with
      | non => exact (h rfl).elim
      | _ => exact Post.ok (c := c) (W := W) P1 Gh.le.refl F1 _ RepR.mkB
theorem se_isN {j pos'} (h : PE X a (rdE c W f)) : PE X (.Compare a [.Is] [.Constant .none j pos'] pos) (rdE c W (isN f)) := se_of (pe_cmp (pc_isN h)) fun σ H Q q => isN_read q
theorem st_isN {j pos'} (h : PE X a (rdE c W f)) : PT X (.Compare a [.Is] [.Constant .none j pos'] pos) (rdT c W (tst (isN f))) := st_of (pt_cmp (pc_isN h)) fun σ H Q q => isN_read (tst_read q)
end
end Dd

set_option Elab.async false
set_option linter.all false
set_option maxRecDepth 100000
namespace Dd
open PySem PySem.Spec PyProof.Rows L2

/-! ### built-in functions -/
section
variable {X : Cx} {c : Cg} {W : WX} {a b e : Expr} {f fa fb : M R} {g : M (List R)} {pos : Pos}
/-- one argument -/
def op1 (op : R → M R) : List R → M R := fun xs => match xs with
  | [x] => op x
  | _ => bad
def OneD (c : Cg) (W : WX) (op : R → M R) (r : V → Hp → VK → Prop) : Prop :=
  ∀ (Γ : Gh) (S : Sg) (σ : L2.St) (H : Hp) (x : R) (v : V) (Q : VK), FrOk c Γ S σ H → RepR c Γ x v →
    Post c W σ Γ (op x S) (fun z S' Γ' H' => ∀ u, RepR c Γ' z u → Q u H') → r v H Q
theorem cd_one {op : R → M R} {r : V → Hp → VK → Prop} {rl : List V → Hp → VK → Prop} (h : OneD c W op r) (hl : ∀ v H Q, r v H Q → rl [v] H Q) : CallD c W (op1 op) rl := by
  intro Γ S σ H xs vs Q F hxs P
  cases xs with
  | nil => exact P.elim
  | cons x r =>
    cases r with
    | cons y ys => exact P.elim
    | nil =>
      obtain ⟨v, rfl, hv⟩ := one_arg hxs
      exact hl v H Q (h Γ S σ H x v Q F hv P)
def opLen : R → M R := fun x S => match getL x S with
  | some l => .ok (.p (.int (l.length : Nat))) S
  | none => match x with
    | .p (.str z) => if z.length ≤ sizeLine then .ok (.p (.int (z.length : Nat))) S else .bad
    | _ => .bad
theorem call_lenA : CallR X (.builtin "len") (fun xs H Q => (∃ p ys, xs = [.ref p] ∧ (SqL X.K H p ys ∨ SqT X.K H p ys) ∧ Q (.int ys.length) H) ∨ ∃ z, xs = [.str z] ∧ z.length ≤ sizeLine ∧ Q (.int z.length) H) := CallR.or call_len_seq call_len_str
theorem cd_len (hK : X.K = c.K) : CallD c W (op1 opLen) (fun xs H Q => (∃ p ys, xs = [.ref p] ∧ (SqL X.K H p ys ∨ SqT X.K H p ys) ∧ Q (.int ys.length) H) ∨ ∃ z, xs = [.str z] ∧ z.length ≤ sizeLine ∧ Q (.int z.length) H) :=
  cd_one (r := fun v H Q => (∃ p ys, v = .ref p ∧ (SqL X.K H p ys ∨ SqT X.K H p ys) ∧ Q (.int ys.length) H) ∨ ∃ z, v = .str z ∧ z.length ≤ sizeLine ∧ Q (.int z.length) H) (by
    intro Γ S σ H x v Q F hv P
    unfold opLen at P
    cases hl : getL x S with
    | some l =>
      rw [hl] at P
      obtain ⟨a, vs, rfl, h1, h2⟩ := getL_ok F hv hl
      exact .inl ⟨a, vs, rfl, hK ▸ h1, by rw [h2.length]; exact Post.ok (c := c) (W := W) P Gh.le.refl F _ RepR.mkI⟩
    | none =>
      rw [hl] at P
      cases x with
      | r n => exact P.elim
      | p d =>
        cases d with
        | str z =>
          have P : Post c W σ Γ (if z.length ≤ sizeLine then Res.ok (R.p (.int (z.length : Nat))) S else .bad) (fun z S' Γ' H' => ∀ u, RepR c Γ' z u → Q u H') := P
          by_cases hz : z.length ≤ sizeLine
          · rw [if_pos hz] at P
            exact .inr ⟨z, RepR.str hv, hz, Post.ok (c := c) (W := W) P Gh.le.refl F _ RepR.mkI⟩
          · rw [if_neg hz] at P; exact P.elim
        | _ => exact P.elim) (fun v H Q h => by
    rcases h with ⟨p, ys, rfl, h⟩ | ⟨z, rfl, h⟩
    · exact .inl ⟨p, ys, rfl, h⟩
    · exact .inr ⟨z, rfl, h⟩)
/-- int(x) of an int, of a truth -/
def opInt : R → M R := fun x S => match x with
  | .p (.int i) => .ok (.p (.int i)) S
  | .p (.bl b) => .ok (.p (.int (if b = true then 1 else 0))) S
  | _ => .bad
theorem cd_int : CallD c W (op1 opInt) (fun xs H Q => (∃ i, xs = [.int i] ∧ Q (.int i) H) ∨ ∃ k, xs = [.bl k] ∧ Q (.int (if k then 1 else 0)) H) :=
  cd_one (r := fun v H Q => (∃ i, v = .int i ∧ Q (.int i) H) ∨ ∃ k, v = .bl k ∧ Q (.int (if k = true then 1 else 0)) H) (by
    intro Γ S σ H x v Q F hv P
    cases x with
    | r n => exact P.elim
    | p d =>
      cases d with
      | int i => exact .inl ⟨i, RepR.int hv, Post.ok (c := c) (W := W) P Gh.le.refl F _ RepR.mkI⟩
      | bl k => exact .inr ⟨k, RepR.bl hv, Post.ok (c := c) (W := W) P Gh.le.refl F _ RepR.mkI⟩
      | _ => exact P.elim) (fun v H Q h => by
    rcases h with ⟨i, rfl, h⟩ | ⟨k, rfl, h⟩
    · exact .inl ⟨i, rfl, h⟩
    · exact .inr ⟨k, rfl, h⟩)
def opMax2 : List R → M R := fun xs S => match asI2 xs with
  | some q => .ok (.p (.int (max q.1 q.2))) S
  | none => .bad
def opMin2 : List R → M R := fun xs S => match asI2 xs with
  | some q => .ok (.p (.int (min q.1 q.2))) S
  | none => .bad
theorem cd_max2 : CallD c W opMax2 (fun xs H Q => ∃ i j, xs = [.int i, .int j] ∧ Q (.int (if j > i then j else i)) H) := by
  intro Γ S σ H xs vs Q F hxs P
  unfold opMax2 at P
  cases q : asI2 xs with
  | none => rw [q] at P; exact P.elim
  | some ij =>
    obtain ⟨i, j⟩ := ij
    rw [q] at P
    refine ⟨i, j, ints2 hxs q, ?_⟩
    have e : (if j > i then j else i) = max i j := by rw [Int.max_def]; split <;> split <;> omega
    rw [e]
    exact Post.ok (c := c) (W := W) P Gh.le.refl F _ RepR.mkI
def opAbs : R → M R := fun x S => match x with
  | .p (.int i) => .ok (.p (.int (if i < 0 then -i else i))) S
  | _ => .bad
/-- truths -/
def blsOf : List D → Option (List Bool)
  | [] => some []
  | .bl i :: r => match blsOf r with
    | some l => some (i :: l)
    | none => none
  | _ => none
theorem blsOf_some : ∀ {l : List D} {ns : List Bool}, blsOf l = some ns → l = ns.map D.bl
  | [], ns, h => by cases h; rfl
  | d :: r, ns, h => by
    cases d with
    | bl i =>
      unfold blsOf at h
      cases q : blsOf r with
      | none => rw [q] at h; cases h
      | some l => rw [q] at h; cases h; rw [blsOf_some q]; rfl
    | _ => cases h
def opAll : R → M R := fun x S => match getLst x S with
  | some l => match blsOf l with
    | some bs => .ok (.p (.bl (bs.all id))) S
    | none => .bad
  | none => .bad
def opSum : R → M R := fun x S => match getLst x S with
  | some l => match intsOf l with
    | some ns => .ok (.p (.int ns.sum)) S
    | none => .bad
  | none => .bad
theorem cd_all (hK : X.K = c.K) : CallD c W (op1 opAll) (rAll X.K) :=
  cd_one (r := fun v H Q => rAll X.K [v] H Q) (by
    intro Γ S σ H x v Q F hv P
    unfold opAll at P
    cases hl : getLst x S with
    | none => rw [hl] at P; exact P.elim
    | some l =>
      rw [hl] at P
      simp only at P
      cases hb : blsOf l with
      | none => rw [hb] at P; exact P.elim
      | some bs =>
        rw [hb] at P
        obtain ⟨a, vs, rfl, h1, h2⟩ := getLst_ok F hv hl
        rw [blsOf_some hb] at h2
        rw [h2.bls] at h1
        exact ⟨a, bs, rfl, hK ▸ h1, Post.ok (c := c) (W := W) P Gh.le.refl F _ RepR.mkB⟩) (fun v H Q h => h)
theorem cd_sum (hK : X.K = c.K) : CallD c W (op1 opSum) (rSum X.K) :=
  cd_one (r := fun v H Q => rSum X.K [v] H Q) (by
    intro Γ S σ H x v Q F hv P
    unfold opSum at P
    cases hl : getLst x S with
    | none => rw [hl] at P; exact P.elim
    | some l =>
      rw [hl] at P
      simp only at P
      cases hb : intsOf l with
      | none => rw [hb] at P; exact P.elim
      | some bs =>
        rw [hb] at P
        obtain ⟨a, vs, rfl, h1, h2⟩ := getLst_ok F hv hl
        rw [intsOf_some hb] at h2
        rw [h2.ints] at h1
        exact ⟨a, bs, rfl, hK ▸ h1, Post.ok (c := c) (W := W) P Gh.le.refl F _ RepR.mkI⟩) (fun v H Q h => h)
/-- list(x): a new list -/
def opList : R → M R := fun x S => match getL x S with
  | some l => .ok (.r S.st.length) { S with st := S.st ++ [.mu (.lst l)] }
  | none => .bad
theorem cd_list (hK : X.K = c.K) : CallD c W (op1 opList) (fun xs H Q => ∃ p ys, xs = [.ref p] ∧ (SqL X.K H p ys ∨ SqT X.K H p ys) ∧ ∀ l, H l = none → Q (.ref l) (upd H l (.lst ys))) :=
  cd_one (r := fun v H Q => ∃ p ys, v = .ref p ∧ (SqL X.K H p ys ∨ SqT X.K H p ys) ∧ ∀ l, H l = none → Q (.ref l) (upd H l (.lst ys))) (by
    intro Γ S σ H x v Q F hv P
    unfold opList at P
    cases hl : getL x S with
    | none => rw [hl] at P; exact P.elim
    | some l =>
      rw [hl] at P
      obtain ⟨a, vs, rfl, h1, h2⟩ := getL_ok F hv hl
      refine ⟨a, vs, rfl, hK ▸ h1, fun p hp => ?_⟩
      obtain ⟨Γ3, e3, F3, r3⟩ := newL_ok F h2 hp
      exact Post.ok (c := c) (W := W) P e3 F3 _ r3) (fun v H Q h => by obtain ⟨p, ys, rfl, h⟩ := h; exact ⟨p, ys, rfl, h⟩)
/-- tuple(x) -/
def opTuple : R → M R := fun x S => match x with
  | .p (.tup l) => .ok (.p (.tup l)) S
  | x => match getLst x S with
    | some l => .ok (.p (.tup l)) S
    | none => .bad
def rTupF (K : PySem.W.Frag) : List V → Hp → VK → Prop := fun xs H Q => ∃ p ys, xs = [.ref p] ∧ ((SqL K H p ys ∧ ∀ l o, H l = none → o.dict = none → Q (.ref l) (upd H l (.frz o (.tup ys)))) ∨ (SqT K H p ys ∧ Q (.ref p) H))
theorem call_tupF : CallR X (.type "tuple") (rTupF X.K) := by
  intro pins s σ H xs us Q I r h
  obtain ⟨p, ys, rfl, h⟩ := h
  obtain ⟨u, rfl, rx⟩ := vals1 r
  cases rx
  rcases h with ⟨hq, q⟩ | ⟨hq, q⟩
  · obtain ⟨its, r', pl, hz⟩ := I.list hq
    have hlen := r'.length
    have hsl := sizeLine_eq
    refine call_tuple_list pl.isList (fun h' kp => ?_) (by simp only [List.size_toArray] <;> omega)
    have I1 : L2.Inv X pins σ H { s with heap := h' } := I.kept (t' := s.toks) kp
    have I2 : L2.Inv X pins σ (upd H h'.objs.size (.frz { cls := .type "tuple", data := .seq its.toArray } (.tup ys))) { s with heap := h'.push { cls := .type "tuple", data := .seq its.toArray } } :=
      I1.laid (t' := s.toks) (fun b o e => Heap.get?_push_of_some _ e) (Nat.le_refl _) ⟨Heap.get?_push_size _ rfl, hz, its, r', IsTup.new _ _⟩
    exact ⟨.ref h'.objs.size, _, I2, rfl, q _ _ (I1.hok.fresh (Nat.le_refl _)) rfl⟩
  · obtain ⟨its, r', pl, hz⟩ := I.tuple hq
    exact call_tuple_same pl ⟨.ref p, H, I, rfl, q⟩
theorem cd_tuple (hK : X.K = c.K) : CallD c W (op1 opTuple) (rTupF X.K) :=
  cd_one (r := fun v H Q => rTupF X.K [v] H Q) (by
    intro Γ S σ H x v Q F hv P
    have lst : ∀ y : R, RepR c Γ y v → Post c W σ Γ (match getLst y S with | some l => Res.ok (R.p (.tup l)) S | none => .bad) (fun z S' Γ' H' => ∀ u, RepR c Γ' z u → Q u H') → rTupF X.K [v] H Q := fun y hv P => by
      cases hl : getLst y S with
      | none => rw [hl] at P; exact P.elim
      | some l =>
        rw [hl] at P
        obtain ⟨a, vs, rfl, h1, h2⟩ := getLst_ok F hv hl
        refine ⟨a, vs, rfl, .inl ⟨hK ▸ h1, fun p o hp ho => ?_⟩⟩
        obtain ⟨Γ3, e3, F3, r3⟩ := newT_ok F h2 hp ho
        exact Post.ok (c := c) (W := W) P e3 F3 _ r3
    cases x with
    | r n => exact lst _ hv P
    | p d =>
      cases d with
      | tup l =>
        obtain ⟨a, vs, rfl, h1, h2⟩ := Rep.tup_iff.mp (RepR.pure.mp hv)
        exact ⟨a, vs, rfl, .inr ⟨hK ▸ (TupS.mono F.s.g h1).sq, Post.ok (c := c) (W := W) P Gh.le.refl F _ hv⟩⟩
      | lst l => exact lst _ hv P
      | scp l => exact lst _ hv P
      | _ => exact P.elim) (fun v H Q h => h)
/-- repr of data -/
def opRepr : R → M R := fun x S => match dataR x S with
  | some d => match d with
    | .int i => if i.natAbs.log2 < 1920 then .ok (.p (.str (toString i))) S else .bad
    | .list xs => if (PyData.list xs).showable = true ∧ (PyData.list xs).hasDict = false ∧ (PyData.list xs).depth ≤ 64 ∧ (PyData.list xs).shown.length ≤ sizeLine then .ok (.p (.str (PyData.list xs).shown)) S else .bad
    | .tuple xs => if (PyData.tuple xs).showable = true ∧ (PyData.tuple xs).hasDict = false ∧ (PyData.tuple xs).depth ≤ 64 ∧ (PyData.tuple xs).shown.length ≤ sizeLine then .ok (.p (.str (PyData.tuple xs).shown)) S else .bad
    | .bool b => .ok (.p (.str (if b = true then "True" else "False"))) S
    | .none => .ok (.p (.str "None")) S
    | _ => .bad
  | none => .bad
/-- what is asked of data that is shown -/
def ShowOk (d : PyData) : Prop := d.showable = true ∧ d.hasDict = false ∧ d.depth ≤ 64 ∧ d.shown.length ≤ sizeLine
def rReprD (K : PySem.W.Frag) : List V → Hp → VK → Prop := fun xs H Q => ∃ v d, xs = [v] ∧ Dp K H v d ∧ match d with
  | .int i => i.natAbs.log2 < 1920 ∧ Q (.str (toString i)) H
  | .list ys => ShowOk (.list ys) ∧ Q (.str (PyData.list ys).shown) H
  | .tuple ys => ShowOk (.tuple ys) ∧ Q (.str (PyData.tuple ys).shown) H
  | .bool b => Q (.str (if b = true then "True" else "False")) H
  | .none => Q (.str "None") H
  | _ => False
theorem call_reprD (hG : X.A.guards = some []) (hu : X.A.units + 66 < cLine) : CallR X (.builtin "repr") (rReprD X.K) := by
  intro pins s σ H xs us Q I r h
  obtain ⟨v, d, rfl, hd, q⟩ := h
  obtain ⟨u, rfl, rv⟩ := vals1 r
  have big : ∀ a, u = .ref a → d.showable = true ∧ d.hasDict = false ∧ d.depth ≤ 64 ∧ d.shown.length ≤ sizeLine → Q (.str d.shown) H → wpAny (model X.prog X.w) X.A (call (.builtin "repr") [u]) (EP X pins σ Q) X.xe s := fun a ea hs q => by
    obtain ⟨h1, h2, h3, h4⟩ := hs
    obtain ⟨as, rd⟩ := Dp.reads I d v u hd rv
    subst ea
    refine repr_of_reads' rd h1 (PyData.noDict_hsm h2) hG (by omega) (fun _ _ e => e) (fun h' u tk kp => ?_) h4
    exact ⟨.str _, H, I.kept (t' := tk) kp, ⟨_, rfl⟩, q⟩
  cases d with
  | int i =>
    cases hd
    obtain ⟨t, rfl⟩ := rv
    exact PySem.P.repr_of_int q.1 ⟨.str _, H, I.tok _, ⟨_, rfl⟩, q.2⟩
  | list ys => cases hd; cases rv; exact big _ rfl q.1 q.2
  | tuple ys => cases hd; cases rv; exact big _ rfl q.1 q.2
  | bool b =>
    cases hd; cases rv
    exact PySem.P.repr_of_bool ⟨.str _, H, I.tok _, ⟨_, rfl⟩, q⟩
  | none =>
    cases hd; cases rv
    exact PySem.P.repr_of_none ⟨.str _, H, I.tok _, ⟨_, rfl⟩, q⟩
  | str z => exact q.elim
  | dict z => exact q.elim
theorem cd_repr (hK : X.K = c.K) : CallD c W (op1 opRepr) (rReprD X.K) :=
  cd_one (r := fun v H Q => rReprD X.K [v] H Q) (by
    intro Γ S σ H x v Q F hv P
    unfold opRepr at P
    cases hd : dataR x S with
    | none => rw [hd] at P; exact P.elim
    | some d =>
      rw [hd] at P
      have hp := hK ▸ dataR_ok F hv hd
      refine ⟨v, d, rfl, hp, ?_⟩
      have fin : ∀ z : Str, Post c W σ Γ (Res.ok (R.p (.str z)) S) (fun z S' Γ' H' => ∀ u, RepR c Γ' z u → Q u H') → Q (.str z) H := fun z P => Post.ok (c := c) (W := W) P Gh.le.refl F _ RepR.mkS
      cases d with
      | int i =>
        have P : Post c W σ Γ (if i.natAbs.log2 < 1920 then Res.ok (R.p (.str (toString i))) S else .bad) (fun z S' Γ' H' => ∀ u, RepR c Γ' z u → Q u H') := P
        by_cases h : i.natAbs.log2 < 1920
        · rw [if_pos h] at P; exact ⟨h, fin _ P⟩
        · rw [if_neg h] at P; exact P.elim
      | list ys =>
        dsimp only at P
        split at P
        · rename_i h; exact ⟨h, fin _ P⟩
        · exact P.elim
      | tuple ys =>
        dsimp only at P
        split at P
        · rename_i h; exact ⟨h, fin _ P⟩
        · exact P.elim
      | bool b => exact fin _ P
      | none => exact fin _ P
      | str z => exact P.elim
      | dict z => exact P.elim) (fun v H Q h => h)
end
end Dd

set_option Elab.async false
set_option linter.all false
set_option maxRecDepth 100000
namespace Dd
open PySem PySem.Spec PyProof.Rows L2

/-! ### sorted of a list or a tuple of ints -/
theorem sorted_seqI {prog : Program} {w : World} {A : Around} {E : Value → Shared → Prop} {s : Shared} {l : Addr} {T : String} {o : Obj} {vs : List Value} {ns : List Int} {n : Nat} {Q : Value → Shared → Prop} (hT : T = "list" ∨ T = "tuple")
    (ho : s.heap.get? l = some o) (hc : o.cls = .type T) (hd : o.data = .seq vs.toArray n) (hI : IntsAre vs ns) (hz : vs.length ≤ sizeLine)
    (h : ∀ (h1 h' : Heap) (out : List Value) (ns' : List Int) (e : Nat), IntsAre out ns' → ns'.Perm ns → ns'.Pairwise (· ≤ ·) → (∀ b q, s.heap.get? b = some q → h1.get? b = some q) → (∀ b q, h1.get? b = some q → h'.get? b = some q) → h'.get? h1.objs.size = some (seqObj "list" out.toArray e) → Q (.ref h1.objs.size) { s with heap := h' }) :
    wpAny (model prog w) A (call (.builtin "sorted") [.ref l]) Q E s := by
  refine Calls.call_function_entry kind_sorted plain_sorted entry_sorted (args_sorted1 _) ?_
  unfold Builtin.«sorted»
  refine wpAny_bind (m := checkCount "sorted" 1 1 _) (wpAny_pure ?_)
  refine wpAny_bind (wpAny_collect_seq l hT ho hc hd (fun h1 k1 => ?_) (by rw [List.size_toArray]; exact hz))
  show wpAny _ _ _ _ _ _
  refine wpAny_bind (wpAny_newList (items := vs) ?_ hz)
  have hoL : (h1.push (seqObj "list" vs.toArray 0)).get? h1.objs.size = some (seqObj "list" vs.toArray 0) := Heap.get?_push_size _ rfl
  have keep : ∀ b q, h1.get? b = some q → b ≠ h1.objs.size ∧ (h1.push (seqObj "list" vs.toArray 0)).get? b = some q := fun b q e =>
    ⟨Nat.ne_of_lt (Heap.lt_size e), Heap.get?_push_of_some _ e⟩
  refine wpAny_bind (wpAny_holding (wpAny_call_entry slot_list_sort ⟨_, hoL, rfl⟩ entry_list_sort (SrtO.list_sort_ord SrtO.swo_int hoL hz (fun h2 => SrtO.ints_sortable hI h2) fun out hs hb => ⟨_, rfl, ?_⟩) (args_list_sort _)))
  obtain ⟨q1, q2, q3⟩ := SrtO.ints_out hI hs hb
  obtain ⟨e, he⟩ := sortedHeap_at (out := out.toArray) hoL
  refine wpAny_pure ⟨_, rfl, h h1 _ out _ e q1 q2 q3 k1 (fun b q eb => ?_) he⟩
  obtain ⟨n1, n2⟩ := keep b q eb
  rw [sortedHeap_old n1 (Heap.lt_size n2)]
  exact n2
def sortI (ns : List Int) : List Int := ns.mergeSort (fun a b => decide (a ≤ b))
theorem sortI_eq {ns ns' : List Int} (h1 : ns'.Perm ns) (h2 : ns'.Pairwise (· ≤ ·)) : ns' = sortI ns := by
  have p : (sortI ns).Perm ns := List.mergeSort_perm ns _
  have q : (sortI ns).Pairwise (· ≤ ·) := (List.pairwise_mergeSort (le := fun a b : Int => decide (a ≤ b)) (fun a b c h1 h2 => by simp at *; omega) (fun a b => by simp; omega) ns).imp fun h => by simpa using h
  exact (h1.trans p.symm).eq_of_pairwise (fun a b _ _ h1 h2 => by omega) h2 q
def opSort : R → M R := fun x S => match getL x S with
  | some l => match intsOf l with
    | some ns => .ok (.r S.st.length) { S with st := S.st ++ [.mu (.lst ((sortI ns).map .int))] }
    | none => .bad
  | none => .bad
section
variable {X : Cx} {c : Cg} {W : WX}
def rSortA (K : PySem.W.Frag) : List V → Hp → VK → Prop := fun xs H Q => ∃ a ns, xs = [.ref a] ∧ (SqL K H a (ns.map V.int) ∨ SqT K H a (ns.map V.int)) ∧ ∀ p, H p = none → Q (.ref p) (upd H p (.lst ((sortI ns).map V.int)))
theorem call_sortA : CallR X (.builtin "sorted") (rSortA X.K) := by
  intro pins s σ H xs us Q I r h
  obtain ⟨a, ns, rfl, hs, q⟩ := h
  obtain ⟨u, rfl, rx⟩ := vals1 r
  cases rx
  have all : ∀ (T : String) (its : List Value) (o : Obj) (n : Nat), T = "list" ∨ T = "tuple" → s.heap.get? a = some o → o.cls = .type T → o.data = .seq its.toArray n → Vals (ns.map V.int) its → (ns.map V.int).length ≤ sizeLine →
      wpAny (model X.prog X.w) X.A (call (.builtin "sorted") [.ref a]) (EP X pins σ Q) X.xe s := fun T its o n hT ho hc hd rv hz => by
    refine sorted_seqI hT ho hc hd rv.ints (by rw [← rv.length]; exact hz) fun h1 h' out ns' e q1 q2 q3 k1 k2 ho => ?_
    rw [List.length_map] at hz
    have I1 : L2.Inv X pins σ H { s with heap := h1 } := I.kept (t' := s.toks) k1
    have e' := sortI_eq q2 q3
    subst e'
    exact ⟨.ref h1.objs.size, upd H h1.objs.size (.lst ((sortI ns).map V.int)), I1.laid (t' := s.toks) k2 (Nat.le_refl _) ⟨by rw [List.length_map, q2.length_eq]; exact hz, out, e, vals_of_ints q1, ho⟩, rfl, q _ (I1.hok.fresh (Nat.le_refl _))⟩
  rcases hs with hs | hs
  · obtain ⟨its, rv, pl, hz⟩ := I.list hs
    obtain ⟨o, ho, hc, n, hd⟩ := pl.isList
    exact all _ its o n (.inl rfl) ho hc hd rv hz
  · obtain ⟨its, rv, pl, hz⟩ := I.tuple hs
    obtain ⟨o, ho, hc, n, hd⟩ := pl
    exact all _ its o n (.inr rfl) ho hc hd rv hz
theorem cd_sort (hK : X.K = c.K) : CallD c W (op1 opSort) (rSortA X.K) :=
  cd_one (r := fun v H Q => rSortA X.K [v] H Q) (by
    intro Γ S σ H x v Q F hv P
    unfold opSort at P
    cases hl : getL x S with
    | none => rw [hl] at P; exact P.elim
    | some l =>
      rw [hl] at P
      simp only at P
      cases hb : intsOf l with
      | none => rw [hb] at P; exact P.elim
      | some ns =>
        rw [hb] at P
        obtain ⟨a, vs, rfl, h1, h2⟩ := getL_ok F hv hl
        rw [intsOf_some hb] at h2
        rw [h2.ints] at h1
        refine ⟨a, ns, rfl, hK ▸ h1, fun p hp => ?_⟩
        have h3 : RepL c Γ.G ((sortI ns).map D.int) ((sortI ns).map V.int) := RepL.of_ints _
        obtain ⟨Γ3, e3, F3, r3⟩ := newL_ok F h3 hp
        exact Post.ok (c := c) (W := W) P e3 F3 _ r3) (fun v H Q h => h)
end
end Dd

set_option Elab.async false
set_option linter.all false
set_option maxRecDepth 100000
namespace Dd
open PySem PySem.Spec PyProof.Rows L2

/-! ### the rules in short -/
theorem FnG.mono {P : Program} {w : World} {K : PySem.W.Frag} {mg : Str → Option Value} {base : Heap} {j k : Nat} {f : Addr} {fd : FuncData} {ps : List Str} {sp : Sp} (F : FnG P w K mg base j f fd ps sp) (h : j ≤ k) : FnG P w K mg base k f fd ps sp :=
  ⟨F.len, fun A outer s H args us vs Q E hG hr => F.run A outer s H args us vs Q E hG (hr.mono h)⟩
def opSub : R → R → M R := opI0 fun i j => .int (i - j)
def opDiv : R → R → M R := opI CDivW fun i j => .int (i / j)
def opMod : R → R → M R := opI (fun _ j => 0 < j) fun i j => .int (i % j)
/-- a power of at most 2 ^ 27 bits -/
def CPowW (i j : Int) : Prop := 0 ≤ j ∧ (Builtin.Int.intBits i : Int) * j ≤ 2 ^ 27
instance (i j : Int) : Decidable (CPowW i j) := inferInstanceAs (Decidable (_ ∧ _))
theorem op_powW {X : Cx} : OpR X (binaryOp .Pow) (rI CPowW fun i j => .int (i ^ j.toNat)) := L2.opI fun _ _ _ _ _ _ _ hc q => pow_int hc.1 hc.2 q
def opPow : R → R → M R := opI CPowW fun i j => .int (i ^ j.toNat)
def opShl : R → R → M R := opI CShl fun i j => .int (i * 2 ^ j.toNat)
def opShr : R → R → M R := opI (fun _ j => 0 ≤ j) fun i j => .int (i / 2 ^ j.toNat)
def opBand : R → R → M R := opI0 fun i j => .int (Builtin.bitAnd i j)
def opLt : R → R → M R := opI0 fun i j => .bl (decide (i < j))
def opLe : R → R → M R := opI0 fun i j => .bl (decide (i ≤ j))
def opGt : R → R → M R := opI0 fun i j => .bl (decide (j < i))
def opGe : R → R → M R := opI0 fun i j => .bl (decide (j ≤ i))
def un1 (g : Int → D) (f : M R) : M R := do
  let x ← f
  fun S => match x with
    | .p (.int i) => .ok (.p (g i)) S
    | _ => .bad
def uNeg : M R → M R := un1 fun i => .int (-i)
section
variable {X : Cx} {c : Cg} {W : WX} {a b e o : Expr} {es : List Expr} {f fa fb fc : M R} {g : M (List R)} {p pos apos : Pos}
theorem repI {G : Hp} {i : Int} : Rep c G (.int i) (.int i) := Rep.int_iff.mpr rfl
theorem repB {G : Hp} {i : Bool} : Rep c G (.bl i) (.bl i) := Rep.bl_iff.mpr rfl
theorem hu64 {k : Nat} {A : Around} (hr : Room k A) : A.units + 64 < cLine := by have := hr.un; omega
theorem hu66 {k : Nat} {A : Around} (hr : Room k A) : A.units + 66 < cLine := by have := hr.un; omega
theorem e_neg (h : PE X a (rdE c W f)) : PE X (.UnaryOp .USub a pos) (rdE c W (uNeg f)) := se_of (pe_un un_neg h) fun σ H Q q => by
  obtain ⟨Γ, S, F, P⟩ := q
  refine ⟨Γ, S, F, (Post.bind P).imp fun x S1 Γ1 H1 e1 F1 ⟨_, P1⟩ v hv => ?_⟩
  cases x with
  | r n => exact P1.elim
  | p d =>
    cases d with
    | int i =>
      have := RepR.int hv
      subst this
      exact ⟨i, rfl, Post.ok (c := c) (W := W) P1 Gh.le.refl F1 _ RepR.mkI⟩
    | _ => exact P1.elim
theorem v_ (i : Nat) {x : Str} (hN : X.N[i]? = some x := by rfl) (hv : Vis X.env.scope x := by first | exact Or.inl rfl | exact Or.inr (Or.inl rfl) | exact Or.inr (Or.inr rfl)) (hd : (x == ("__debug__" : Str)) = false := by decide)
    (hcd : (x == ("__classdict__" : Str)) = false := by decide) : PE X (.Name x pos) (rdE c W (vr i)) := se_var (pv i hN hv hd hcd)
theorem e_add (ha : PE X a (rdE c W fa)) (hb : PE X b (rdE c W fb)) : PE X (.BinOp a .Add b pos) (rdE c W (bin opAdd fa fb)) := se_bin op_addA od_add ha hb
theorem e_sub (ha : PE X a (rdE c W fa)) (hb : PE X b (rdE c W fb)) : PE X (.BinOp a .Sub b pos) (rdE c W (bin opSub fa fb)) := se_bin op_sub (od_I0 fun _ _ _ => repI) ha hb
theorem e_mul (ha : PE X a (rdE c W fa)) (hb : PE X b (rdE c W fb)) : PE X (.BinOp a .Mult b pos) (rdE c W (bin opMul fa fb)) := se_bin op_mulA od_mul ha hb
theorem e_div (ha : PE X a (rdE c W fa)) (hb : PE X b (rdE c W fb)) : PE X (.BinOp a .FloorDiv b pos) (rdE c W (bin opDiv fa fb)) := se_bin op_fdivW (od_I fun _ _ _ => repI) ha hb
theorem e_mod (ha : PE X a (rdE c W fa)) (hb : PE X b (rdE c W fb)) : PE X (.BinOp a .Mod b pos) (rdE c W (bin opMod fa fb)) := se_bin op_mod (od_I fun _ _ _ => repI) ha hb
theorem e_pow (ha : PE X a (rdE c W fa)) (hb : PE X b (rdE c W fb)) : PE X (.BinOp a .Pow b pos) (rdE c W (bin opPow fa fb)) := se_bin op_powW (od_I fun _ _ _ => repI) ha hb
theorem e_shl (ha : PE X a (rdE c W fa)) (hb : PE X b (rdE c W fb)) : PE X (.BinOp a .LShift b pos) (rdE c W (bin opShl fa fb)) := se_bin op_shlW (od_I fun _ _ _ => repI) ha hb
theorem e_shr (ha : PE X a (rdE c W fa)) (hb : PE X b (rdE c W fb)) : PE X (.BinOp a .RShift b pos) (rdE c W (bin opShr fa fb)) := se_bin op_shr (od_I fun _ _ _ => repI) ha hb
theorem e_band (ha : PE X a (rdE c W fa)) (hb : PE X b (rdE c W fb)) : PE X (.BinOp a .BitAnd b pos) (rdE c W (bin opBand fa fb)) := se_bin op_and (od_I0 fun _ _ _ => repI) ha hb
theorem e_lt (ha : PE X a (rdE c W fa)) (hb : PE X b (rdE c W fb)) (hm : behindInMarks .Lt b = false := by rfl) : PE X (.Compare a [.Lt] [b] pos) (rdE c W (bin opLt fa fb)) := se_cmp op_lt (od_I0 fun _ _ _ => repB) ha hb hm
theorem t_lt (ha : PE X a (rdE c W fa)) (hb : PE X b (rdE c W fb)) (hm : behindInMarks .Lt b = false := by rfl) : PT X (.Compare a [.Lt] [b] pos) (rdT c W (tst (bin opLt fa fb))) := st_cmp op_lt (od_I0 fun _ _ _ => repB) ha hb hm
theorem t_gt (ha : PE X a (rdE c W fa)) (hb : PE X b (rdE c W fb)) (hm : behindInMarks .Gt b = false := by rfl) : PT X (.Compare a [.Gt] [b] pos) (rdT c W (tst (bin opGt fa fb))) := st_cmp op_gt (od_I0 fun _ _ _ => repB) ha hb hm
theorem e_eq {k : Nat} (hr : Room k X.A) (hK : X.K = c.K) (ha : PE X a (rdE c W fa)) (hb : PE X b (rdE c W fb)) (hm : behindInMarks .Eq b = false := by rfl) : PE X (.Compare a [.Eq] [b] pos) (rdE c W (bin opEqD fa fb)) := se_cmp (op_eqD (hu64 hr)) (od_eqD hK) ha hb hm
theorem t_eq {k : Nat} (hr : Room k X.A) (hK : X.K = c.K) (ha : PE X a (rdE c W fa)) (hb : PE X b (rdE c W fb)) (hm : behindInMarks .Eq b = false := by rfl) : PT X (.Compare a [.Eq] [b] pos) (rdT c W (tst (bin opEqD fa fb))) := st_cmp (op_eqD (hu64 hr)) (od_eqD hK) ha hb hm
theorem t_ne {k : Nat} (hr : Room k X.A) (hK : X.K = c.K) (ha : PE X a (rdE c W fa)) (hb : PE X b (rdE c W fb)) (hm : behindInMarks .NotEq b = false := by rfl) : PT X (.Compare a [.NotEq] [b] pos) (rdT c W (tst (bin opNeD fa fb))) := st_cmp (op_neD (hu64 hr)) (od_neD hK) ha hb hm
theorem type_app : typeOf (.builtin "list.append") = pure (.type "method_descriptor") := by show builtinType _ = _; rw [builtinType_eq_fast]; kernel_rfl
theorem type_pop : typeOf (.builtin "list.pop") = pure (.type "method_descriptor") := by show builtinType _ = _; rw [builtinType_eq_fast]; kernel_rfl
end
end Dd

set_option Elab.async false
set_option linter.all false
set_option maxRecDepth 100000
namespace Dd
open PySem PySem.Spec PyProof.Rows L2
section
variable {X : Cx} {c : Cg} {W : WX} {a b e o : Expr} {es : List Expr} {f fa fb fc : M R} {g : M (List R)} {p pos apos : Pos} {k : Nat}
theorem e_len (hK : X.K = c.K) (hm : X.mg "len" = none) (ha : PE X a (rdE c W f)) (hg : Gl X "len" := by rfl) (he : starEach [a] X.env = (false, eval a X.env) :: starEach [] X.env := by rfl) (hpl : (backTo pos (starEach [] X.env)).any (·.1) = false := by rfl) :
    PE X (.Call (.Name "len" p) [a] [] pos) (rdE c W (opA (op1 opLen) (aC f aN))) := se_callB call_lenA (cd_len hK) hg hm (by decide +kernel) (sa_cons ha sa_nil he) (by decide) (by decide) he hpl
theorem e_int (hm : X.mg "int" = none) (ha : PE X a (rdE c W f)) (hg : Gl X "int" := by rfl) (he : starEach [a] X.env = (false, eval a X.env) :: starEach [] X.env := by rfl) (hpl : (backTo pos (starEach [] X.env)).any (·.1) = false := by rfl) :
    PE X (.Call (.Name "int" p) [a] [] pos) (rdE c W (opA (op1 opInt) (aC f aN))) := se_callTy call_int1 cd_int hg hm (by decide +kernel) (sa_cons ha sa_nil he) (by decide) (by decide) he hpl
theorem e_all (hK : X.K = c.K) (hc : X.calm = true) (hm : X.mg "all" = none) (ha : PE X a (rdE c W f)) (hg : Gl X "all" := by rfl) (he : starEach [a] X.env = (false, eval a X.env) :: starEach [] X.env := by rfl) (hpl : (backTo pos (starEach [] X.env)).any (·.1) = false := by rfl) :
    PE X (.Call (.Name "all" p) [a] [] pos) (rdE c W (opA (op1 opAll) (aC f aN))) := se_callB (cr_all hc) (cd_all hK) hg hm (by decide +kernel) (sa_cons ha sa_nil he) (by decide) (by decide) he hpl
theorem e_sum (hK : X.K = c.K) (hc : X.calm = true) (hm : X.mg "sum" = none) (ha : PE X a (rdE c W f)) (hg : Gl X "sum" := by rfl) (he : starEach [a] X.env = (false, eval a X.env) :: starEach [] X.env := by rfl) (hpl : (backTo pos (starEach [] X.env)).any (·.1) = false := by rfl) :
    PE X (.Call (.Name "sum" p) [a] [] pos) (rdE c W (opA (op1 opSum) (aC f aN))) := se_callB (cr_sum hc) (cd_sum hK) hg hm (by decide +kernel) (sa_cons ha sa_nil he) (by decide) (by decide) he hpl
theorem e_list (hK : X.K = c.K) (hc : X.calm = true) (hm : X.mg "list" = none) (ha : PE X a (rdE c W f)) (hg : Gl X "list" := by rfl) (he : starEach [a] X.env = (false, eval a X.env) :: starEach [] X.env := by rfl) (hpl : (backTo pos (starEach [] X.env)).any (·.1) = false := by rfl) :
    PE X (.Call (.Name "list" p) [a] [] pos) (rdE c W (opA (op1 opList) (aC f aN))) := se_callTy call_list_of (cd_list hK) hg hm (by decide +kernel) (sa_cons ha sa_nil he) (by decide) (by decide) he hpl
theorem e_tuple (hK : X.K = c.K) (hm : X.mg "tuple" = none) (ha : PE X a (rdE c W f)) (hg : Gl X "tuple" := by rfl) (he : starEach [a] X.env = (false, eval a X.env) :: starEach [] X.env := by rfl) (hpl : (backTo pos (starEach [] X.env)).any (·.1) = false := by rfl) :
    PE X (.Call (.Name "tuple" p) [a] [] pos) (rdE c W (opA (op1 opTuple) (aC f aN))) := se_callTy call_tupF (cd_tuple hK) hg hm (by decide +kernel) (sa_cons ha sa_nil he) (by decide) (by decide) he hpl
theorem e_sorted (hK : X.K = c.K) (hm : X.mg "sorted" = none) (ha : PE X a (rdE c W f)) (hg : Gl X "sorted" := by rfl) (he : starEach [a] X.env = (false, eval a X.env) :: starEach [] X.env := by rfl) (hpl : (backTo pos (starEach [] X.env)).any (·.1) = false := by rfl) :
    PE X (.Call (.Name "sorted" p) [a] [] pos) (rdE c W (opA (op1 opSort) (aC f aN))) := se_callB call_sortA (cd_sort hK) hg hm (by decide +kernel) (sa_cons ha sa_nil he) (by decide) (by decide) he hpl
theorem e_repr (hK : X.K = c.K) (hG : X.A.guards = some []) (hr : Room k X.A) (hm : X.mg "repr" = none) (ha : PE X a (rdE c W f)) (hg : Gl X "repr" := by rfl) (he : starEach [a] X.env = (false, eval a X.env) :: starEach [] X.env := by rfl) (hpl : (backTo pos (starEach [] X.env)).any (·.1) = false := by rfl) :
    PE X (.Call (.Name "repr" p) [a] [] pos) (rdE c W (opA (op1 opRepr) (aC f aN))) := se_callB (call_reprD hG (hu66 hr)) (cd_repr hK) hg hm (by decide +kernel) (sa_cons ha sa_nil he) (by decide) (by decide) he hpl
theorem e_max2 (hc : X.calm = true) (hm : X.mg "max" = none) (ha : PE X a (rdE c W fa)) (hb : PE X b (rdE c W fb)) (hg : Gl X "max" := by rfl) (he : starEach [a, b] X.env = (false, eval a X.env) :: starEach [b] X.env := by rfl) (he2 : starEach [b] X.env = (false, eval b X.env) :: starEach [] X.env := by rfl) (hpl : (backTo pos (starEach [b] X.env)).any (·.1) = false := by rfl) :
    PE X (.Call (.Name "max" p) [a, b] [] pos) (rdE c W (opA opMax2 (aC fa (aC fb aN)))) := se_callB (call_max2 hc) cd_max2 hg hm (by decide +kernel) (sa_cons ha (sa_cons hb sa_nil he2) he) (by decide) (by decide) he hpl
theorem e_app {cpos : Pos} (hK : X.K = c.K) (ho : PE X o (rdE c W f)) (ha : PE X a (rdE c W fa)) (hbase : attributeBase o "append" X.env (eval o X.env) = eval o X.env := by rfl)
    (hfew : ((backTo cpos (starEach [a] X.env)).all (fun x => !x.1) && (backToKw cpos (keywordEach [] X.env)).all (fun x => x.1.isSome) && decide (([a] : List Expr).length + ([] : List Keyword).length + (if ([] : List Keyword).isEmpty then 0 else 1) < 30)) = true := by rfl)
    (hline : (apos.endLine == cpos.line) = true := by rfl) (hs : starEach [a] X.env = (false, eval a X.env) :: starEach [] X.env := by rfl) (hplain : (backTo cpos (starEach [] X.env)).any (·.1) = false := by rfl) :
    PE X (.Call (.Attribute o "append" apos) [a] [] cpos) (rdE c W (methM isLst opApp f (aC fa aN))) := se_bm F.plainAttrs_list F.slot_list_append type_app tyOk_V mt_append (ty_lst hK) md_app ho (sa_cons ha sa_nil hs) hbase hfew hline hs hplain
theorem e_popAt {cpos : Pos} (hK : X.K = c.K) (ho : PE X o (rdE c W f)) (ha : PE X a (rdE c W fa)) (hbase : attributeBase o "pop" X.env (eval o X.env) = eval o X.env := by rfl)
    (hfew : ((backTo cpos (starEach [a] X.env)).all (fun x => !x.1) && (backToKw cpos (keywordEach [] X.env)).all (fun x => x.1.isSome) && decide (([a] : List Expr).length + ([] : List Keyword).length + (if ([] : List Keyword).isEmpty then 0 else 1) < 30)) = true := by rfl)
    (hline : (apos.endLine == cpos.line) = true := by rfl) (hs : starEach [a] X.env = (false, eval a X.env) :: starEach [] X.env := by rfl) (hplain : (backTo cpos (starEach [] X.env)).any (·.1) = false := by rfl) :
    PE X (.Call (.Attribute o "pop" apos) [a] [] cpos) (rdE c W (methM isLst opPopAt f (aC fa aN))) := se_bm F.plainAttrs_list F.slot_list_pop type_pop tyOk_V mt_popAt (ty_lst hK) md_popAt ho (sa_cons ha sa_nil hs) hbase hfew hline hs hplain
/-- isinstance -/
theorem e_isB {n : String} (nm : Str) (hn : n ∈ ["bool", "int", "str", "tuple", "list", "dict"]) (cf : ClsF c.K (c.cls 0)) (hm : X.mg "isinstance" = none) (hm2 : X.mg nm = none) (hv : bootBuiltins nm = some (.type n)) (hK : X.K = c.K) (ha : PE X a (rdE c W f)) {q : Pos} (hg : Gl X "isinstance" := by rfl) (hg2 : Gl X nm := by rfl)
    (hs : starEach [a, .Name nm q] X.env = (false, eval a X.env) :: starEach [.Name nm q] X.env := by rfl) (hn1 : nm ≠ "__name__" := by decide) (hd : (nm == ("__debug__" : Str)) = false := by decide) :
    PE X (.Call (.Name "isinstance" p) [a, .Name nm q] [] pos) (rdE c W (isB n f)) := se_isB hK hn cf ha (pe_bltn hg2 hm2 hv rfl hn1 hd) hg hm hs (by rfl) (by rfl)
theorem e_isC {k : Nat} (nm : Str) (cf : ClsF c.K (c.cls k)) (hm : X.mg "isinstance" = none) (hm2 : X.mg nm = some (.ref (c.cls k))) (hK : X.K = c.K) (ha : PE X a (rdE c W f)) {q : Pos} (hg : Gl X "isinstance" := by rfl) (hg2 : Gl X nm := by rfl)
    (hs : starEach [a, .Name nm q] X.env = (false, eval a X.env) :: starEach [.Name nm q] X.env := by rfl) (hd : (nm == ("__debug__" : Str)) = false := by decide) :
    PE X (.Call (.Name "isinstance" p) [a, .Name nm q] [] pos) (rdE c W (isC k f)) := se_isC hK cf ha (pe_glob hg2 hm2 rfl hd) hg hm hs (by rfl) (by rfl)
theorem e_gI {x : Str} {i : Int} {t : Tok} (hm : X.mg x = some (.int i t)) (hg : Gl X x := by rfl) (hd : (x == ("__debug__" : Str)) = false := by decide) : PE X (.Name x pos) (rdE c W (cd (.int i))) := se_glob (fun _ => repI) (pe_glob hg hm ⟨_, rfl⟩ hd)
end
end Dd
namespace Dd
open PySem PySem.Spec PyProof.Rows L2
section
variable {X : Cx} {c : Cg} {W : WX} {elt tg iter : Expr} {ifs : List Expr} {scope : Scope} {pos spos py : Pos} {own : List (Str × Nat)} {vs : List Nat} {it : M (Itm D)} {itw : M (Itm (List D))} {tt : M Bool} {f : M R} {ks : List Nat} {i j n : Nat} {y : Str}
theorem lc1_ (hv : own.map (·.2) = vs) (hc : X.calm = true) (hN : X.N.Nodup) (hi : PI X tg iter (rdI c W it)) (ok : BlkOk X.N X.env.scope scope own) (hm : i ∈ vs)
    (hg : InBlk X scope fun Y => PG Y tg (gName i)) (ht : InBlk X scope fun Y => PTs Y ifs (rdT c W0 tt)) (he : InBlk X scope fun Y => PE Y elt (rdE c W0 f)) (hs : ∀ x, foldedSetIterable iter X.env x = pure x := by intro _; rfl) :
    PE X (.ListComp elt [⟨tg, iter, ifs, 0⟩] scope pos) (rdE c W (lcE vs [i] unp1 it tt f)) := by subst hv; exact se_lc1 hc hN hi ok hm hg ht he hs
theorem lcW_ (hv : own.map (·.2) = vs) (hc : X.calm = true) (hN : X.N.Nodup) (hi : PI X tg iter (rdIT c W itw)) (ok : BlkOk X.N X.env.scope scope own) (hn : n = ks.length) (hm : ∀ k ∈ ks, k ∈ vs)
    (hg : InBlk X scope fun Y => PG Y tg (gTup X.K n (gNs ks))) (ht : InBlk X scope fun Y => PTs Y ifs (rdT c W0 tt)) (he : InBlk X scope fun Y => PE Y elt (rdE c W0 f)) (hs : ∀ x, foldedSetIterable iter X.env x = pure x := by intro _; rfl) :
    PE X (.ListComp elt [⟨tg, iter, ifs, 0⟩] scope pos) (rdE c W (lcE vs ks unpW itw tt f)) := by subst hv; exact se_lcW hc hN hi ok hn hm hg ht he hs
theorem slc1_ (hv : own.map (·.2) = vs) (hc : X.calm = true) (hN : X.N.Nodup) (hy : X.N[j]? = some y) (hyl : X.env.scope.names.lookup y = some .local) (hsw : swapsWith (.ListComp elt [⟨tg, iter, ifs, 0⟩] scope pos) (some (.Name y py)) spos.line X.env = pure true)
    (hi : PI X tg iter (rdI c W it)) (ok : BlkOk X.N X.env.scope scope own) (hm : i ∈ vs)
    (hg : InBlk X scope fun Y => PG Y tg (gName i)) (ht : InBlk X scope fun Y => PTs Y ifs (rdT c W0 tt)) (he : InBlk X scope fun Y => PE Y elt (rdE c W0 f)) (hs : ∀ x, foldedSetIterable iter X.env x = pure x := by intro _; rfl) :
    PS X (.Assign [.Name y py] (.ListComp elt [⟨tg, iter, ifs, 0⟩] scope pos) spos) (rdS c W (sSet j (lcE vs [i] unp1 it tt f))) := by subst hv; exact ss_lc1 hc hN hy hyl hsw hi ok hm hg ht he hs
theorem slcT_ (hv : own.map (·.2) = vs) (hc : X.calm = true) (hN : X.N.Nodup) (hK : X.K = c.K) (hy : X.N[j]? = some y) (hyl : X.env.scope.names.lookup y = some .local) (hsw : swapsWith (.ListComp elt [⟨tg, iter, ifs, 0⟩] scope pos) (some (.Name y py)) spos.line X.env = pure true)
    (hi : PI X tg iter (rdI c W it)) (ok : BlkOk X.N X.env.scope scope own) (hn : n = ks.length) (hm : ∀ k ∈ ks, k ∈ vs)
    (hg : InBlk X scope fun Y => PG Y tg (gTup X.K n (gNs ks))) (ht : InBlk X scope fun Y => PTs Y ifs (rdT c W0 tt)) (he : InBlk X scope fun Y => PE Y elt (rdE c W0 f)) (hs : ∀ x, foldedSetIterable iter X.env x = pure x := by intro _; rfl) :
    PS X (.Assign [.Name y py] (.ListComp elt [⟨tg, iter, ifs, 0⟩] scope pos) spos) (rdS c W (sSet j (lcE vs ks unpT it tt f))) := by subst hv; exact ss_lcT hc hN hK hy hyl hsw hi ok hn hm hg ht he hs
end
end Dd
namespace Dd
open PySem PySem.Spec PyProof.Rows L2
theorem takesW0 {X : Cx} : Takes X W0 := fun u s' ⟨_, _, _, _, _, _, _, _, _, _, _, _, _, _, _, _, w⟩ => w.elim
theorem FnG.bad {P : Program} {w : World} {K : PySem.W.Frag} {mg : Str → Option Value} {base : Heap} {k n : Nat} {f : Addr} {fd : FuncData} {ps : List Str} {c : Cg} (h : n = ps.length) : FnG P w K mg base k f fd ps (spF c n fun _ _ => .bad) :=
  ⟨fun vs H Q E ⟨_, _, _, e, _⟩ => e.trans h, fun A outer s H args us vs Q E hG hr e0 b r ⟨_, _, _, _, _, _, q⟩ => q.elim⟩
theorem gsN_len : ∀ (ds : List D) (S : Sg), ds.length ≠ 0 → gsN ds S = .bad := fun ds S h => by
  cases ds with
  | nil => exact (h rfl).elim
  | cons d r => rfl
theorem gsC_len {t : Tg} {u : List D → M Unit} {n : Nat} (h1 : ∀ d S x S', t d S ≠ .exc x S') (h2 : ∀ (ds : List D) (S : Sg), ds.length ≠ n → u ds S = .bad) : ∀ (ds : List D) (S : Sg), ds.length ≠ n + 1 → gsC t u ds S = .bad := fun ds S h => by
  cases ds with
  | nil => rfl
  | cons d r =>
    show (t d >>= fun _ => u r) S = .bad
    rw [bind_ap]
    have hr : r.length ≠ n := fun e => h (by rw [List.length_cons, e])
    cases e : t d S with
    | ok a S1 => exact h2 r S1 hr
    | exc x S1 => exact (h1 _ _ _ _ e).elim
    | bad => rfl
end Dd

set_option Elab.async false
set_option linter.all false
set_option maxRecDepth 100000
namespace Dd
open PySem PySem.Spec PyProof.Rows L2
/-- x, y = l, l a list -/
def gL (n : Nat) (u : List D → M Unit) : Tg := fun d S => match d with
  | .lst l => if l.length = n then u l S else .bad
  | _ => .bad
section
variable {X : Cx} {c : Cg} {W : WX} {es : List Expr} {pos : Pos} {u : List D → M Unit}
end
end Dd

set_option Elab.async false
set_option linter.all false
set_option maxRecDepth 100000
namespace Dd
open PySem PySem.Spec PyProof.Rows L2
/-! ### the end: the law's call -/
section
variable {P : Program} {w : World} {K : PySem.W.Frag} {mg mb : Str → Option Value} {k : Nat} {fa a : Addr} {fd : FuncData} {x : Str} {sp : Sp} {s₁ : Shared} {vs : List Value} {ns : List Int}
/-- what is tracked at the start: the script, and nothing where K has it -/
def Hp0 (K : PySem.W.Frag) (a : Addr) (o : Obj) (u : HO) : Hp := fun b => if b = a ∧ K.lookup a = none then some (.frz o u) else none
theorem hp0_some {o : Obj} {u : HO} {b : Addr} {z : HO} (h : Hp0 K a o u b = some z) : b = a ∧ K.lookup a = none ∧ z = .frz o u := by
  unfold Hp0 at h
  split at h
  · rename_i q
    cases h
    exact ⟨q.1, q.2, rfl⟩
  · cases h
theorem call_lawG (KX : K.In s₁.heap) (hns : s₁.heap.Ns mainGlobals mg) (hb : s₁.heap.Ns builtinsNs mb) (hbb : ∀ x : Str, x ≠ "__name__" → mb x = bootBuiltins x) (hlim : s₁.heap.NoLimit) (hg : s₁.gens = #[])
    (ha : s₁.heap.get? a = some { cls := .type "list", data := .seq vs.toArray }) (hi : IntsAre vs ns) (hl : ns.length ≤ sizeLine) (hr : Room k callerA)
    (F : ∀ base : Heap, K.In base → base.Ns mainGlobals mg → FnG P w K mg base k fa fd [x] sp) (hbind : ∀ (s : Shared) (u : Value), BindsTo s fd ⟨[u], []⟩ [(x, u)])
    (hsp : ∀ H : Hp, SqL K H a (ns.map V.int) → sp [.ref a] H (fun v _ => v = .bl true) fun _ _ _ => False) :
    codeAny (model P w) callerA (.call (.ref fa) ⟨[.ref a], []⟩) (fun r s' => r = .ok (.ret (.bool true)) ∧ OldK s₁.heap s'.heap ∧ s'.os = s₁.os ∧ AllBare s'.gens) s₁ := by
  have rv : Vals (ns.map V.int) vs := vals_ints hi
  have hlen : (ns.map V.int).length ≤ sizeLine := by rw [List.length_map]; exact hl
  let o : Obj := { cls := .type "list", data := .seq vs.toArray }
  let H : Hp := Hp0 K a o (.lst (ns.map V.int))
  have only : ∀ {b : Addr} {z : HO}, H b = some z → b = a ∧ K.lookup a = none ∧ z = .frz o (.lst (ns.map V.int)) := fun h => hp0_some h
  have hS : SqL K H a (ns.map V.int) := by
    cases hk : K.lookup a with
    | none => exact .inl (.inr ⟨o, if_pos ⟨rfl, hk⟩⟩)
    | some o' =>
      have e := KX a o' hk
      rw [ha] at e
      cases e
      exact .inr ⟨_, vs.toArray, _, hk, rfl, rfl, rfl, by rw [List.size_toArray, ← rv.length]; exact hlen, by simpa using rv⟩
  have hok : HOk P w H s₁.heap := fun b z h => by
    obtain ⟨rfl, _, rfl⟩ := only h
    exact ⟨ha, hlen, vs, _, rv, ha⟩
  have free : ∀ {b : Addr} {q : Obj}, s₁.heap.get? b = some q → H b = none → (hidT s₁.heap H).get? b = some q := fun e n => hidT_get e n
  have nsOf : ∀ {b : Addr} {m : Str → Option Value}, s₁.heap.Ns b m → (hidT s₁.heap H).Ns b m := fun {b m} ⟨q, es, ep, e, d, r⟩ => by
    refine ⟨q, es, ep, free e ?_, d, r⟩
    cases h : H b with
    | none => rfl
    | some z =>
      obtain ⟨rfl, _, _⟩ := only h
      rw [ha] at e
      cases e
      have d' : Data.seq vs.toArray _ = Data.dict es ep := d
      cases d'
  have hKb : K.In (hidT s₁.heap H) := fun b q e => free (KX b q e) (by
    cases h : H b with
    | none => rfl
    | some z =>
      obtain ⟨rfl, hk, _⟩ := only h
      rw [hk] at e
      cases e)
  have hM : Mod K mg (hidT s₁.heap H) := ⟨hKb, nsOf hns, ⟨mb, nsOf hb, hbb⟩, let ⟨mc, h1, h2⟩ := hlim; ⟨mc, nsOf h1, h2⟩⟩
  have e0 : Env0 P w K mg (hidT s₁.heap H) callerA [] s₁ H :=
    ⟨rfl, hM, fun b q e => of_hidT e, Nat.le_of_eq (hidT_size _ _), trivial, fun b hb => absurd (show b ∈ ([] : List Addr) from hb) (by simp), hok, .of_eq hg⟩
  have run := (F _ hKb (nsOf hns)).run callerA [] s₁ H ⟨[.ref a], []⟩ [.ref a] [.ref a] _ _ rfl hr e0 (hbind s₁ (.ref a)) (.cons rfl .nil) (hsp H hS)
  refine codeAny_mono run fun r s' h => ?_
  cases r with
  | error e => obtain ⟨_, _, _, _, _, _, _, _, _, _, _, _, h⟩ := h; exact h.elim
  | ok fl =>
    cases fl with
    | next => exact False.elim h
    | brk => exact False.elim h
    | cont => exact False.elim h
    | ret u =>
      obtain ⟨v, H', os, bare, un, hok', r', q⟩ := h
      have q' : v = .bl true := q
      subst q'
      obtain rfl : u = Value.bool true := r'
      refine ⟨rfl, OldK.of_keep fun b q e => ?_, os, bare⟩
      cases h : H b with
      | none => exact un.keep b q e h (fun z => absurd (show b ∈ ([] : List Addr) from z) (by simp)) (by simp)
      | some z =>
        obtain ⟨rfl, _, rfl⟩ := only h
        obtain ⟨e2, _⟩ := hok' b _ (un.frzs b o _ h)
        rw [ha] at e
        cases e
        exact e2
theorem RepL.scriptE {c : Cg} {ns : List Int} {H : Hp} {a : Addr} (h : SqL c.K H a (ns.map V.int)) : Rep c H (.scp (ns.map D.int)) (.ref a) := Rep.scp_iff.mpr ⟨a, _, rfl, h, RepL.of_ints ns⟩
end
theorem walk_ofG {l : PySem.W.OpenLaw} {n k : Nat} {q : Program} {loose : List Str} {XP : (Str → Option Value) → Heap → Prop} {YP : World → Heap → Prop} {d : DefRec} {K : Params → PySem.W.Frag} {x : Str} {F : Fn}
    (hn : l.most = some n) (hn2 : n ≤ sizeLine) (hdf : d.params.defaults = []) (hr : Room k callerA) (hY : ∀ (w : World) (h : Heap), YP w h → (K w.params).In h)
    (hF : ∀ (w : World) (mg : Str → Option Value) (fa : Addr) (h : Heap), (K w.params).In h → h.Ns mainGlobals mg → mg d.name = some (.ref fa) →
      ∃ (cls : Nat → Addr) (fd : FuncData), (∀ (s : Shared) (u : Value), BindsTo s fd ⟨[u], []⟩ [(x, u)]) ∧
        ∀ base : Heap, (K w.params).In base → base.Ns mainGlobals mg → FnG l.prog w (K w.params) mg base k fa fd [x] (spF ⟨K w.params, cls⟩ 1 F))
    (hlaw : ∀ ns : List Int, ns.length ≤ n → ∃ st, F [.p (.scp (ns.map D.int))] [] = .ok (.val (.bl true)) st) :
    PySem.W.WalkO q loose XP YP l.row.toRowW d [] (fun f vs => PySem.call f vs) := by
  refine Att.attach_call hn hdf fun w s₀ s₁ mg mb fa o pm cd doc a vs ns G Y ho hd hcd hmg hobj hints hlen hg => ?_
  have KX := hY w _ Y
  obtain ⟨cls, fd, hb, hFF⟩ := hF w mg fa _ KX G.T.g hmg
  refine call_lawG KX G.T.g G.T.b G.T.builtins G.T.nolimit hg hobj hints (Nat.le_trans hlen hn2) hr hFF hb fun H hS => ?_
  obtain ⟨st, e⟩ := hlaw ns hlen
  refine ⟨[.p (.scp (ns.map D.int))], ⟨H, fun _ => none, []⟩, [], rfl, ⟨.ref a, [], rfl, RepL.scriptE (c := ⟨K w.params, cls⟩) hS, rfl⟩, ?_, ?_⟩
  · exact ⟨fun _ _ h => h, (fun _ _ h => by cases h), (fun _ _ h => by cases h), rfl, (fun n z b h => by simp at h), (fun n m b p u h => by simp at h)⟩
  · rw [e]
    intro Γ' H' v le S hv
    exact Rep.bl_iff.mp hv
theorem ClsF.of {K : PySem.W.Frag} {C : Addr} (cl : Cls K C) (ha : PySem.W.findIn K (.ref C) "__class__" = some (some (.builtin "object.__class__")))
    (hn : PySem.W.specialIn K (.builtin "object.__class__") "__get__" = some (some (.builtin "getset_descriptor.__get__"))) (tk : PySem.W.takesIn K (.builtin "object.__class__") = some true) (mro : PySem.W.mroIn K C (.type "object") = some true)
    (ty : PySem.W.typeIn K (.ref C) = some (.type "type")) (y : ∀ t ∈ ["bool", "int", "str", "tuple", "list", "dict"], PySem.W.subIn K (.ref C) (.type t) = some false)
    (z : ∀ t ∈ ["NoneType", "bool", "int", "str", "tuple", "list", "dict"], PySem.W.subIn K (.type t) (.ref C) = some false) : ClsF K C := by
  have hc : (PySem.W.clsIn K C).isSome = true := by
    obtain ⟨cd, hc, _⟩ := PySem.W.any_some cl.hd
    rw [hc]
    rfl
  refine ⟨cl, ha, hn, tk, mro, ?_, fun t ht => ?_, fun t ht => ?_, z⟩
  · unfold PySem.W.kitOne
    rw [if_pos (beq_self_eq_true _)]
  · unfold PySem.W.kitOne
    have e : (Value.type t == Value.ref C) = false := by rfl
    rw [e, if_neg (by decide)]
    show (if ((PySem.W.clsIn K C).isSome && PySem.W.typeIn K (.ref C) == some (.type "type")) = true then PySem.W.subIn K (.type t) (.ref C) else none) = _
    rw [hc, ty, if_pos (by rfl)]
    exact z t ht
  · unfold PySem.W.kitOne
    have e : (Value.ref C == Value.type t) = false := by rfl
    rw [e, if_neg (by decide)]
    show (if PySem.W.kitMeta t = true then PySem.W.subIn K (.ref C) (.type t) else none) = _
    have m : PySem.W.kitMeta t = true := by
      simp only [List.mem_cons, List.not_mem_nil, or_false] at ht
      rcases ht with rfl | rfl | rfl | rfl | rfl | rfl <;> decide +kernel
    rw [if_pos m]
    exact y t ht
end Dd

set_option Elab.async false
set_option linter.all false
set_option maxRecDepth 100000
namespace Dd
open PySem PySem.Spec PyProof.Rows L2
/-! ### name += int, while -/
/-- name op= an int -/
def sAug (g : Int → Int → Int) (i : Nat) (f : M R) : M Fl := fun S => match S.sl[i]? with
  | some (some (.p (.int x))) => (match f S with
    | .ok (.p (.int y)) S1 => .ok .nx { S1 with sl := S1.sl.set i (some (.p (.int (g x y)))) }
    | .ok _ _ => .bad
    | .exc z S1 => .exc z S1
    | .bad => .bad)
  | _ => .bad
/-- a while, at most n turns -/
def whileN (t : M Bool) (h : M Fl) : Nat → M Fl
  | 0 => bad
  | n + 1 => fun S => match t S with
    | .ok true S1 => (match h S1 with
      | .ok .nx S2 => whileN t h n S2
      | .ok .ct S2 => whileN t h n S2
      | .ok .bk S2 => .ok .nx S2
      | .ok (.rt x) S2 => .ok (.rt x) S2
      | .exc x S2 => .exc x S2
      | .bad => .bad)
    | .ok false S1 => .ok .nx S1
    | .exc x S1 => .exc x S1
    | .bad => .bad
theorem whileN_mono {t : M Bool} {h : M Fl} : ∀ {n : Nat} {S : Sg}, whileN t h n S ≠ .bad → ∀ m, n ≤ m → whileN t h m S = whileN t h n S
  | 0, S, hn, m, hm => (hn rfl).elim
  | n + 1, S, hn, m, hm => by
    obtain ⟨k, rfl⟩ : ∃ k, m = k + 1 := ⟨m - 1, by omega⟩
    unfold whileN at hn ⊢
    cases e : t S with
    | bad => rfl
    | exc x S1 => rfl
    | ok b S1 =>
      cases b with
      | false => rfl
      | true =>
        rw [e] at hn
        simp only at hn ⊢
        cases e2 : h S1 with
        | bad => rfl
        | exc x S2 => rfl
        | ok f S2 =>
          rw [e2] at hn
          cases f with
          | nx => exact whileN_mono hn k (by omega)
          | ct => exact whileN_mono hn k (by omega)
          | bk => rfl
          | rt x => rfl
open Classical in
noncomputable def sWhile (t : M Bool) (h : M Fl) : M Fl := fun S => if q : ∃ n, whileN t h n S ≠ .bad then whileN t h q.choose S else .bad
theorem sWhile_of {t : M Bool} {h : M Fl} {S : Sg} {n : Nat} {r : Res Fl} (e : whileN t h n S = r) (hr : r ≠ .bad) : sWhile t h S = r := by
  have q : ∃ n, whileN t h n S ≠ .bad := ⟨n, by rw [e]; exact hr⟩
  unfold sWhile
  rw [dif_pos q, ← e]
  have a := q.choose_spec
  rw [← whileN_mono a (max n q.choose) (Nat.le_max_right _ _), ← whileN_mono (n := n) (by rw [e]; exact hr) (max n q.choose) (Nat.le_max_left _ _)]
section
variable {X : Cx} {c : Cg} {W : WX} {tg e a b : Expr} {es : List Expr} {f fa fb : M R} {g : M (List R)} {h : M Fl} {t : M Bool} {pos pos' p : Pos} {body : List Stmt}
theorem ss_while (hp : PassesOwn (model X.prog X.w) X.A X.env X.xe) (hc : PT X e (rdT c W t)) (hb : PSs X body (rdS c W h)) : PS X (.While e body [] pos) (rdS c W (sWhile t h)) := ss_of (ps_while hp hc hb) fun E σ H q => by
  obtain ⟨Γ, S, F, P⟩ := q
  unfold sWhile at P
  split at P
  · rename_i q
    refine ⟨fun m σ H => ∃ Γ S, FrOk c Γ S σ H ∧ PostS c W Γ (whileN t h m S) E, ⟨_, Γ, S, F, P⟩, ?_⟩
    rintro m σ H ⟨Γ, S, F, P⟩
    cases m with
    | zero => exact P.elim
    | succ m =>
      unfold whileN at P
      refine ⟨Γ, S, F, ?_⟩
      cases q1 : t S with
      | bad => rw [q1] at P; exact P
      | exc z S1 => rw [q1] at P; exact fun Γ' H' cls dd e' f q => P Γ' σ H' cls dd e' f q
      | ok b S1 =>
        rw [q1] at P
        intro Γ1 H1 le F1
        cases b with
        | false =>
          show E.nx σ H1
          exact P Γ1 σ H1 le F1
        | true =>
          show ∃ N : L2.St → Hp → Prop, _
          refine ⟨fun σ H => ∃ Γ S, FrOk c Γ S σ H ∧ PostS c W Γ (whileN t h m S) E, fun σ' H' w => ⟨m, by omega, w⟩, Γ1, S1, F1, ?_⟩
          have P : PostS c W Γ (match h S1 with
            | .ok .nx S2 => whileN t h m S2
            | .ok .ct S2 => whileN t h m S2
            | .ok .bk S2 => .ok .nx S2
            | .ok (.rt x) S2 => .ok (.rt x) S2
            | .exc x S2 => .exc x S2
            | .bad => .bad) E := P
          cases q2 : h S1 with
          | bad => rw [q2] at P; exact P
          | exc z S2 => rw [q2] at P; exact fun Γ' σ' H' cls dd e' f q => P Γ' σ' H' cls dd (le.trans e') f q
          | ok fl S2 =>
            rw [q2] at P
            cases fl with
            | nx => exact fun Γ' σ' H' e' f => ⟨Γ', S2, f, P.le (le.trans e')⟩
            | ct => exact fun Γ' σ' H' e' f => ⟨Γ', S2, f, P.le (le.trans e')⟩
            | bk => exact fun Γ' σ' H' e' f => P Γ' σ' H' (le.trans e') f
            | rt x => exact fun Γ' σ' H' v e' f q => P Γ' σ' H' v (le.trans e') f q
  · exact P.elim
/-! ### ranges of any ints, by ones; downward -/
end
section
variable {X : Cx} {c : Cg} {W : WX} {tg e a b o : Expr} {es : List Expr} {f fa fb : M R} {g ga : M (List R)} {h : M Fl} {t : M Bool} {pos pos' p : Pos} {body : List Stmt}
def rngL (xs : List R) (S : Sg) : Res (Itm D) := match asI2 xs with
  | some q => .ok ⟨fun _ => True, intsFrom q.1 (q.2 - q.1).toNat⟩ S
  | none => .bad
def itR2L (g : M (List R)) : M (Itm D) := g >>= rngL
/-- range(i, j, -1) -/
def asI3 : List R → Option (Int × Int × Int)
  | [.p (.int i), .p (.int j), .p (.int k)] => some (i, j, k)
  | _ => none
def rng3 (xs : List R) (S : Sg) : Res (Itm D) := match asI3 xs with
  | some q => if q.2.2 = -1 ∧ -(2 ^ 62) ≤ q.1 ∧ q.1 < 2 ^ 62 ∧ -(2 ^ 62) ≤ q.2.1 ∧ q.2.1 < 2 ^ 62 then .ok ⟨fun _ => True, downFrom q.1 (-1) (q.1 - q.2.1).toNat⟩ S else .bad
  | none => .bad
def itR3 (g : M (List R)) : M (Itm D) := g >>= rng3
/-! ### in, not in -/
def flatD : D → Option V
  | .non => some .non
  | .bl b => some (.bl b)
  | .int i => some (.int i)
  | .str s => some (.str s)
  | _ => none
def flatL : List D → Option (List V)
  | [] => some []
  | d :: ds => match flatD d with
    | some v => (match flatL ds with
      | some vs => some (v :: vs)
      | none => none)
    | none => none
theorem flatD_rep {G : Hp} {d : D} {v w : V} (h : flatD d = some v) (r : Rep c G d w) : w = v ∧ flatV v = true := by
  cases d with
  | non => cases h; exact ⟨Rep.non_iff.mp r, rfl⟩
  | bl b => cases h; exact ⟨Rep.bl_iff.mp r, rfl⟩
  | int b => cases h; exact ⟨Rep.int_iff.mp r, rfl⟩
  | str b => cases h; exact ⟨Rep.str_iff.mp r, rfl⟩
  | _ => cases h
theorem flatL_rep {G : Hp} : ∀ {ds : List D} {vs ws : List V}, flatL ds = some vs → RepL c G ds ws → ws = vs ∧ vs.all flatV = true
  | [], vs, ws, h, r => by cases h; exact ⟨RepL.nil_iff.mp r, rfl⟩
  | d :: ds, vs, ws, h, r => by
    unfold flatL at h
    cases q : flatD d with
    | none => rw [q] at h; cases h
    | some v =>
      rw [q] at h
      simp only at h
      cases q2 : flatL ds with
      | none => rw [q2] at h; cases h
      | some us =>
        rw [q2] at h; cases h
        obtain ⟨w, ws', rfl, h1, h2⟩ := RepL.cons_iff.mp r
        obtain ⟨e1, f1⟩ := flatD_rep q h1
        obtain ⟨e2, f2⟩ := flatL_rep q2 h2
        subst e1 e2
        exact ⟨rfl, by rw [List.all_cons, f1, f2]; rfl⟩
def opInG (neg : Bool) : R → R → M R := fun x y S => match x with
  | .p d => (match flatD d with
    | some v => (match getL y S with
      | some l => (match flatL l with
        | some vs => .ok (.p (.bl (if neg then !inV v vs else inV v vs))) S
        | none => .bad)
      | none => .bad)
    | none => .bad)
  | _ => .bad
def opIn : R → R → M R := opInG false
def opNotIn : R → R → M R := opInG true
theorem od_in (hK : X.K = c.K) {neg : Bool} : OpD c W (opInG neg) (rIn X.K neg) := by
  intro Γ S σ H x y v w Q F hx hy P
  cases x with
  | r n => exact P.elim
  | p d =>
    unfold opInG at P
    simp only at P
    cases q1 : flatD d with
    | none => rw [q1] at P; exact P.elim
    | some v' =>
      rw [q1] at P
      simp only at P
      cases q2 : getL y S with
      | none => rw [q2] at P; exact P.elim
      | some l =>
        rw [q2] at P
        simp only at P
        cases q3 : flatL l with
        | none => rw [q3] at P; exact P.elim
        | some vs =>
          rw [q3] at P
          obtain ⟨e1, f1⟩ := flatD_rep q1 (RepR.pure.mp hx)
          obtain ⟨a, ws, rfl, h1, h2⟩ := getL_ok F hy q2
          obtain ⟨e2, f2⟩ := flatL_rep q3 h2
          subst e1 e2
          exact ⟨a, _, rfl, hK ▸ h1, f1, f2, Post.ok (c := c) (W := W) P Gh.le.refl F _ RepR.mkB⟩
theorem e_in (hK : X.K = c.K) (ha : PE X a (rdE c W fa)) (hb : PE X b (rdE c W fb)) (hm : behindInMarks .In b = false := by rfl) : PE X (.Compare a [.In] [b] pos) (rdE c W (bin opIn fa fb)) := se_cmp op_in_seq (od_in hK) ha hb hm
theorem t_in (hK : X.K = c.K) (ha : PE X a (rdE c W fa)) (hb : PE X b (rdE c W fb)) (hm : behindInMarks .In b = false := by rfl) : PT X (.Compare a [.In] [b] pos) (rdT c W (tst (bin opIn fa fb))) := st_cmp op_in_seq (od_in hK) ha hb hm
def opBxor : R → R → M R := opI0 fun i j => .int (Builtin.bitXor i j)
/-! ### max, min of a list of ints -/
def maxI : List Int → Int
  | [] => 0
  | n :: ns => ns.foldl max n
def minI : List Int → Int
  | [] => 0
  | n :: ns => ns.foldl min n
theorem foldl_max : ∀ (ns : List Int) (n : Int), n ≤ ns.foldl max n ∧ (∀ y ∈ ns, y ≤ ns.foldl max n) ∧ (ns.foldl max n = n ∨ ns.foldl max n ∈ ns)
  | [], n => ⟨Int.le_refl _, by simp, .inl rfl⟩
  | m :: ns, n => by
    obtain ⟨h1, h2, h3⟩ := foldl_max ns (max n m)
    rw [List.foldl_cons]
    refine ⟨by omega, fun y hy => ?_, ?_⟩
    · rcases List.mem_cons.mp hy with rfl | hy
      · omega
      · exact h2 y hy
    · rcases h3 with h3 | h3
      · by_cases hnm : n ≤ m
        · right; rw [h3, Int.max_eq_right hnm]; exact List.mem_cons_self
        · left; rw [h3, Int.max_eq_left (by omega)]
      · right; exact List.mem_cons_of_mem _ h3
theorem maxI_ok {ns : List Int} (h : 0 < ns.length) : maxI ns ∈ ns ∧ ∀ y ∈ ns, y ≤ maxI ns := by
  cases ns with
  | nil => simp at h
  | cons n ns =>
    obtain ⟨h1, h2, h3⟩ := foldl_max ns n
    refine ⟨?_, fun y hy => ?_⟩
    · rcases h3 with h3 | h3
      · show ns.foldl max n ∈ _; rw [h3]; exact List.mem_cons_self
      · exact List.mem_cons_of_mem _ h3
    · rcases List.mem_cons.mp hy with rfl | hy
      · exact h1
      · exact h2 y hy
def extK (F : List Int → Int) (S : Sg) : Option (List D) → Res R
  | some l => (match intsOf l with
    | some ns => if 0 < ns.length then .ok (.p (.int (F ns))) S else .bad
    | none => .bad)
  | none => .bad
def opMaxL : R → M R := fun x S => extK maxI S (getLst x S)
def opMinL : R → M R := fun x S => extK minI S (getLst x S)
theorem cd_maxL (hK : X.K = c.K) : CallD c W (op1 opMaxL) (rMax X.K) :=
  cd_one (r := fun v H Q => rMax X.K [v] H Q) (by
    intro Γ S σ H x v Q F hv P
    unfold opMaxL extK at P
    cases hl : getLst x S with
    | none => rw [hl] at P; exact P.elim
    | some l =>
      rw [hl] at P
      simp only at P
      cases hb : intsOf l with
      | none => rw [hb] at P; exact P.elim
      | some ns =>
        rw [hb] at P
        simp only at P
        by_cases h0 : 0 < ns.length
        · rw [if_pos h0] at P
          obtain ⟨a, vs, rfl, h1, h2⟩ := getLst_ok F hv hl
          rw [intsOf_some hb] at h2
          rw [h2.ints] at h1
          obtain ⟨k1, k2⟩ := maxI_ok h0
          refine ⟨a, ns, rfl, hK ▸ h1, h0, fun m hm hy => ?_⟩
          have : m = maxI ns := by have := hy _ k1; have := k2 m hm; omega
          subst this
          exact Post.ok (c := c) (W := W) P Gh.le.refl F _ RepR.mkI
        · rw [if_neg h0] at P; exact P.elim) (fun v H Q h => h)
theorem e_max1 (hK : X.K = c.K) (hc : X.calm = true) (hm : X.mg "max" = none) (ha : PE X a (rdE c W f)) (hg : Gl X "max" := by rfl) (he : starEach [a] X.env = (false, eval a X.env) :: starEach [] X.env := by rfl) (hpl : (backTo pos (starEach [] X.env)).any (·.1) = false := by rfl) :
    PE X (.Call (.Name "max" p) [a] [] pos) (rdE c W (opA (op1 opMaxL) (aC f aN))) := se_callB (cr_max hc) (cd_maxL hK) hg hm (by decide +kernel) (sa_cons ha sa_nil he) (by decide) (by decide) he hpl
/-! ### [*a, *b] -/
def ofD : List D → List R := List.map R.p
def aS (f : M R) (g : M (List R)) : M (List R) := do
  let x ← f
  fun S => match getL x S with
    | some l => (match g S with
      | .ok ys S2 => .ok (ofD l ++ ys) S2
      | .exc z S2 => .exc z S2
      | .bad => .bad)
    | none => .bad
theorem RepRL.ofD {Γ : Gh} : ∀ {l : List D} {vs : List V}, RepL c Γ.G l vs → RepRL c Γ (ofD l) vs
  | [], vs, h => RepL.nil_iff.mp h
  | d :: ds, vs, h => by
    obtain ⟨v, r, rfl, h1, h2⟩ := RepL.cons_iff.mp h
    exact ⟨v, r, rfl, h1, RepRL.ofD h2⟩
end
end Dd

set_option Elab.async false
set_option linter.all false
set_option maxRecDepth 100000
namespace Dd
open PySem PySem.Spec PyProof.Rows L2
/-! ### meanings, worked out -/
/-- what simp shall not look into: k stands fixed, since u's type speaks of it -/
structure Pk {α β : Type} (k : α → Sg → Res β) : Type where
def Res.bnd {α β : Type} (r : Res α) (k : α → Sg → Res β) (u : Pk k := ⟨⟩) : Res β := match r with
  | .ok a S => k a S
  | .exc x S => .exc x S
  | .bad => .bad
theorem bnd_ext {α β : Type} {r : Res α} {k k' : α → Sg → Res β} (h : ∀ a S, k a S = k' a S) : r.bnd k = r.bnd k' := by
  have : k = k' := by funext a S; exact h a S
  subst this; rfl
section
variable {α β : Type}
theorem bnd_ok {a : α} {S : Sg} {k : α → Sg → Res β} : (Res.ok a S).bnd k = k a S := Eq.trans rfl rfl
theorem bnd_exc {x : Xn} {S : Sg} {k : α → Sg → Res β} : (Res.exc x S).bnd k = .exc x S := Eq.trans rfl rfl
theorem bnd_bad {k : α → Sg → Res β} : (Res.bad).bnd k = .bad := Eq.trans rfl rfl
theorem bind_bnd (f : M α) (g : α → M β) (S : Sg) : (f >>= g) S = (f S).bnd g := by rw [bind_ap]; cases f S <;> rfl
def ifK (h1 h2 : M α) (b : Bool) (S : Sg) : Res α := if b = true then h1 S else h2 S
theorem ifK_t {h1 h2 : M α} {S : Sg} : ifK h1 h2 true S = h1 S := Eq.trans rfl rfl
theorem ifK_f {h1 h2 : M α} {S : Sg} : ifK h1 h2 false S = h2 S := Eq.trans rfl rfl
theorem ifK_d {h1 h2 : M α} {S : Sg} {p : Prop} [Decidable p] : ifK h1 h2 (decide p) S = if p then h1 S else h2 S := by unfold ifK; by_cases h : p <;> simp [h]
theorem ifK_n {h1 h2 : M α} {S : Sg} {b : Bool} : ifK h1 h2 (!b) S = ifK h2 h1 b S := by cases b <;> rfl
/-! statements -/
def seqK (h : M Fl) : Fl → Sg → Res Fl
  | .nx, S => h S
  | x, S => .ok x S
theorem seqK_nx {h : M Fl} {S : Sg} : seqK h .nx S = h S := Eq.trans rfl rfl
theorem seqK_rt {h : M Fl} {S : Sg} {x : R} : seqK h (.rt x) S = .ok (.rt x) S := Eq.trans rfl rfl
theorem seqK_bk {h : M Fl} {S : Sg} : seqK h .bk S = .ok .bk S := Eq.trans rfl rfl
theorem seqK_ct {h : M Fl} {S : Sg} : seqK h .ct S = .ok .ct S := Eq.trans rfl rfl
theorem sSq_ap (h1 h2 : M Fl) (S : Sg) : sSq h1 h2 S = (h1 S).bnd (seqK h2) := by
  unfold sSq
  rw [bind_ap]
  cases h1 S with
  | ok a S' => cases a <;> rfl
  | exc x S' => rfl
  | bad => rfl
theorem sIf_ap (t : M Bool) (h1 h2 : M Fl) (S : Sg) : sIf t h1 h2 S = (t S).bnd (ifK h1 h2) := by
  unfold sIf
  rw [bind_bnd]
  refine bnd_ext fun b S' => ?_
  cases b <;> rfl
theorem sRt_ap (f : M R) (S : Sg) : sRt f S = (f S).bnd fun x S => .ok (.rt x) S := by unfold sRt; rw [bind_bnd]; rfl
theorem sRtN_ap (S : Sg) : sRtN S = .ok (.rt (.p .non)) S := Eq.trans rfl rfl
theorem sNx_ap (S : Sg) : sNx S = .ok .nx S := Eq.trans rfl rfl
theorem sBad_ap (S : Sg) : sBad S = .bad := Eq.trans rfl rfl
theorem sBk_ap (S : Sg) : sBk S = .ok .bk S := Eq.trans rfl rfl
theorem sCt_ap (S : Sg) : sCt S = .ok .ct S := Eq.trans rfl rfl
theorem sEx_ap (f : M R) (S : Sg) : sEx f S = (f S).bnd fun _ S => .ok .nx S := by unfold sEx; rw [bind_bnd]; rfl
theorem sSet_ap (i : Nat) (f : M R) (S : Sg) : sSet i f S = (f S).bnd fun x S => .ok .nx ⟨S.sl.set i (some x), S.st⟩ := by unfold sSet; rw [bind_bnd]; rfl
theorem sAsg_ap (f : M R) (t : Tg) (S : Sg) : sAsg f t S = (f S).bnd fun x S => (pure1 x S).bnd fun d S => (t d S).bnd fun _ S => .ok .nx S := by
  unfold sAsg
  simp only [bind_bnd]
  rfl
theorem sSub_ap (f fo fi : M R) (S : Sg) : sSub f fo fi S = (f S).bnd fun x S => (pure1 x S).bnd fun d S => (fo S).bnd fun o S => (fi S).bnd fun i S => (setAt o i d S).bnd fun _ S => .ok .nx S := by
  unfold sSub
  simp only [bind_bnd]
  rfl
def sParK (i j : Nat) : List R → Sg → Res Fl
  | x :: y :: [], S => .ok .nx ⟨(S.sl.set i (some x)).set j (some y), S.st⟩
  | _, _ => .bad
theorem sPar_ap (i j : Nat) (g : M (List R)) (S : Sg) : sPar i j g S = (g S).bnd (sParK i j) := by
  unfold sPar
  rw [bind_bnd]
  refine bnd_ext fun xs S' => ?_
  match xs with
  | [] => rfl
  | [x] => rfl
  | [x, y] => rfl
  | x :: y :: z :: r => rfl
theorem sParK_ap {i j : Nat} {x y : R} {S : Sg} : sParK i j [x, y] S = .ok .nx ⟨(S.sl.set i (some x)).set j (some y), S.st⟩ := Eq.trans rfl rfl
def sParK3 (i j l : Nat) : List R → Sg → Res Fl
  | x :: y :: z :: [], S => .ok .nx ⟨((S.sl.set i (some x)).set j (some y)).set l (some z), S.st⟩
  | _, _ => .bad
theorem sPar3_ap (i j l : Nat) (g : M (List R)) (S : Sg) : sPar3 i j l g S = (g S).bnd (sParK3 i j l) := by
  unfold sPar3
  rw [bind_bnd]
  refine bnd_ext fun xs S' => ?_
  match xs with
  | [] => rfl
  | [x] => rfl
  | [x, y] => rfl
  | [x, y, z] => rfl
  | x :: y :: z :: u :: r => rfl
theorem sParK3_ap {i j l : Nat} {x y z : R} {S : Sg} : sParK3 i j l [x, y, z] S = .ok .nx ⟨((S.sl.set i (some x)).set j (some y)).set l (some z), S.st⟩ := Eq.trans rfl rfl
theorem sFor_ap (it : M (Itm α)) (t : α → M Unit) (h : M Fl) (S : Sg) : sFor it t h S = (it S).bnd fun I S => loopL I.ok (fun d => t d >>= fun _ => h) I.l S := by unfold sFor; rw [bind_bnd]
def fldK (k : Nat) (f' : Str) (d : D) (o : R) (S : Sg) : Res Fl := match o with
  | .r n => match S.st[n]? with
    | some (.mu (.obj k' fs)) => if k' = k ∧ fs.length < 900 then .ok .nx { S with st := S.st.set n (.mu (.obj k' (putD f' d fs))) } else .bad
    | _ => .bad
  | _ => .bad
theorem sFld_ap (k : Nat) (f' : Str) (fo f : M R) (S : Sg) : sFld k f' fo f S = (f S).bnd fun x S => (pure1 x S).bnd fun d S => (fo S).bnd fun o S => fldK k f' d o S := by
  unfold sFld
  simp only [bind_bnd]
  rfl
/-! values -/
def getK : Option (Option R) → Sg → Res R
  | some (some x), S => .ok x S
  | _, _ => .bad
theorem vr_ap (i : Nat) (S : Sg) : vr i S = getK S.sl[i]? S := by
  unfold vr getK
  cases S.sl[i]? with
  | none => rfl
  | some o => cases o <;> rfl
theorem getK_ap {x : R} {S : Sg} : getK (some (some x)) S = .ok x S := Eq.trans rfl rfl
theorem ci_ap (i : Int) (S : Sg) : ci i S = .ok (.p (.int i)) S := Eq.trans rfl rfl
theorem cb_ap (i : Bool) (S : Sg) : cb i S = .ok (.p (.bl i)) S := Eq.trans rfl rfl
theorem cn_ap (S : Sg) : cn S = .ok (.p .non) S := Eq.trans rfl rfl
theorem cs_ap (i : Str) (S : Sg) : cs i S = .ok (.p (.str i)) S := Eq.trans rfl rfl
theorem cd_ap (d : D) (S : Sg) : cd d S = .ok (.p d) S := Eq.trans rfl rfl
theorem bin_ap (op : R → R → M R) (f g : M R) (S : Sg) : bin op f g S = (f S).bnd fun x S => (g S).bnd fun y S => op x y S := Eq.trans rfl rfl
theorem uNeg_ap (f : M R) (S : Sg) : uNeg f S = (f S).bnd fun x S => (match x with
    | .p (.int i) => .ok (.p (.int (-i))) S
    | _ => .bad) := rfl
theorem toB_ap {b : Bool} {S : Sg} : toB (.p (.bl b)) S = .ok b S := Eq.trans rfl rfl
theorem tst_ap (f : M R) (S : Sg) : tst f S = (f S).bnd toB := bind_bnd _ _ _
theorem mNot_ap (t : M Bool) (S : Sg) : mNot t S = (t S).bnd fun b S => .ok (!b) S := by unfold mNot; rw [bind_bnd]; rfl
theorem mAnd_ap (t u : M Bool) (S : Sg) : mAnd t u S = (t S).bnd (ifK u fun S => .ok false S) := by
  unfold mAnd; rw [bind_bnd]; refine bnd_ext fun b S' => ?_; cases b <;> rfl
theorem mOr_ap (t u : M Bool) (S : Sg) : mOr t u S = (t S).bnd (ifK (fun S => .ok true S) u) := by
  unfold mOr; rw [bind_bnd]; refine bnd_ext fun b S' => ?_; cases b <;> rfl
theorem eAnd_ap (f g : M R) (S : Sg) : eAnd f g S = (f S).bnd fun x S => (toB x S).bnd (ifK g fun S => .ok (.p (.bl false)) S) := by
  unfold eAnd; rw [bind_bnd, tst_ap]
  cases f S with
  | ok x S1 => show (toB x S1).bnd _ = (toB x S1).bnd _; refine bnd_ext fun b S' => ?_; cases b <;> rfl
  | exc x S1 => rfl
  | bad => rfl
theorem eOr_ap (f g : M R) (S : Sg) : eOr f g S = (f S).bnd fun x S => (toB x S).bnd (ifK (fun S => .ok (.p (.bl true)) S) g) := by
  unfold eOr; rw [bind_bnd, tst_ap]
  cases f S with
  | ok x S1 => show (toB x S1).bnd _ = (toB x S1).bnd _; refine bnd_ext fun b S' => ?_; cases b <;> rfl
  | exc x S1 => rfl
  | bad => rfl
theorem eNot_ap (f : M R) (S : Sg) : eNot f S = (f S).bnd fun x S => (toB x S).bnd fun b S => .ok (.p (.bl (!b))) S := by
  unfold eNot; rw [bind_bnd, tst_ap]
  cases f S <;> rfl
theorem eIf_ap (t : M Bool) (f g : M R) (S : Sg) : eIf t f g S = (t S).bnd (ifK f g) := by
  unfold eIf; rw [bind_bnd]; refine bnd_ext fun b S' => ?_; cases b <;> rfl
theorem eChain_ap (op op' : R → R → M R) (f g h : M R) (S : Sg) : eChain op op' f g h S = (f S).bnd fun x S => (g S).bnd fun y S => (op x y S).bnd fun z S => (toB z S).bnd (ifK (fun S => (h S).bnd fun w S => op' y w S) fun S => .ok (.p (.bl false)) S) := by
  unfold eChain
  rw [bind_bnd]
  refine bnd_ext fun x S1 => ?_
  rw [bind_bnd]
  refine bnd_ext fun y S2 => ?_
  rw [bind_bnd]
  refine bnd_ext fun z S3 => ?_
  rw [bind_bnd]
  refine bnd_ext fun b S4 => ?_
  cases b <;> rfl
theorem aN_ap (S : Sg) : aN S = .ok [] S := Eq.trans rfl rfl
theorem aC_ap (f : M R) (g : M (List R)) (S : Sg) : aC f g S = (f S).bnd fun x S => (g S).bnd fun xs S => .ok (x :: xs) S := by
  unfold aC; simp only [bind_bnd]; rfl
theorem pur_ap (f : M R) (S : Sg) : pur f S = (f S).bnd fun x S => (pure1 x S).bnd fun d S => .ok (.p d) S := by unfold pur; simp only [bind_bnd]; rfl
theorem pure1_p {d : D} {S : Sg} : pure1 (.p d) S = .ok d S := Eq.trans rfl rfl
theorem pure1_r {n : Nat} {S : Sg} : pure1 (.r n) S = pureC n S S.st[n]? := Eq.trans rfl rfl
theorem pureC_lst {n : Nat} {S : Sg} {l : List D} : pureC n S (some (.mu (.lst l))) = .ok (.lst l) { S with st := S.st.set n (.fz l) } := Eq.trans rfl rfl
theorem pureC_fz {n : Nat} {S : Sg} {l : List D} : pureC n S (some (.fz l)) = .ok (.lst l) S := Eq.trans rfl rfl
theorem pureC_obj {n k : Nat} {S : Sg} {fs : List (Str × D)} {d : D} (h : objD k fs = some d) : pureC n S (some (.mu (.obj k fs))) = .ok d { S with st := S.st.set n .dead } := by
  unfold pureC; simp only [h]
theorem pureL_nil (S : Sg) : pureL [] S = .ok [] S := Eq.trans rfl rfl
theorem pureL_cons (x : R) (xs : List R) (S : Sg) : pureL (x :: xs) S = (pure1 x S).bnd fun d S => (pureL xs S).bnd fun ds S => .ok (d :: ds) S := by
  show (pure1 x >>= fun d => pureL xs >>= fun ds => pure (d :: ds)) S = _
  simp only [bind_bnd]; rfl
theorem tupE_ap (g : M (List R)) (S : Sg) : tupE g S = (g S).bnd fun xs S => (pureL xs S).bnd fun ds S => allocT ds S := Eq.trans rfl rfl
theorem lstE_ap (g : M (List R)) (S : Sg) : lstE g S = (g S).bnd fun xs S => (pureL xs S).bnd fun ds S => allocL ds S := Eq.trans rfl rfl
theorem allocT_ap {ds : List D} {S : Sg} (h : ds.length ≤ 1000) : allocT ds S = .ok (.p (.tup ds)) S := if_pos (Nat.le_trans h (by rw [sizeLine_eq]; decide))
theorem allocL_ap {ds : List D} {S : Sg} (h : ds.length ≤ 1000) : allocL ds S = .ok (.r S.st.length) ⟨S.sl, S.st ++ [.mu (.lst ds)]⟩ := if_pos (Nat.le_trans h (by rw [sizeLine_eq]; decide))
/-! calls -/
def callK (F : Fn) (n : Nat) (xs : List R) (S : Sg) : Res R := if xs.length = n then applyF S (F xs S.st) else .bad
theorem callM_ap (F : Fn) (n : Nat) (g : M (List R)) (S : Sg) : callM F n g S = (g S).bnd (callK F n) := by unfold callM; rw [bind_bnd]; rfl
theorem callK_ap {F : Fn} {n : Nat} {xs : List R} {S : Sg} (h : xs.length = n) : callK F n xs S = applyF S (F xs S.st) := if_pos h
theorem applyF_val {S : Sg} {d : D} {st : Store} : applyF S (.ok (.val d) st) = .ok (.p d) ⟨S.sl, st⟩ := Eq.trans rfl rfl
theorem applyF_new {S : Sg} {o : Con} {st : Store} : applyF S (.ok (.new o) st) = .ok (.r st.length) ⟨S.sl, st ++ [.mu o]⟩ := Eq.trans rfl rfl
theorem applyF_if {S : Sg} {p : Prop} [Decidable p] {a b : FRes} : applyF S (if p then a else b) = if p then applyF S a else applyF S b := by split <;> rfl
theorem bnd_if {p : Prop} [Decidable p] {a b : Res α} {k : α → Sg → Res β} : (if p then a else b).bnd k = if p then a.bnd k else b.bnd k := by split <;> rfl
theorem runF_ap (n : Nat) (h : M Fl) (xs : List R) (st : Store) : runF n h xs st = finish st.length (h ⟨xs.map some ++ List.replicate (n - xs.length) none, st⟩) := Eq.trans rfl rfl
theorem finish_nx {b : Nat} {S : Sg} : finish b (.ok .nx S) = .ok (.val .non) (S.st.take b) := Eq.trans rfl rfl
theorem finish_p {b : Nat} {S : Sg} {d : D} : finish b (.ok (.rt (.p d)) S) = .ok (.val d) (S.st.take b) := Eq.trans rfl rfl
theorem finish_r {b n : Nat} {S : Sg} : finish b (.ok (.rt (.r n)) S) = finishR b S.st (.r n) := Eq.trans rfl rfl
theorem finish_if {b : Nat} {p : Prop} [Decidable p] {x y : Res Fl} : finish b (if p then x else y) = if p then finish b x else finish b y := by split <;> rfl
theorem finishR_mu {b n : Nat} {st : Store} {o : Con} (h : st[n]? = some (.mu o)) (hb : b ≤ n) : finishR b st (.r n) = .ok (.new o) (st.take b) := by
  unfold finishR; simp only [h, if_pos hb]
def makeK (k : Nat) (F : Fn) (n : Nat) (xs : List R) (S : Sg) : Res R := if xs.length + 1 = n then (match F (.r S.st.length :: xs) (S.st ++ [.mu (.obj k [])]) with
    | .ok (.val .non) st => .ok (.r S.st.length) ⟨S.sl, st⟩
    | .exc x st => .exc x ⟨S.sl, st⟩
    | _ => .bad) else .bad
theorem makeU_ap (k : Nat) (F : Fn) (n : Nat) (g : M (List R)) (S : Sg) : makeU k F n g S = (g S).bnd (makeK k F n) := by unfold makeU; rw [bind_bnd]; rfl
theorem opA_ap (op : List R → M R) (g : M (List R)) (S : Sg) : opA op g S = (g S).bnd op := bind_bnd _ _ _
theorem op1_ap (op : R → M R) (x : R) (S : Sg) : op1 op [x] S = op x S := Eq.trans rfl rfl
def methK (chk : R → Sg → Bool) (op : R → List R → M R) (g : M (List R)) (x : R) (S : Sg) : Res R := if chk x S = true then (g S).bnd (op x) else .bad
theorem methM_ap (chk : R → Sg → Bool) (op : R → List R → M R) (f : M R) (g : M (List R)) (S : Sg) : methM chk op f g S = (f S).bnd (methK chk op g) := by
  unfold methM; rw [bind_bnd]; rfl
def attrK (k : Nat) (f' : Str) (x : R) (S : Sg) : Res R := match insOf x S with
    | some (k', fs) => if k' = k then (match fs.lookup f' with
      | some d => .ok (.p d) S
      | none => .bad) else .bad
    | none => .bad
theorem attrU_ap (k : Nat) (f' : Str) (f : M R) (S : Sg) : attrU k f' f S = (f S).bnd (attrK k f') := by unfold attrU; rw [bind_bnd]; rfl
theorem attrK_scr {l : List D} {S : Sg} : attrK 0 "own_levels" (.p (.scr l)) S = .ok (.p (.tup l)) S := Eq.trans rfl rfl
def propK (k : Nat) (F : Fn) (x : R) (S : Sg) : Res R := match insOf x S with
    | some (k', _) => if k' = k then (match F [x] S.st with
      | .exc _ _ => .bad
      | r => applyF S r) else .bad
    | none => .bad
theorem propU_ap (k : Nat) (F : Fn) (f : M R) (S : Sg) : propU k F f S = (f S).bnd (propK k F) := by unfold propU; rw [bind_bnd]; rfl
theorem propK_scr {F : Fn} {l : List D} {S : Sg} {d : D} {st : Store} (h : F [.p (.scr l)] S.st = .ok (.val d) st) : propK 0 F (.p (.scr l)) S = .ok (.p d) ⟨S.sl, st⟩ := by
  unfold propK
  show (if (0 : Nat) = 0 then (match F [.p (.scr l)] S.st with | .exc _ _ => Res.bad | r => applyF S r) else Res.bad) = _
  rw [if_pos rfl, h]
  rfl
def isK (n : String) (x : R) (S : Sg) : Res R := match kindR x S with
    | some t => .ok (.p (.bl (subTy t n))) S
    | none => match insOf x S with
      | some q => if q.1 = 0 then .ok (.p (.bl false)) S else .bad
      | none => .bad
theorem isB_ap (n : String) (f : M R) (S : Sg) : isB n f S = (f S).bnd (isK n) := by unfold isB; rw [bind_bnd]; rfl
def isCK (k : Nat) (x : R) (S : Sg) : Res R := match kindR x S with
    | some _ => .ok (.p (.bl false)) S
    | none => match insOf x S with
      | some q => if q.1 = k then .ok (.p (.bl true)) S else .bad
      | none => .bad
theorem isC_ap (k : Nat) (f : M R) (S : Sg) : isC k f S = (f S).bnd (isCK k) := by unfold isC; rw [bind_bnd]; rfl
theorem isCK_scr {l : List D} {S : Sg} : isCK 0 (.p (.scr l)) S = .ok (.p (.bl true)) S := Eq.trans rfl rfl
/-! what is walked -/
theorem itL_ap (f : M R) (S : Sg) : itL f S = (f S).bnd fun x S => (match getL x S with
    | some l => .ok ⟨fun S' => getL x S' = some l, l⟩ S
    | none => .bad) := Eq.trans rfl rfl
theorem itE_ap (f : M R) (S : Sg) : itE f S = (f S).bnd fun x S => (match getL x S with
    | some l => .ok ⟨fun S' => getL x S' = some l, numbered 0 l⟩ S
    | none => .bad) := Eq.trans rfl rfl
theorem itR1_ap (g : M (List R)) (S : Sg) : itR1 g S = (g S).bnd fun xs S => (match asI1 xs with
    | some j => if -(2 ^ 62) ≤ j ∧ j < 2 ^ 62 then .ok ⟨fun _ => True, intsFrom 0 j.toNat⟩ S else .bad
    | none => .bad) := Eq.trans rfl rfl
theorem gN_ap (i : Nat) (d : D) (S : Sg) : gN i d S = .ok () ⟨S.sl.set i (some (.p d)), S.st⟩ := Eq.trans rfl rfl
theorem gsN_ap (S : Sg) : gsN [] S = .ok () S := Eq.trans rfl rfl
theorem gsC_ap (t : Tg) (u : List D → M Unit) (d : D) (r : List D) (S : Sg) : gsC t u (d :: r) S = (t d S).bnd fun _ S => u r S := bind_bnd _ _ _
theorem gT_ap {n : Nat} {u : List D → M Unit} {l : List D} {S : Sg} (h : l.length = n) : gT n u (.tup l) S = u l S := if_pos h
theorem gL_ap {n : Nat} {u : List D → M Unit} {l : List D} {S : Sg} (h : l.length = n) : gL n u (.lst l) S = u l S := if_pos h
theorem getL_tup {l : List D} {S : Sg} : getL (.p (.tup l)) S = some l := Eq.trans rfl rfl
theorem getL_lst {l : List D} {S : Sg} : getL (.p (.lst l)) S = some l := Eq.trans rfl rfl
theorem getL_scp {l : List D} {S : Sg} : getL (.p (.scp l)) S = some l := Eq.trans rfl rfl
theorem loop_nil {ok : Sg → Prop} {body : α → M Fl} {S : Sg} (h : ok S) : loopL ok body [] S = .ok .nx S := loopL_nil h
noncomputable def loopK (ok : Sg → Prop) (body : α → M Fl) (ds : List α) : Fl → Sg → Res Fl
  | .nx, S => loopL ok body ds S
  | .ct, S => loopL ok body ds S
  | .bk, S => .ok .nx S
  | .rt x, S => .ok (.rt x) S
theorem loop_cons {ok : Sg → Prop} {body : α → M Fl} {d : α} {ds : List α} {S : Sg} (h : ok S) : loopL ok body (d :: ds) S = (body d S).bnd (loopK ok body ds) := by
  rw [loopL_cons h]
  cases body d S with
  | ok a S' => cases a <;> rfl
  | exc x S' => rfl
  | bad => rfl
/-- a loop that is gone through to its end -/
theorem loop_inv {ok : Sg → Prop} {body : α → M Fl} (I : Nat → Sg → Prop) : ∀ (l : List α) (i : Nat) (S : Sg), I i S → (∀ j S, I j S → ok S) → (∀ j d S, l[j]? = some d → I (i + j) S → ∃ S', (body d S = .ok .nx S' ∨ body d S = .ok .ct S') ∧ I (i + j + 1) S') → ∃ S', loopL ok body l S = .ok .nx S' ∧ I (i + l.length) S'
  | [], i, S, h0, hok, hs => ⟨S, loopL_nil (hok _ _ h0), h0⟩
  | d :: ds, i, S, h0, hok, hs => by
    obtain ⟨S1, e, h1⟩ := hs 0 d S rfl h0
    have := loop_inv I ds (i + 1) S1 h1 hok fun j d' S' hj hI => by
      have := hs (j + 1) d' S' hj (by rw [show i + (j + 1) = i + 1 + j by omega]; exact hI)
      rw [show i + (j + 1) + 1 = i + 1 + j + 1 by omega] at this
      exact this
    obtain ⟨S2, e2, h2⟩ := this
    refine ⟨S2, ?_, by rw [List.length_cons, show i + (ds.length + 1) = i + 1 + ds.length by omega]; exact h2⟩
    rw [loop_cons (hok _ _ h0)]
    rcases e with e | e <;> rw [e] <;> exact e2
end
end Dd

set_option Elab.async false
set_option linter.all false
set_option maxRecDepth 100000
set_option exponentiation.threshold 2000
namespace Dd
open PySem PySem.Spec PyProof.Rows L2
/-! ### operations, worked out -/
section
variable {S : Sg} {i j : Int}
theorem opAdd_i : opAdd (.p (.int i)) (.p (.int j)) S = .ok (.p (.int (i + j))) S := Eq.trans rfl rfl
theorem opSub_i : opSub (.p (.int i)) (.p (.int j)) S = .ok (.p (.int (i - j))) S := Eq.trans rfl rfl
theorem opMul_i (h : CMulW i j) : opMul (.p (.int i)) (.p (.int j)) S = .ok (.p (.int (i * j))) S := by
  show (if CMulW i j then _ else _) = _
  exact if_pos h
theorem opDiv_i (h : CDivW i j) : opDiv (.p (.int i)) (.p (.int j)) S = .ok (.p (.int (i / j))) S := if_pos h
theorem opMod_i (h : 0 < j) : opMod (.p (.int i)) (.p (.int j)) S = .ok (.p (.int (i % j))) S := if_pos h
theorem opPow_i (h : CPowW i j) : opPow (.p (.int i)) (.p (.int j)) S = .ok (.p (.int (i ^ j.toNat))) S := if_pos h
theorem opShl_i (h : CShl i j) : opShl (.p (.int i)) (.p (.int j)) S = .ok (.p (.int (i * 2 ^ j.toNat))) S := if_pos h
theorem opShr_i (h : 0 ≤ j) : opShr (.p (.int i)) (.p (.int j)) S = .ok (.p (.int (i / 2 ^ j.toNat))) S := if_pos h
theorem opBand_i : opBand (.p (.int i)) (.p (.int j)) S = .ok (.p (.int (Builtin.bitAnd i j))) S := Eq.trans rfl rfl
theorem opLt_i : opLt (.p (.int i)) (.p (.int j)) S = .ok (.p (.bl (decide (i < j)))) S := Eq.trans rfl rfl
theorem opLe_i : opLe (.p (.int i)) (.p (.int j)) S = .ok (.p (.bl (decide (i ≤ j)))) S := Eq.trans rfl rfl
theorem opGt_i : opGt (.p (.int i)) (.p (.int j)) S = .ok (.p (.bl (decide (j < i)))) S := Eq.trans rfl rfl
theorem opGe_i : opGe (.p (.int i)) (.p (.int j)) S = .ok (.p (.bl (decide (j ≤ i)))) S := Eq.trans rfl rfl
theorem opEqD_i : opEqD (.p (.int i)) (.p (.int j)) S = .ok (.p (.bl (decide (i = j)))) S := by
  show (if SeqAt.shaped (.int i) = true ∧ SeqAt.shaped (.int j) = true then Res.ok (R.p (.bl (PyData.eqv (.int i) (.int j)))) S else .bad) = _
  rw [if_pos ⟨rfl, rfl⟩]
  rfl
theorem opNeD_i : opNeD (.p (.int i)) (.p (.int j)) S = .ok (.p (.bl (!decide (i = j)))) S := by
  show (if SeqAt.shaped (.int i) = true ∧ SeqAt.shaped (.int j) = true then Res.ok (R.p (.bl (!PyData.eqv (.int i) (.int j)))) S else .bad) = _
  rw [if_pos ⟨rfl, rfl⟩]
  rfl
theorem opInt_i : opInt (.p (.int i)) S = .ok (.p (.int i)) S := Eq.trans rfl rfl
theorem opInt_b {b : Bool} : opInt (.p (.bl b)) S = .ok (.p (.int (if b = true then 1 else 0))) S := Eq.trans rfl rfl
theorem opAbs_i : opAbs (.p (.int i)) S = .ok (.p (.int (if i < 0 then -i else i))) S := Eq.trans rfl rfl
theorem opMax2_i : opMax2 [.p (.int i), .p (.int j)] S = .ok (.p (.int (max i j))) S := Eq.trans rfl rfl
theorem opMin2_i : opMin2 [.p (.int i), .p (.int j)] S = .ok (.p (.int (min i j))) S := Eq.trans rfl rfl
theorem atI_nat {α : Type} {l : List α} {k : Nat} {d : α} (h : l[k]? = some d) : L2.atI l (k : Int) = some d := by
  have hl := (List.getElem?_eq_some_iff.mp h).1
  unfold L2.atI L2.ixN
  rw [if_pos (by omega), if_pos (by omega)]
  simpa using h
theorem atI_of {α : Type} {l : List α} {i : Int} {d : α} (h0 : 0 ≤ i) (h : l[i.toNat]? = some d) : L2.atI l i = some d := by
  have := atI_nat h
  rwa [Int.toNat_of_nonneg h0] at this
theorem isK_ii : isK "int" (.p (.int i)) S = .ok (.p (.bl true)) S := by unfold isK; rfl
theorem isK_ib : isK "bool" (.p (.int i)) S = .ok (.p (.bl false)) S := by unfold isK; rfl
theorem isK_tt {l : List D} : isK "tuple" (.p (.tup l)) S = .ok (.p (.bl true)) S := by unfold isK; rfl
theorem isK_ll {l : List D} : isK "list" (.p (.lst l)) S = .ok (.p (.bl true)) S := by unfold isK; rfl
def getLK : Option Cell → Option (List D)
  | some (.mu (.lst l)) => some l
  | some (.fz l) => some l
  | _ => none
theorem getLK_mu {l : List D} : getLK (some (.mu (.lst l))) = some l := Eq.trans rfl rfl
theorem getLK_fz {l : List D} : getLK (some (.fz l)) = some l := Eq.trans rfl rfl
theorem getL_r {n : Nat} : getL (.r n) S = getLK S.st[n]? := by
  cases h : S.st[n]? with
  | none => simp only [getL, h, getLK]
  | some c => cases c with
    | mu o => cases o <;> simp only [getL, h, getLK]
    | fz l => simp only [getL, h, getLK]
    | dead => simp only [getL, h, getLK]
theorem getLst_r {n : Nat} : getLst (.r n) S = getLK S.st[n]? := by
  cases h : S.st[n]? with
  | none => simp only [getLst, h, getLK]
  | some c => cases c with
    | mu o => cases o <;> simp only [getLst, h, getLK]
    | fz l => simp only [getLst, h, getLK]
    | dead => simp only [getLst, h, getLK]
theorem getLst_lst {l : List D} : getLst (.p (.lst l)) S = some l := Eq.trans rfl rfl
theorem getLst_scp {l : List D} : getLst (.p (.scp l)) S = some l := Eq.trans rfl rfl
theorem getM_r {n : Nat} : getM (.r n) S = getLK S.st[n]? := by
  cases h : S.st[n]? with
  | none => simp only [getM, h, getLK]
  | some c => cases c with
    | mu o => cases o <;> simp only [getM, h, getLK]
    | fz l => simp only [getM, h, getLK]
    | dead => simp only [getM, h, getLK]
theorem getM_lst {l : List D} : getM (.p (.lst l)) S = some l := Eq.trans rfl rfl
theorem opLen_t {l : List D} : opLen (.p (.tup l)) S = .ok (.p (.int (l.length : Nat))) S := Eq.trans rfl rfl
theorem opLen_l {l : List D} : opLen (.p (.lst l)) S = .ok (.p (.int (l.length : Nat))) S := Eq.trans rfl rfl
theorem opLen_c {l : List D} : opLen (.p (.scp l)) S = .ok (.p (.int (l.length : Nat))) S := Eq.trans rfl rfl
def lenK : Option (List D) → Sg → Res R
  | some l, S => .ok (.p (.int (l.length : Nat))) S
  | none, _ => .bad
theorem lenK_ap {l : List D} : lenK (some l) S = .ok (.p (.int (l.length : Nat))) S := Eq.trans rfl rfl
theorem opLen_r {n : Nat} : opLen (.r n) S = lenK (getLK S.st[n]?) S := by
  unfold opLen
  rw [getL_r]
  cases getLK S.st[n]? <;> rfl
/-- l[i] -/
def ixK (l : List D) (i : Int) (S : Sg) : Res R := match L2.atI l i with
  | some d => .ok (.p d) S
  | none => .bad
theorem ixK_of {l : List D} {d : D} (h : L2.atI l i = some d) : ixK l i S = .ok (.p d) S := by unfold ixK; rw [h]
theorem opIx_t {l : List D} : opIx (.p (.tup l)) (.p (.int i)) S = ixK l i S := Eq.trans rfl rfl
theorem opIx_l {l : List D} : opIx (.p (.lst l)) (.p (.int i)) S = ixK l i S := Eq.trans rfl rfl
theorem opIx_c {l : List D} : opIx (.p (.scp l)) (.p (.int i)) S = ixK l i S := Eq.trans rfl rfl
def ixK' : Option (List D) → Int → Sg → Res R
  | some l, i, S => ixK l i S
  | none, _, _ => .bad
theorem ixK'_ap {l : List D} : ixK' (some l) i S = ixK l i S := Eq.trans rfl rfl
theorem opIx_r {n : Nat} : opIx (.r n) (.p (.int i)) S = ixK' (getLK S.st[n]?) i S := by
  unfold opIx
  simp only [asI]
  rw [getL_r]
  cases getLK S.st[n]? <;> rfl
theorem ixK_0 {l : List D} {d : D} : ixK (d :: l) 0 S = .ok (.p d) S := ixK_of (atI_of (by decide) rfl)
theorem ixK_1 {l : List D} {a d : D} : ixK (a :: d :: l) 1 S = .ok (.p d) S := ixK_of (atI_of (by decide) rfl)
theorem ixK_2 {l : List D} {a b d : D} : ixK (a :: b :: d :: l) 2 S = .ok (.p d) S := ixK_of (atI_of (by decide) rfl)
theorem ixK_3 {l : List D} {a b c d : D} : ixK (a :: b :: c :: d :: l) 3 S = .ok (.p d) S := ixK_of (atI_of (by decide) rfl)
/-- x.append(d) -/
def appK (n : Nat) (d : D) (S : Sg) : Option Cell → Res R
  | some (.mu (.lst l)) => if l.length < sizeLine then .ok (.p .non) { S with st := S.st.set n (.mu (.lst (l ++ [d]))) } else .bad
  | _ => .bad
theorem appK_ap {n : Nat} {d : D} {l : List D} (h : l.length < 1000000) : appK n d S (some (.mu (.lst l))) = .ok (.p .non) ⟨S.sl, S.st.set n (.mu (.lst (l ++ [d])))⟩ := if_pos (Nat.lt_of_lt_of_le h (by rw [sizeLine_eq]; decide))
theorem opApp_ap {n : Nat} {y : R} : opApp (.r n) [y] S = (pure1 y S).bnd fun d S => appK n d S S.st[n]? := by
  show (pure1 y >>= _) S = _
  rw [bind_bnd]
  congr 1
theorem isLst_r' {n : Nat} : isLst (.r n) S = (getLK S.st[n]?).isSome := by unfold isLst; rw [getLst_r]
def popC (n : Nat) (i : Int) (S : Sg) : Option Cell → Res R
  | some (.mu (.lst l)) => if -(2 ^ 63) ≤ i ∧ i < 2 ^ 63 then (match seqIndex? i l.length with
        | some k => match l[k]? with
          | some d => .ok (.p d) { S with st := S.st.set n (.mu (.lst (l.eraseIdx k))) }
          | none => .bad
        | none => .bad) else .bad
  | _ => .bad
theorem opPopAt_ap {n : Nat} : opPopAt (.r n) [.p (.int i)] S = popC n i S S.st[n]? := by
  show (match S.st[n]? with | some (.mu (.lst l)) => _ | _ => _) = _
  cases h : S.st[n]? with
  | none => rfl
  | some c => cases c with
    | mu o => cases o <;> rfl
    | fz l => rfl
    | dead => rfl
theorem popC_of {n : Nat} {l : List D} {d : D} (h0 : 0 ≤ i) (hd : l[i.toNat]? = some d) (hl : l.length < 1000000) : popC n i S (some (.mu (.lst l))) = .ok (.p d) ⟨S.sl, S.st.set n (.mu (.lst (l.eraseIdx i.toNat)))⟩ := by
  have hi := (List.getElem?_eq_some_iff.mp hd).1
  have e : L2.ixN l.length i = some i.toNat := by unfold L2.ixN; rw [if_pos h0, if_pos (by omega)]
  have e2 := (L2.ixN_seq e).1
  unfold popC
  simp only
  rw [if_pos (by omega), e2]
  simp only [hd]
/-- o[i] = d -/
def setK (n : Nat) (i : Int) (d : D) (S : Sg) : Option Cell → Res Unit
  | some (.mu (.lst l)) => match L2.ixN l.length i with
        | some j => .ok () { S with st := S.st.set n (.mu (.lst (l.set j d))) }
        | none => .bad
  | _ => .bad
theorem setAt_ap {n : Nat} {d : D} : setAt (.r n) (.p (.int i)) d S = setK n i d S S.st[n]? := by
  cases h : S.st[n]? with
  | none => simp only [setAt, asI, h, setK]
  | some c => cases c with
    | mu o => cases o <;> (simp only [setAt, asI, h, setK] <;> rfl)
    | fz l => simp only [setAt, asI, h, setK]
    | dead => simp only [setAt, asI, h, setK]
theorem setK_0 {n : Nat} {a d : D} {l : List D} : setK n 0 d S (some (.mu (.lst (a :: l)))) = .ok () ⟨S.sl, S.st.set n (.mu (.lst (d :: l)))⟩ := by
  have e : L2.ixN (a :: l).length 0 = some 0 := by unfold L2.ixN; rw [if_pos (by decide), if_pos (by simp only [List.length_cons]; omega)]; rfl
  unfold setK; simp only [e]; rfl
theorem setK_1 {n : Nat} {a b d : D} {l : List D} : setK n 1 d S (some (.mu (.lst (a :: b :: l)))) = .ok () ⟨S.sl, S.st.set n (.mu (.lst (a :: d :: l)))⟩ := by
  have e : L2.ixN (a :: b :: l).length 1 = some 1 := by unfold L2.ixN; rw [if_pos (by decide), if_pos (by simp only [List.length_cons]; omega)]; rfl
  unfold setK; simp only [e]; rfl
theorem setK_2 {n : Nat} {a b c d : D} {l : List D} : setK n 2 d S (some (.mu (.lst (a :: b :: c :: l)))) = .ok () ⟨S.sl, S.st.set n (.mu (.lst (a :: b :: d :: l)))⟩ := by
  have e : L2.ixN (a :: b :: c :: l).length 2 = some 2 := by unfold L2.ixN; rw [if_pos (by decide), if_pos (by simp only [List.length_cons]; omega)]; rfl
  unfold setK; simp only [e]; rfl
/-! == and other looks at lists -/
def dataK : Option Cell → Option PyData
  | some (.mu (.lst l)) => (toPyL l).map .list
  | some (.fz l) => (toPyL l).map .list
  | _ => none
theorem dataK_mu {l : List D} : dataK (some (.mu (.lst l))) = (toPyL l).map .list := Eq.trans rfl rfl
theorem dataR_p {d : D} : dataR (.p d) S = toPy d := Eq.trans rfl rfl
theorem dataR_r {n : Nat} : dataR (.r n) S = dataK S.st[n]? := by
  unfold dataR
  simp only
  rw [getLst_r]
  cases h : S.st[n]? with
  | none => rfl
  | some c => cases c with
    | mu o => cases o with
      | lst l => show (match toPyL l with | some xs => _ | none => _) = (toPyL l).map _; cases toPyL l <;> rfl
      | dct k => rfl
      | dt k => rfl
      | obj k f => rfl
    | fz l => show (match toPyL l with | some xs => _ | none => _) = (toPyL l).map _; cases toPyL l <;> rfl
    | dead => rfl
theorem opEqD_of {x y : R} {d e : PyData} (h1 : dataR x S = some d) (h2 : dataR y S = some e) (s1 : SeqAt.shaped d = true) (s2 : SeqAt.shaped e = true) : opEqD x y S = .ok (.p (.bl (PyData.eqv d e))) S := by
  unfold opEqD; simp only [h1, h2, s1, s2, and_self, if_true]
theorem opNeD_of {x y : R} {d e : PyData} (h1 : dataR x S = some d) (h2 : dataR y S = some e) (s1 : SeqAt.shaped d = true) (s2 : SeqAt.shaped e = true) : opNeD x y S = .ok (.p (.bl (!PyData.eqv d e))) S := by
  unfold opNeD; simp only [h1, h2, s1, s2, and_self, if_true]
theorem toPyL_ints : ∀ ns : List Int, toPyL (ns.map D.int) = some (ns.map PyData.int)
  | [] => rfl
  | n :: ns => by
    show toPyL (D.int n :: ns.map D.int) = _
    unfold toPyL
    rw [toPyL_ints ns]
    simp only [toPy]
    rfl
theorem eqvAll_ints : ∀ ns ms : List Int, PyData.eqvAll (ns.map PyData.int) (ms.map PyData.int) = decide (ns = ms)
  | [], [] => rfl
  | [], m :: ms => by simp [PyData.eqvAll]
  | n :: ns, [] => by simp [PyData.eqvAll]
  | n :: ns, m :: ms => by
    show (PyData.eqv (.int n) (.int m) && PyData.eqvAll (ns.map PyData.int) (ms.map PyData.int)) = _
    rw [eqvAll_ints ns ms]
    show (n == m && _) = _
    by_cases h1 : n = m <;> by_cases h2 : ns = ms <;> simp [h1, h2]
theorem canLay_ints : ∀ ns : List Int, PyData.canLayAll0 (ns.map PyData.int) = true
  | [] => rfl
  | n :: ns => by
    show (PyData.canLay0 (.int n) && PyData.canLayAll0 (ns.map PyData.int)) = true
    rw [canLay_ints ns]; rfl
theorem depth_ints : ∀ ns : List Int, PyData.depthAll (ns.map PyData.int) = 0
  | [] => rfl
  | n :: ns => by
    show max (PyData.depth (.int n)) (PyData.depthAll (ns.map PyData.int)) = 0
    rw [depth_ints ns]; rfl
theorem shaped_li (ns : List Int) : SeqAt.shaped (.list (ns.map PyData.int)) = true := by
  show (PyData.canLayAll0 (ns.map PyData.int) && decide (PyData.depthAll (ns.map PyData.int) + 1 ≤ 64)) = true
  rw [canLay_ints, depth_ints]; rfl
theorem dataK_ints {ns : List Int} : dataK (some (.mu (.lst (ns.map D.int)))) = some (.list (ns.map PyData.int)) := by rw [dataK_mu, toPyL_ints]; rfl
theorem opEqD_li {x y : R} {ns ms : List Int} (h1 : dataR x S = some (.list (ns.map PyData.int))) (h2 : dataR y S = some (.list (ms.map PyData.int))) : opEqD x y S = .ok (.p (.bl (decide (ns = ms)))) S := by
  rw [opEqD_of h1 h2 (shaped_li _) (shaped_li _)]
  show Res.ok (R.p (.bl (PyData.eqvAll _ _))) S = _
  rw [eqvAll_ints]
def allK : Option (List D) → Sg → Res R
  | some l, S => match blsOf l with
    | some bs => .ok (.p (.bl (bs.all id))) S
    | none => .bad
  | none, _ => .bad
theorem opAll_r {n : Nat} : opAll (.r n) S = allK (getLK S.st[n]?) S := by unfold opAll; rw [getLst_r]; cases getLK S.st[n]? <;> rfl
def sumK : Option (List D) → Sg → Res R
  | some l, S => match intsOf l with
    | some bs => .ok (.p (.int bs.sum)) S
    | none => .bad
  | none, _ => .bad
theorem opSum_r {n : Nat} : opSum (.r n) S = sumK (getLK S.st[n]?) S := by unfold opSum; rw [getLst_r]; cases getLK S.st[n]? <;> rfl
theorem sumK_ints {ns : List Int} : sumK (some (ns.map D.int)) S = .ok (.p (.int ns.sum)) S := by unfold sumK; simp only [intsOf_map]
def sortK : Option (List D) → Sg → Res R
  | some l, S => match intsOf l with
    | some ns => .ok (.r S.st.length) ⟨S.sl, S.st ++ [.mu (.lst ((sortI ns).map .int))]⟩
    | none => .bad
  | none, _ => .bad
theorem opSort_t {l : List D} : opSort (.p (.tup l)) S = sortK (some l) S := Eq.trans rfl rfl
theorem opSort_r {n : Nat} : opSort (.r n) S = sortK (getLK S.st[n]?) S := by unfold opSort; rw [getL_r]; cases getLK S.st[n]? <;> rfl
theorem opTuple_t {l : List D} : opTuple (.p (.tup l)) S = .ok (.p (.tup l)) S := Eq.trans rfl rfl
theorem opTuple_l {l : List D} : opTuple (.p (.lst l)) S = .ok (.p (.tup l)) S := Eq.trans rfl rfl
def tupK : Option (List D) → Sg → Res R
  | some l, S => .ok (.p (.tup l)) S
  | none, _ => .bad
theorem tupK_ap {l : List D} : tupK (some l) S = .ok (.p (.tup l)) S := Eq.trans rfl rfl
theorem opTuple_r {n : Nat} : opTuple (.r n) S = tupK (getLK S.st[n]?) S := by unfold opTuple; simp only; rw [getLst_r]; cases getLK S.st[n]? <;> rfl
theorem wipeS_ap {vs : List Nat} : wipeS S vs = ⟨wipeL S.sl vs, S.st⟩ := Eq.trans rfl rfl
theorem wipeL_nil {sl : List (Option R)} : wipeL sl [] = sl := Eq.trans rfl rfl
theorem wipeL_cons {sl : List (Option R)} {v : Nat} {vs : List Nat} : wipeL sl (v :: vs) = (wipeL sl vs).set v none := Eq.trans rfl rfl
theorem numbered_at : ∀ {l : List D} {k j : Nat} {d : List D}, (numbered k l)[j]? = some d → ∃ d', d = [.int ((k + j : Nat) : Int), d'] ∧ l[j]? = some d'
  | [], k, j, d, h => by simp [numbered] at h
  | x :: l, k, 0, d, h => by
    simp only [numbered, List.getElem?_cons_zero, Option.some.injEq] at h
    exact ⟨x, h.symm, rfl⟩
  | x :: l, k, j + 1, d, h => by
    simp only [numbered, List.getElem?_cons_succ] at h
    obtain ⟨d', e1, e2⟩ := numbered_at h
    exact ⟨d', by rw [e1]; congr 3; omega, e2⟩
def rngK1 : List R → Sg → Res (Itm D) := fun xs S => match asI1 xs with
    | some j => if -(2 ^ 62) ≤ j ∧ j < 2 ^ 62 then .ok ⟨fun _ => True, Dd.intsFrom 0 j.toNat⟩ S else .bad
    | none => .bad
theorem itR1_k (g : M (List R)) (S : Sg) : itR1 g S = (g S).bnd rngK1 := itR1_ap g S
theorem rngK1_i (h : -(2 ^ 62) ≤ i ∧ i < 2 ^ 62) : rngK1 [.p (.int i)] S = .ok ⟨fun _ => True, Dd.intsFrom 0 i.toNat⟩ S := if_pos h
theorem rngK1_n {d : Nat} (h : d ≤ 1000000) : rngK1 [.p (.int (d : Int))] S = .ok ⟨fun _ => True, Dd.intsFrom 0 d⟩ S := by
  have hh : -(2 ^ 62) ≤ (d : Int) ∧ (d : Int) < 2 ^ 62 := ⟨by omega, by omega⟩
  exact rngK1_i hh
theorem intsFrom_0 {lo : Int} : Dd.intsFrom lo 0 = [] := Eq.trans rfl rfl
theorem intsFrom_s {lo : Int} {n : Nat} : Dd.intsFrom lo (n + 1) = .int lo :: Dd.intsFrom (lo + 1) n := Eq.trans rfl rfl
/-! comprehensions -/
theorem lcE_ap {α : Type} (own ks : List Nat) (unp : α → Option (List D)) (it : M (Itm α)) (tt : M Bool) (f : M R) (S : Sg) : lcE own ks unp it tt f S = (it S).bnd fun I S => lcFin S (lcL I.ok (lcB own ks unp tt f) I.l [] (wipeS S own)) := by unfold lcE; rw [bind_bnd]
noncomputable def lcK {α : Type} (ok : Sg → Prop) (body : α → M (Option D)) (ds : List α) (acc : List D) : Option D → Sg → Res (List D)
  | none, S => lcL ok body ds acc S
  | some y, S => if acc.length < sizeLine then lcL ok body ds (acc ++ [y]) S else .bad
theorem lcL_nil' {α : Type} {ok : Sg → Prop} {body : α → M (Option D)} {acc : List D} (h : ok S) : lcL ok body [] acc S = .ok acc S := by unfold lcL; rw [if_pos h]
theorem lcL_cons {α : Type} {ok : Sg → Prop} {body : α → M (Option D)} {acc : List D} {d : α} {ds : List α} {S1 : Sg} {o : Option D} (h : ok S) (hb : body d S = .ok o S1) : lcL ok body (d :: ds) acc S = lcK ok body ds acc o S1 := by
  conv => lhs; unfold lcL
  rw [if_pos h, hb]
  cases o <;> rfl
/-- a comprehension whose turns leave the state as it is -/
theorem lcL_map {α : Type} {ok : Sg → Prop} {body : α → M (Option D)} {g : α → D} (hok : ok S) : ∀ (l : List α) (acc : List D), (∀ d ∈ l, body d S = .ok (some (g d)) S) → acc.length + l.length ≤ 1000000 → lcL ok body l acc S = .ok (acc ++ l.map g) S
  | [], acc, h, hl => by rw [lcL_nil' hok, List.map_nil, List.append_nil]
  | d :: ds, acc, h, hl => by
    rw [lcL_cons hok (h d List.mem_cons_self)]
    show (if acc.length < sizeLine then lcL ok body ds (acc ++ [g d]) S else .bad) = _
    rw [List.length_cons] at hl
    rw [if_pos (Nat.lt_of_lt_of_le (by omega : acc.length < 1000000) (by rw [sizeLine_eq]; decide))]
    rw [lcL_map hok ds (acc ++ [g d]) (fun x hx => h x (List.mem_cons_of_mem _ hx)) (by rw [List.length_append]; simp only [List.length_cons, List.length_nil]; omega)]
    rw [List.map_cons, List.append_assoc]; rfl
theorem lcL_mapf {α β : Type} {ok : Sg → Prop} {body : α → M (Option D)} {f : β → α} {g : β → D} (hok : ok S) : ∀ (l : List β) (acc : List D), (∀ d ∈ l, body (f d) S = .ok (some (g d)) S) → acc.length + l.length ≤ 1000000 → lcL ok body (l.map f) acc S = .ok (acc ++ l.map g) S
  | [], acc, h, hl => by rw [List.map_nil, lcL_nil' hok, List.map_nil, List.append_nil]
  | d :: ds, acc, h, hl => by
    rw [List.map_cons, lcL_cons hok (h d List.mem_cons_self)]
    show (if acc.length < sizeLine then lcL ok body (ds.map f) (acc ++ [g d]) S else .bad) = _
    rw [List.length_cons] at hl
    rw [if_pos (Nat.lt_of_lt_of_le (by omega : acc.length < 1000000) (by rw [sizeLine_eq]; decide))]
    rw [lcL_mapf hok ds (acc ++ [g d]) (fun x hx => h x (List.mem_cons_of_mem _ hx)) (by rw [List.length_append]; simp only [List.length_cons, List.length_nil]; omega)]
    rw [List.map_cons, List.append_assoc]; rfl
theorem setS_nil : setS S [] [] = S := Eq.trans rfl rfl
theorem setS_cons {k : Nat} {ks : List Nat} {d : D} {ds : List D} : setS S (k :: ks) (d :: ds) = setS ⟨S.sl.set k (some (.p d)), S.st⟩ ks ds := Eq.trans rfl rfl
theorem lcBT_ap {own ks : List Nat} {f : M R} {ds : List D} (h : ds.length = ks.length) : lcB own ks unpT tYesM f (.tup ds) S = (f (setS S ks ds)).bnd fun x S => (pure1 x S).bnd fun y S => .ok (some y) (wipeS S own) := by
  show (if ds.length = ks.length then _ else _ : Res (Option D)) = _
  rw [if_pos h]
  rfl
theorem lcBW_ap {own ks : List Nat} {f : M R} {ds : List D} (h : ds.length = ks.length) : lcB own ks unpW tYesM f ds S = (f (setS S ks ds)).bnd fun x S => (pure1 x S).bnd fun y S => .ok (some y) (wipeS S own) := by
  show (if ds.length = ks.length then _ else _ : Res (Option D)) = _
  rw [if_pos h]
  rfl
theorem lcFin_ok {S1 S' : Sg} {acc : List D} (h : acc.length ≤ 1000000) : lcFin S1 (.ok acc S') = .ok (.r S'.st.length) ⟨S1.sl, S'.st ++ [.mu (.lst acc)]⟩ := if_pos (Nat.le_trans h (by rw [sizeLine_eq]; decide))
theorem lcB1_ap {own : List Nat} {k : Nat} {f : M R} {x : D} : lcB own [k] unp1 tYesM f x S = (f ⟨S.sl.set k (some (.p x)), S.st⟩).bnd fun x S => (pure1 x S).bnd fun y S => .ok (some y) (wipeS S own) := Eq.trans rfl rfl
/-! bounds -/
theorem cdivw {j : Int} (h0 : 0 < j) (h : j < 2 ^ 1000) : CDivW i j := by
  refine ⟨h0, ?_⟩
  have h1 : j.natAbs < 2 ^ 1000 := by
    have : ((2 : Int) ^ 1000) = ((2 ^ 1000 : Nat) : Int) := by rw [Int.natCast_pow]; rfl
    rw [this] at h
    generalize (2 ^ 1000 : Nat) = z at *
    omega
  have h2 : j.natAbs ≠ 0 := by omega
  exact Nat.lt_trans ((Nat.log2_lt h2).mpr h1) (by decide)
/-- of at most so many bits -/
def Bt (n : Nat) (i : Int) : Prop := i.natAbs < 2 ^ n
theorem Bt.log2 {n : Nat} {i : Int} (h : Bt n i) : i.natAbs.log2 ≤ n := by
  by_cases h0 : i.natAbs = 0
  · rw [h0]; exact Nat.le_trans (by decide) (Nat.zero_le n)
  · exact Nat.le_of_lt ((Nat.log2_lt h0).mpr h)
theorem cmulw {n m : Nat} (h1 : Bt n i) (h2 : Bt m j) (h : n + m < 1000000 := by decide) : CMulW i j := Nat.lt_of_le_of_lt (Nat.add_le_add h1.log2 h2.log2) h
theorem cpoww {n : Nat} (h : Bt n i) (h0 : 0 ≤ j) (hz : ((n : Int) + 1) * j ≤ 2 ^ 27) : CPowW i j := ⟨h0, by
  have b : Builtin.Int.intBits i ≤ n + 1 := by
    have := h.log2
    unfold Builtin.Int.intBits; split <;> omega
  have : (Builtin.Int.intBits i : Int) * j ≤ ((n : Int) + 1) * j := Int.mul_le_mul_of_nonneg_right (by omega) h0
  omega⟩
theorem Bt.mono {n m : Nat} (h : Bt n i) (hm : n ≤ m) : Bt m i := Nat.lt_of_lt_of_le h (Nat.pow_le_pow_right (by decide) hm)
theorem Bt.of {n : Nat} (h : -(2 ^ n : Nat) < i ∧ i < (2 ^ n : Nat)) : Bt n i := by unfold Bt; omega
theorem cshl1 {j : Int} (h0 : 0 ≤ j) (h : j ≤ 1000000) : CShl 1 j := ⟨h0, by
  have : Builtin.Int.intBits 1 = 1 := by decide
  rw [this]; omega⟩
end
section
variable {st l : Store} {x y : Cell} {k n : Nat}
theorem take_self : st.take st.length = st := List.take_length
theorem take_app : (st ++ l).take st.length = st := List.take_left
theorem take_appk : (st ++ l).take (st.length + k) = st ++ l.take k := by rw [List.take_append, List.take_of_length_le (by omega)]; congr 2; omega
theorem get_app : (st ++ l)[st.length + k]? = l[k]? := by rw [List.getElem?_append_right (by omega)]; congr 1; omega
theorem get_app0 : (st ++ l)[st.length]? = l[0]? := by rw [List.getElem?_append_right (by omega)]; congr 1; omega
theorem set_app : (st ++ l).set (st.length + k) x = st ++ l.set k x := by rw [List.set_append_right _ _ (by omega)]; congr 2; omega
theorem set_app0 : (st ++ l).set st.length x = st ++ l.set 0 x := by rw [List.set_append_right _ _ (by omega)]; congr 2; omega
theorem take_set : (st.set n x).take st.length = st.set n x := by rw [← List.length_set (as := st) (i := n) (a := x)]; exact List.take_length
theorem take_set_app : (st.set n x ++ l).take st.length = st.set n x := by rw [← List.length_set (as := st) (i := n) (a := x)]; exact List.take_left
theorem get_set_app : (st.set n x ++ l)[st.length + k]? = l[k]? := by rw [← List.length_set (as := st) (i := n) (a := x)]; exact get_app
theorem get_set_app0 : (st.set n x ++ l)[st.length]? = l[0]? := by rw [← List.length_set (as := st) (i := n) (a := x)]; exact get_app0
theorem set_set_app : (st.set n x ++ l).set (st.length + k) y = st.set n x ++ l.set k y := by rw [← List.length_set (as := st) (i := n) (a := x)]; exact set_app
theorem set_set_app0 : (st.set n x ++ l).set st.length y = st.set n x ++ l.set 0 y := by rw [← List.length_set (as := st) (i := n) (a := x)]; exact set_app0
theorem get_old (h : st[n]? = some y) : (st ++ l)[n]? = some y := by rw [List.getElem?_append_left (List.getElem?_eq_some_iff.mp h).1]; exact h
theorem set_old (h : n < st.length) : (st ++ l).set n x = st.set n x ++ l := List.set_append_left _ _ h
end
section
variable {S : Sg} {α β : Type}
def augK (g : Int → Int → Int) (i : Nat) (x : Int) : R → Sg → Res Fl
  | .p (.int y), S => .ok .nx ⟨S.sl.set i (some (.p (.int (g x y)))), S.st⟩
  | _, _ => .bad
theorem augK_ap {g : Int → Int → Int} {i : Nat} {x y : Int} : augK g i x (.p (.int y)) S = .ok .nx ⟨S.sl.set i (some (.p (.int (g x y)))), S.st⟩ := Eq.trans rfl rfl
def augS (g : Int → Int → Int) (i : Nat) (f : M R) : Option (Option R) → Sg → Res Fl
  | some (some (.p (.int x))), S => (f S).bnd (augK g i x)
  | _, _ => .bad
theorem augS_ap {g : Int → Int → Int} {i : Nat} {f : M R} {x : Int} : augS g i f (some (some (.p (.int x)))) S = (f S).bnd (augK g i x) := Eq.trans rfl rfl
theorem sAug_ap (g : Int → Int → Int) (i : Nat) (f : M R) (S : Sg) : sAug g i f S = augS g i f S.sl[i]? S := by
  unfold sAug augS
  cases h : S.sl[i]? with
  | none => rfl
  | some o => cases o with
    | none => rfl
    | some r => cases r with
      | r n => rfl
      | p d => cases d with
        | int x =>
          show (match f S with | .ok (.p (.int y)) S1 => _ | .ok _ _ => _ | .exc z S1 => _ | .bad => _) = (f S).bnd _
          cases f S with
          | bad => rfl
          | exc z S1 => rfl
          | ok y S1 => cases y with
            | r n => rfl
            | p d => cases d <;> rfl
        | _ => rfl
theorem itR2L_k (g : M (List R)) (S : Sg) : itR2L g S = (g S).bnd rngL := by unfold itR2L; rw [bind_bnd]
theorem rngL_i {i j : Int} : rngL [.p (.int i), .p (.int j)] S = .ok ⟨fun _ => True, Dd.intsFrom i (j - i).toNat⟩ S := Eq.trans rfl rfl
theorem itR3_k (g : M (List R)) (S : Sg) : itR3 g S = (g S).bnd rng3 := by unfold itR3; rw [bind_bnd]
/-- x in l, both worked out -/
def inK (neg : Bool) (v : V) : Option (List D) → Sg → Res R
  | some l, S => (match flatL l with
    | some vs => .ok (.p (.bl (if neg then !inV v vs else inV v vs))) S
    | none => .bad)
  | none, _ => .bad
theorem opInG_i {neg : Bool} {i : Int} {y : R} : opInG neg (.p (.int i)) y S = inK neg (.int i) (getL y S) S := by unfold opInG inK; cases getL y S <;> rfl
theorem opInG_b {neg : Bool} {i : Bool} {y : R} : opInG neg (.p (.bl i)) y S = inK neg (.bl i) (getL y S) S := by unfold opInG inK; cases getL y S <;> rfl
theorem opInG_s {neg : Bool} {i : Str} {y : R} : opInG neg (.p (.str i)) y S = inK neg (.str i) (getL y S) S := by unfold opInG inK; cases getL y S <;> rfl
theorem opInG_n {neg : Bool} {y : R} : opInG neg (.p .non) y S = inK neg .non (getL y S) S := by unfold opInG inK; cases getL y S <;> rfl
theorem inK_ap {neg : Bool} {v : V} {l : List D} {vs : List V} (h : flatL l = some vs) : inK neg v (some l) S = .ok (.p (.bl (if neg then !inV v vs else inV v vs))) S := by unfold inK; simp only [h]
theorem opMaxL_e {x : R} : opMaxL x S = extK maxI S (getLst x S) := Eq.trans rfl rfl
theorem opMinL_e {x : R} : opMinL x S = extK minI S (getLst x S) := Eq.trans rfl rfl
theorem opBxor_i {i j : Int} : opBxor (.p (.int i)) (.p (.int j)) S = .ok (.p (.int (Builtin.bitXor i j))) S := Eq.trans rfl rfl
def starK (g : M (List R)) : Option (List D) → Sg → Res (List R)
  | some l, S => (g S).bnd fun ys S => .ok (ofD l ++ ys) S
  | none, _ => .bad
theorem starK_ap {g : M (List R)} {l : List D} : starK g (some l) S = (g S).bnd fun ys S => .ok (ofD l ++ ys) S := Eq.trans rfl rfl
theorem aS_ap (f : M R) (g : M (List R)) (S : Sg) : aS f g S = (f S).bnd fun x S => starK g (getL x S) S := by
  unfold aS
  rw [bind_bnd]
  refine bnd_ext fun x S1 => ?_
  cases getL x S1 with
  | none => rfl
  | some l => show (match g S1 with | .ok ys S2 => _ | .exc z S2 => _ | .bad => _) = (g S1).bnd _; cases g S1 <;> rfl
theorem pureL_p : ∀ (l : List D) (xs : List R) (S : Sg), pureL (ofD l ++ xs) S = (pureL xs S).bnd fun ds S => .ok (l ++ ds) S
  | [], xs, S => by
    show pureL xs S = _
    cases pureL xs S <;> rfl
  | d :: l, xs, S => by
    show pureL (.p d :: (ofD l ++ xs)) S = _
    rw [pureL_cons, pure1_p, bnd_ok, pureL_p l xs S]
    cases pureL xs S <;> rfl
/-- a while's first turn -/
def whK (t : M Bool) (h : M Fl) (n : Nat) : Fl → Sg → Res Fl
  | .nx, S => whileN t h n S
  | .ct, S => whileN t h n S
  | .bk, S => .ok .nx S
  | .rt x, S => .ok (.rt x) S
theorem whileN_t {t : M Bool} {h : M Fl} {n : Nat} {S S1 : Sg} (e : t S = .ok true S1) : whileN t h (n + 1) S = (h S1).bnd (whK t h n) := by
  show (match t S with | .ok true S1 => _ | .ok false S1 => _ | .exc x S1 => _ | .bad => _) = _
  rw [e]
  show (match h S1 with | .ok .nx S2 => _ | .ok .ct S2 => _ | .ok .bk S2 => _ | .ok (.rt x) S2 => _ | .exc x S2 => _ | .bad => _) = _
  cases h S1 with
  | bad => rfl
  | exc x S2 => rfl
  | ok f S2 => cases f <;> rfl
theorem whileN_f {t : M Bool} {h : M Fl} {n : Nat} {S S1 : Sg} (e : t S = .ok false S1) : whileN t h (n + 1) S = .ok .nx S1 := by
  show (match t S with | .ok true S1 => _ | .ok false S1 => _ | .exc x S1 => _ | .bad => _) = _
  rw [e]
end
end Dd

open Dd in
local macro_rules | `(tactic| simp! [$ls,*]) => `(tactic| simp only [bnd_ok, bnd_exc, bnd_bad, ifK_t, ifK_f, ifK_d, ifK_n, seqK_nx, seqK_rt, seqK_bk, seqK_ct, sSq_ap, sIf_ap, sRt_ap, sRtN_ap, sNx_ap, sBad_ap, sBk_ap, sCt_ap, sEx_ap, sSet_ap, sAsg_ap, sSub_ap, sPar_ap, sParK_ap, sPar3_ap, sParK3_ap, sFor_ap, sFld_ap, vr_ap, getK_ap, ci_ap, cb_ap, cn_ap, cs_ap, cd_ap, bin_ap, uNeg_ap, toB_ap, tst_ap, mNot_ap, mAnd_ap, mOr_ap, eAnd_ap, eOr_ap, eNot_ap, eIf_ap, eChain_ap, aN_ap, aC_ap, pur_ap, pure1_p, pure1_r, pureC_lst, pureC_fz, pureL_nil, pureL_cons, tupE_ap, lstE_ap, allocT_ap, allocL_ap, callM_ap, callK_ap, applyF_val, applyF_new, applyF_if, bnd_if, runF_ap, finish_nx, finish_p, finish_r, finish_if, makeU_ap, opA_ap, op1_ap, methM_ap, attrU_ap, attrK_scr, propU_ap, isB_ap, isC_ap, isCK_scr, itL_ap, itE_ap, itR1_k, rngK1_i, intsFrom_0, intsFrom_s, gN_ap, gsN_ap, gsC_ap, gT_ap, gL_ap, getL_tup, getL_lst, getL_scp, opAdd_i, opSub_i, opMod_i, opShr_i, opBand_i, opLt_i, opLe_i, opGt_i, opGe_i, opEqD_i, opNeD_i, opInt_i, opInt_b, isK_ii, isK_ib, isK_tt, isK_ll, getLK_mu, getLK_fz, getL_r, getLst_r, getLst_lst, getLst_scp, getM_r, getM_lst, opLen_t, opLen_l, opLen_c, opLen_r, lenK_ap, opIx_t, opIx_l, opIx_c, opIx_r, ixK'_ap, ixK_0, ixK_1, ixK_2, ixK_3, appK_ap, opApp_ap, opPopAt_ap, isLst_r', methK, setAt_ap, setK_0, setK_1, setK_2, lcE_ap, wipeS_ap, wipeL_nil, wipeL_cons, lcB1_ap, lcBT_ap, lcBW_ap, setS_nil, setS_cons, opAll_r, opSum_r, sumK_ints, opSort_t, opSort_r, opTuple_t, opTuple_l, opTuple_r, tupK_ap, Option.isSome_some, Int.reduceAdd, Int.reduceSub, Int.reduceMul, Int.reduceLT, Int.reduceLE, Int.reduceNeg, Int.reducePow, Int.reduceDiv, Int.reduceMod, Int.reduceToNat, Nat.reduceEqDiff, Int.cast_ofNat_Int, opAbs_i, opMax2_i, opMin2_i, sAug_ap, augS_ap, augK_ap, itR2L_k, rngL_i, itR3_k, opIn, opNotIn, opInG_i, opInG_b, opInG_s, opInG_n, opMaxL_e, opMinL_e, opBxor_i, aS_ap, starK_ap, pureL_p, List.map_cons, List.map_nil, List.length_cons, List.length_nil, List.cons_append, List.nil_append, List.append_assoc, List.replicate, List.set_cons_zero, List.set_cons_succ, List.set_nil, List.getElem?_cons_zero, List.getElem?_cons_succ, List.getElem?_nil, List.length_append, List.length_set, take_self, take_app, take_appk, List.take_succ_cons, List.take_zero, List.take_nil, get_app, get_app0, set_app, set_app0, take_set, take_set_app, get_set_app, get_set_app0, set_set_app, set_set_app0, List.set_set, Nat.reduceAdd, Nat.reduceSub, Nat.reduceMul, Nat.reduceLeDiff, Nat.reduceLT, Nat.zero_add, Nat.add_zero, Bool.not_true, Bool.not_false, Bool.not_not, if_true, if_false, ite_true, ite_false, eq_self_iff_true, decide_true, decide_false, Bool.true_and, Bool.false_and, Bool.and_true, Bool.and_false, reduceCtorEq, and_self, and_true, true_and, $ls,*])

set_option Elab.async false
set_option linter.all false
set_option maxRecDepth 100000
namespace Dd
open PySem PySem.Spec PyProof.Rows L2
/-! ### what holds behind a run -/
structure PkQ {α β : Type} (Q : α → β → Prop) : Type where
def Wp {α : Type} (r : Res α) (Q : α → Sg → Prop) (u : PkQ Q := ⟨⟩) : Prop := ∃ a S, r = .ok a S ∧ Q a S
def WpF (r : FRes) (Q : FR → Store → Prop) (u : PkQ Q := ⟨⟩) : Prop := ∃ a st, r = .ok a st ∧ Q a st
section
variable {α β : Type} {S : Sg} {Q : α → Sg → Prop} {QF : FR → Store → Prop}
theorem wp_ok {a : α} (h : Q a S) : Wp (.ok a S) Q := ⟨a, S, rfl, h⟩
theorem wp_bnd {r : Res β} {k : β → Sg → Res α} (h : Wp r fun b S => Wp (k b S) Q) : Wp (r.bnd k) Q := by
  obtain ⟨b, S1, e, a, S2, e2, q⟩ := h
  exact ⟨a, S2, by rw [e, bnd_ok, e2], q⟩
theorem wp_imp {r : Res α} {Q' : α → Sg → Prop} (h : Wp r Q) (k : ∀ a S, Q a S → Q' a S) : Wp r Q' := by
  obtain ⟨a, S, e, q⟩ := h
  exact ⟨a, S, e, k a S q⟩
theorem wp_fin {r : Res Fl} {b : Nat} (h : Wp r fun f S => WpF (finish b (.ok f S)) QF) : WpF (finish b r) QF := by
  obtain ⟨f, S, e, q⟩ := h
  rw [e]; exact q
theorem bnd_bnd {γ : Type} {r : Res γ} {k : γ → Sg → Res β} {k' : β → Sg → Res α} : (r.bnd k).bnd k' = r.bnd fun a S => (k a S).bnd k' := by cases r <;> rfl
theorem wpf_bnd {r : Res β} {k : β → Sg → Res Fl} {b : Nat} (h : Wp r fun a S => WpF (finish b (k a S)) QF) : WpF (finish b (r.bnd k)) QF := by
  obtain ⟨a, S, e, q⟩ := h
  rw [e, bnd_ok]; exact q
theorem wpf_ok {a : FR} {st : Store} (h : QF a st) : WpF (.ok a st) QF := ⟨a, st, rfl, h⟩
/-- a loop by its invariant; an early return by Q -/
theorem wp_loop {ok : Sg → Prop} {body : β → M Fl} {l : List β} {Q : Fl → Sg → Prop} (I : Nat → Sg → Prop) (h0 : I 0 S) (hok : ∀ j S, I j S → ok S)
    (hs : ∀ j d S, l[j]? = some d → I j S → Wp (body d S) fun f S' => match f with
      | .nx => I (j + 1) S'
      | .ct => I (j + 1) S'
      | .bk => Q .nx S'
      | .rt x => Q (.rt x) S')
    (hd : ∀ S, I l.length S → Q .nx S) : Wp (loopL ok body l S) Q := by
  have gen : ∀ (l' : List β) (i : Nat) (S : Sg), i + l'.length = l.length → (∀ j d, l'[j]? = some d → l[i + j]? = some d) → I i S → Wp (loopL ok body l' S) Q := by
    intro l'
    induction l' with
    | nil =>
      intro i S hi hl hI
      refine ⟨.nx, S, loopL_nil (hok _ _ hI), hd S ?_⟩
      rw [← hi]; exact hI
    | cons d ds ih =>
      intro i S hi hl hI
      rw [loop_cons (hok _ _ hI)]
      refine wp_bnd (wp_imp (hs i d S (hl 0 d rfl) hI) fun f S' q => ?_)
      have go : I (i + 1) S' → Wp (loopL ok body ds S') Q := fun q => ih (i + 1) S' (by rw [List.length_cons] at hi; omega) (fun j d' hj => by
        have := hl (j + 1) d' (by simpa using hj)
        rwa [show i + (j + 1) = i + 1 + j by omega] at this) q
      cases f with
      | nx => exact go q
      | ct => exact go q
      | bk => exact wp_ok q
      | rt x => exact wp_ok q
  exact gen l 0 S (by omega) (fun j d hj => by rw [Nat.zero_add]; exact hj) h0
/-- a while by its invariant with a measure -/
theorem wp_while {t : M Bool} {h : M Fl} {Q : Fl → Sg → Prop} (I : Nat → Sg → Prop) (m : Nat) (h0 : I m S)
    (hs : ∀ m S, I m S → Wp (t S) fun b S1 => if b = true then Wp (h S1) (fun f S' => match f with
      | .nx => ∃ m', m' < m ∧ I m' S'
      | .ct => ∃ m', m' < m ∧ I m' S'
      | .bk => Q .nx S'
      | .rt x => Q (.rt x) S') else Q .nx S1) : Wp (sWhile t h S) Q := by
  have gen : ∀ (m : Nat) (S : Sg), I m S → ∃ f S', whileN t h (m + 1) S = .ok f S' ∧ Q f S' := by
    intro m
    induction m using Nat.strongRecOn with
    | ind m ih =>
      intro S hI
      obtain ⟨b, S1, e, q⟩ := hs m S hI
      cases b with
      | false => exact ⟨.nx, S1, whileN_f e, q⟩
      | true =>
        obtain ⟨f, S2, e2, q⟩ : Wp (h S1) _ := q
        have go : (∃ m', m' < m ∧ I m' S2) → ∃ f S', whileN t h m S2 = .ok f S' ∧ Q f S' := fun ⟨m', hm, hI'⟩ => by
          obtain ⟨f, S', e3, q3⟩ := ih m' hm S2 hI'
          exact ⟨f, S', by rw [whileN_mono (n := m' + 1) (by rw [e3]; intro z; cases z) m (by omega)]; exact e3, q3⟩
        rw [whileN_t e, e2, bnd_ok]
        cases f with
        | nx => exact go q
        | ct => exact go q
        | bk => exact ⟨.nx, S2, rfl, q⟩
        | rt x => exact ⟨.rt x, S2, rfl, q⟩
  obtain ⟨f, S', e, q⟩ := gen m S h0
  exact ⟨f, S', sWhile_of e (by intro z; cases z), q⟩
/-- a comprehension -/
theorem wp_lc {ok : Sg → Prop} {body : β → M (Option D)} {l : List β} {Q : List D → Sg → Prop} (I : Nat → List D → Sg → Prop) (h0 : I 0 [] S) (hok : ∀ j acc S, I j acc S → ok S) (hl : l.length ≤ 1000000)
    (hs : ∀ j d acc S, l[j]? = some d → acc.length ≤ j → I j acc S → Wp (body d S) fun o S' => match o with
      | some y => I (j + 1) (acc ++ [y]) S'
      | none => I (j + 1) acc S')
    (hd : ∀ acc S, I l.length acc S → Q acc S) : Wp (lcL ok body l [] S) Q := by
  have gen : ∀ (l' : List β) (i : Nat) (acc : List D) (S : Sg), i + l'.length = l.length → acc.length ≤ i → (∀ j d, l'[j]? = some d → l[i + j]? = some d) → I i acc S → Wp (lcL ok body l' acc S) Q := by
    intro l'
    induction l' with
    | nil =>
      intro i acc S hi ha hl hI
      refine ⟨acc, S, lcL_nil' (hok _ _ _ hI), hd acc S ?_⟩
      rw [← hi]; exact hI
    | cons d ds ih =>
      intro i acc S hi ha hl' hI
      rw [List.length_cons] at hi
      obtain ⟨o, S1, e, q⟩ := hs i d acc S (hl' 0 d rfl) ha hI
      rw [lcL_cons (hok _ _ _ hI) e]
      have nx : ∀ j d', ds[j]? = some d' → l[i + 1 + j]? = some d' := fun j d' hj => by
        have := hl' (j + 1) d' (by simpa using hj)
        rwa [show i + (j + 1) = i + 1 + j by omega] at this
      cases o with
      | none => exact ih (i + 1) acc S1 (by omega) (by omega) nx q
      | some y =>
        show Wp (if acc.length < sizeLine then lcL ok body ds (acc ++ [y]) S1 else .bad) Q
        rw [if_pos (Nat.lt_of_lt_of_le (by omega : acc.length < 1000000 + 1) (by rw [sizeLine_eq]; decide))]
        exact ih (i + 1) (acc ++ [y]) S1 (by omega) (by rw [List.length_append]; simp only [List.length_cons, List.length_nil]; omega) nx q
  exact gen l 0 [] S (by omega) (Nat.le_refl _) (fun j d hj => by rw [Nat.zero_add]; exact hj) h0
theorem wp_lcFin {S1 : Sg} {r : Res (List D)} {Q : R → Sg → Prop} (h : Wp r fun acc S' => acc.length ≤ 1000000 ∧ Q (.r S'.st.length) ⟨S1.sl, S'.st ++ [.mu (.lst acc)]⟩) : Wp (lcFin S1 r) Q := by
  obtain ⟨acc, S', e, hl, q⟩ := h
  exact ⟨_, _, by rw [e, lcFin_ok hl], q⟩
end
end Dd

set_option Elab.async false
set_option linter.all false
set_option maxRecDepth 100000
namespace Dd
open PySem PySem.Spec PyProof.Rows L2
section
variable {X : Cx} {c : Cg} {W : WX} {Γ : Gh} {G : Hp} {o a b e e4 : Expr} {es : List Expr} {f fa fb fc fd : M R} {g : M (List R)} {pos pos' p p' apos : Pos} {S : Sg}
/-! ### list(range(n)) -/
/-! ### a op b op c op d -/
/-! ### list.count of ints, list.extend by a list -/
/-! ### in a list of data -/
/-! ### tuples put together -/
/-! ### a method of a screen -/
end
end Dd

set_option Elab.async false
set_option linter.all false
set_option maxRecDepth 100000
namespace Dd
open PySem PySem.Spec PyProof.Rows L2
section
variable {X : Cx} {c : Cg} {W : WX} {a b e o : Expr} {f fa fb : M R} {g : M (List R)} {pos p apos : Pos} {k n : Nat} {F : Fn} {fA : Addr} {fd : FuncData} {ps : List Str}
/-! ### an own == -/
/-! ### a module's tuple of ints and texts -/
/-! ### attributes and methods of an object in a cell -/
/-! ### {} -/
def edE : M R := fun S => .ok (.r S.st.length) { S with st := S.st ++ [.mu (.dct [])] }
theorem edE_ap (S : Sg) : edE S = .ok (.r S.st.length) ⟨S.sl, S.st ++ [.mu (.dct [])]⟩ := Eq.trans rfl rfl
theorem se_edct : PE X (.Dict [] [] pos) (rdE c W edE) := se_of pe_dnewK fun σ H Q q => by
  obtain ⟨Γ, S, F, P⟩ := q
  intro p hp
  have le : Γ.le { Γ with ρ := Γ.ρ ++ [p] } := ⟨Ext.refl, rfl, [p], rfl⟩
  refine Post.ok (c := c) (W := W) P le (F.of le (F.s.newC hp ⟨rfl, rfl⟩)) _ ⟨p, ?_, rfl⟩
  show (Γ.ρ ++ [p])[S.st.length]? = some p
  rw [F.s.len]; simp
theorem pureC_dct {n : Nat} {S : Sg} : pureC n S (some (.mu (.dct []))) = .ok .edct { S with st := S.st.set n .dead } := Eq.trans rfl rfl
end
end Dd

set_option Elab.async false
set_option linter.all false
set_option maxRecDepth 100000
namespace Dd
open PySem PySem.Spec PyProof.Rows L2
open PySem.W (dataLt minD keyToks keyToksAll AlikeAll alike alikeAll)
/-! ### min of a list of pairs of ints -/
section
variable {X : Cx} {c : Cg} {W : WX} {a : Expr} {f : M R} {pos p : Pos}
end
/-! ### min of a tuple of ints -/
section
variable {X : Cx} {c : Cg} {W : WX} {a : Expr} {f : M R} {pos p : Pos}
end
/-! ### zip of two lists -/
section
variable {X : Cx} {c : Cg} {W : WX} {e e2 : Expr} {f f2 : M R} {pos p tpos : Pos} {elts : List Expr} {kk : Nat}
end
end Dd

set_option Elab.async false
set_option linter.all false
set_option maxRecDepth 100000
namespace Dd
open PySem PySem.Spec PyProof.Rows L2
/-! ### xs[::-1] -/
section
variable {X : Cx} {c : Cg} {W : WX} {e stp : Expr} {f : M R} {s : M (Option Int)} {pos p2 : Pos}
end
/-! ### list.count of texts -/
section
variable {X : Cx} {c : Cg} {W : WX} {o a : Expr} {f fa : M R} {apos : Pos}
end
end Dd

set_option Elab.async false
set_option linter.all false
set_option maxRecDepth 100000
namespace Dd
open PySem PySem.Spec PyProof.Rows L2
/-! ### a thing of one's own, kept aside while others are made -/
section
variable {c : Cg} {W : WX} {Γ : Gh} {S : Sg} {σ : L2.St} {H : Hp} {p : Addr} {o o' : HO}
theorem StOk.dropL {st : Store} {L : Hp} (F : StOk c Γ st H) (e : Ext L Γ.L) : StOk c { Γ with L := L } st H where
  g := F.g
  l := e.trans F.l
  gl := fun a u h => F.gl a u (e _ _ h)
  len := F.len
  cell := fun n x a e1 e2 => by
    have q := F.cell n x a e1 e2
    cases x with
    | mu u =>
      obtain ⟨w, h1, h2, h3, h4⟩ := q
      refine ⟨w, h1, ?_, h3, Ext.none e h4⟩
      cases u with
      | lst l => exact h2
      | dct kvs => exact h2
      | dt kvs => exact h2
      | obj k fs => exact h2
    | fz l => exact q
    | dead => trivial
  inj := F.inj
theorem RepR.L {L : Hp} : ∀ {x : R} {v : V}, RepR c { Γ with L := L } x v ↔ RepR c Γ x v
  | .p _, _ => Iff.rfl
  | .r _, _ => Iff.rfl
theorem FrOk.dropL {L : Hp} (F : FrOk c Γ S σ H) (e : Ext L Γ.L) : FrOk c { Γ with L := L } S σ H := ⟨F.s.dropL e, F.len, fun i x h => let ⟨v, h1, h2⟩ := F.sl i x h; ⟨v, h1, RepR.L.mpr h2⟩⟩
/-- a wish, with more kept -/
theorem Post.keep {α : Type} {r : Res α} {K : α → Sg → Gh → Hp → Prop} {L : Hp} (P : Post c W σ Γ r K) (e : Ext Γ.L L) : Post c W σ { Γ with L := L } r fun a S' Γ' H' => Γ'.L = L ∧ K a S' { Γ' with L := Γ.L } H' := by
  cases r with
  | ok a S1 =>
    intro Γ' H' le F
    have hL : Γ'.L = L := le.l
    refine ⟨hL, P { Γ' with L := Γ.L } H' ⟨le.g, rfl, le.r⟩ (F.dropL (by rw [hL]; exact e))⟩
  | exc x S1 =>
    intro Γ' H' cls dd le F q
    have hL : Γ'.L = L := le.l
    exact P { Γ' with L := Γ.L } H' cls dd ⟨le.g, rfl, le.r⟩ (F.dropL (by rw [hL]; exact e)) q
  | bad => exact P
theorem Post.keepB {α β : Type} {f : M α} {g : α → M β} {K : β → Sg → Gh → Hp → Prop} {L0 L : Hp} (P : Post c W σ { Γ with L := L0 } ((f >>= g) S) K) (hL : Γ.L = L) (e : Ext L0 L) :
    Post c W σ Γ (f S) fun a S' Γ' H' => Γ'.L = L ∧ Post c W σ { Γ' with L := L0 } (g a S') K := by
  have k := Post.keep (L := L) (Post.bind P) e
  have eG : ({ ({ Γ with L := L0 } : Gh) with L := L } : Gh) = Γ := by rw [← hL]
  rw [eG] at k
  exact k.imp fun a S' Γ' H' le F h => ⟨h.1, h.2.2⟩
end
/-! ### {a: b, c: d}.get(x, y), all ints -/
section
variable {X : Cx} {c : Cg} {W : WX} {k1 v1 k2 v2 e f : Expr} {fa fb fc fd fx fy : M R} {pos cpos apos : Pos} {u1 u2 : Option Expr}
end
end Dd

set_option Elab.async false
set_option linter.all false
set_option maxRecDepth 100000
namespace Dd
open PySem PySem.Spec PyProof.Rows L2
/-! ### texts: join, split, sorted, int, str, a loop over signs -/
section
variable {X : Cx} {c : Cg} {W : WX} {o a e : Expr} {f fa : M R} {apos pos p : Pos} {tg : Expr}
end
end Dd

set_option Elab.async false
set_option linter.all false
set_option maxRecDepth 100000
namespace Dd
open PySem PySem.Spec PyProof.Rows L2
/-! ### sorted of a text -/
section
variable {X : Cx} {c : Cg} {W : WX} {a : Expr} {f : M R} {p pos : Pos}
end
end Dd

set_option Elab.async false
set_option linter.all false
set_option maxRecDepth 100000
namespace Dd
open PySem PySem.Spec PyProof.Rows L2
open PySem.W (dataLe EachIs AllAlike Sortable)
/-! ### sorted of a list of pairs of ints -/
section
variable {X : Cx} {c : Cg} {W : WX} {a : Expr} {f : M R} {pos p : Pos}
end
end Dd

set_option Elab.async false
set_option linter.all false
set_option maxRecDepth 100000
namespace Dd
open PySem PySem.Spec PyProof.Rows L2
/-! ### text.count, text[::-1] -/
section
variable {X : Cx} {c : Cg} {W : WX} {o a e stp : Expr} {f fa : M R} {s : M (Option Int)} {apos pos p2 : Pos}
end
/-! ### an int as a test -/
section
variable {X : Cx} {c : Cg} {W : WX} {e : Expr} {f : M R}
end
end Dd

set_option Elab.async false
set_option linter.all false
set_option maxRecDepth 100000
namespace Dd
open PySem PySem.Spec PyProof.Rows L2
mutual
/-- without texts the hash does not depend on the world -/
theorem hash_plain (w w' : World) : ∀ k : NestedKey, noTxt k = true → k.hash w = k.hash w'
  | .none, _ => rfl
  | .num i, _ => rfl
  | .text x, h => by simp [noTxt] at h
  | .tup ks, h => by
    have h : noTxts ks = true := by simpa [noTxt] using h
    show reduceHash (Builtin.Tuple.tupleHashOf (NestedKey.hashes w ks)) = reduceHash (Builtin.Tuple.tupleHashOf (NestedKey.hashes w' ks))
    rw [hashes_plain w w' ks h]
theorem hashes_plain (w w' : World) : ∀ ks : List NestedKey, noTxts ks = true → NestedKey.hashes w ks = NestedKey.hashes w' ks
  | [], _ => rfl
  | k :: ks, h => by
    have h : (noTxt k && noTxts ks) = true := by simpa [noTxts] using h
    rw [Bool.and_eq_true] at h
    show NestedKey.hash w k :: NestedKey.hashes w ks = NestedKey.hash w' k :: NestedKey.hashes w' ks
    rw [hash_plain w w' k h.1, hashes_plain w w' ks h.2]
end
mutual
theorem nested_of {X : Cx} {c : Cg} {G : Hp} {pins : List (Addr × Obj)} {σ : L2.St} {H : Hp} {s : Shared} (hK : X.K = c.K) (I : Inv X pins σ H s) (hG : Ext G H) : ∀ (d : D) (v : V) (u : Value) (k : NestedKey), Rep c G d v → nkD d = some k → RelV v u → NestedIs s.heap k u
  | .int i, v, u, k, h, e, r => by
    have hv := Rep.int_iff.mp h
    subst hv
    obtain ⟨t, rfl⟩ := r
    have e : some (NestedKey.num i) = some k := by rw [← e]; unfold nkD; rfl
    cases e
    exact .int i t
  | .bl b, v, u, k, h, e, r => by
    have hv := Rep.bl_iff.mp h
    subst hv
    cases r
    have e : some (NestedKey.num (if b = true then 1 else 0)) = some k := by rw [← e]; unfold nkD; rfl
    cases e
    exact .bool rfl
  | .tup l, v, u, k, h, e, r => by
    obtain ⟨a, vs, rfl, ht, hl⟩ := Rep.tup_iff.mp h
    cases r
    unfold nkD at e
    cases q : nkL l with
    | none => rw [q] at e; cases e
    | some ks =>
      rw [q] at e
      cases e
      obtain ⟨its, rv, ⟨o, ho, hc, n, hd⟩, _⟩ := I.tuple (hK ▸ (TupS.mono hG ht).sq)
      exact .tup ho hc hd (by rw [List.toList_toArray]; exact nested_all hK I hG l vs its ks hl q rv)
  | .non, _, _, _, _, e, _ => by unfold nkD at e; cases e
  | .str _, _, _, _, _, e, _ => by unfold nkD at e; cases e
  | .lst _, _, _, _, _, e, _ => by unfold nkD at e; cases e
  | .edct, _, _, _, _, e, _ => by unfold nkD at e; cases e
  | .scp _, _, _, _, _, e, _ => by unfold nkD at e; cases e
  | .scr _, _, _, _, _, e, _ => by unfold nkD at e; cases e
  | .exn _ _, _, _, _, _, e, _ => by unfold nkD at e; cases e
theorem nested_all {X : Cx} {c : Cg} {G : Hp} {pins : List (Addr × Obj)} {σ : L2.St} {H : Hp} {s : Shared} (hK : X.K = c.K) (I : Inv X pins σ H s) (hG : Ext G H) : ∀ (ds : List D) (vs : List V) (us : List Value) (ks : List NestedKey), RepL c G ds vs → nkL ds = some ks → Vals vs us → NestedAll s.heap ks us
  | [], vs, us, ks, h, e, r => by
    rw [RepL.nil_iff.mp h] at r
    cases r
    unfold nkL at e
    cases e
    exact .nil
  | d :: ds, vs, us, ks, h, e, r => by
    obtain ⟨v, rr, rfl, h1, h2⟩ := RepL.cons_iff.mp h
    cases r with
    | cons r1 r2 =>
      unfold nkL at e
      cases q : nkD d with
      | none => rw [q] at e; cases e
      | some k =>
        rw [q] at e
        simp only at e
        cases q2 : nkL ds with
        | none => rw [q2] at e; cases e
        | some ks' =>
          rw [q2] at e
          cases e
          exact .cons (nested_of hK I hG d v _ k h1 q r1) (nested_all hK I hG ds rr _ ks' h2 q2 r2)
end
theorem RawAt.same {w0 : World} {d : Addr} {xs : List (NestedKey × Addr × Value)} {ep : Nat} {h h' : Heap} (x : RawAt w0 d xs ep h) (e : ∀ o, h.get? d = some o → h'.get? d = some o) : RawAt w0 d xs ep h' := by
  obtain ⟨z, m, o, es, h1, h2⟩ := x
  exact ⟨z, m, o, es, e o h1, h2⟩
/-- the entries seen by the kit's rules .. -/
theorem RawAt.dict {prog : Program} {w w0 : World} {d : Addr} {xs : List (NestedKey × Addr × Value)} {ep : Nat} {h : Heap} (x : RawAt w0 d xs ep h) (hk : ∀ x ∈ xs, noTxt x.1 = true ∧ NestedIs h x.1 (.ref x.2.1) ∧ x.1.depth ≤ 8) : h.DictOfH (nestedKind prog w) d xs := by
  obtain ⟨_, _, o, es, h1, h2, h3, h4, h5⟩ := x
  refine ⟨o, es, ep, h1, h2, h3, ?_, fun y hy => ⟨(hk y hy).2.1, (hk y hy).2.2⟩, h5⟩
  rw [h4]
  refine List.map_congr_left fun y hy => ?_
  show (⟨y.1.hash w0, .ref y.2.1, y.2.2⟩ : DictEntry) = ⟨y.1.hash w, .ref y.2.1, y.2.2⟩
  rw [hash_plain w0 w y.1 (hk y hy).1]
/-- .. and back -/
theorem RawAt.of {prog : Program} {w w0 : World} {d : Addr} {xs : List (NestedKey × Addr × Value)} {h : Heap} (z : xs.length ≤ sizeLine) (m : (d == sysModules) = false) (x : h.DictOfH (nestedKind prog w) d xs) (hk : ∀ x ∈ xs, noTxt x.1 = true) : ∃ ep, RawAt w0 d xs ep h := by
  obtain ⟨o, es, ep, h1, h2, h3, h4, h5, h6⟩ := x
  refine ⟨ep, z, m, o, es, h1, h2, h3, ?_, h6⟩
  rw [h4]
  refine List.map_congr_left fun y hy => ?_
  show (⟨y.1.hash w, .ref y.2.1, y.2.2⟩ : DictEntry) = ⟨y.1.hash w0, .ref y.2.1, y.2.2⟩
  rw [hash_plain w w0 y.1 (hk y hy)]
theorem raw_held {X : Cx} {pins : List (Addr × Obj)} {σ : L2.St} {H : Hp} {s : Shared} {w0 : World} {d : Addr} {xs : List (NestedKey × Addr × Value)} {ep : Nat} (I : Inv X pins σ H s) (h : H d = some (rawD w0 d xs ep)) : RawAt w0 d xs ep s.heap := by
  have x : ObjOk X.prog X.w H s.heap d (.ext (RawAt w0 d xs ep)) := I.hok d _ h
  exact x.1
theorem raw_ok {P : Program} {w w0 : World} {H : Hp} {h : Heap} {d : Addr} {xs : List (NestedKey × Addr × Value)} {ep : Nat} (x : RawAt w0 d xs ep h) : ObjOk P w H h d (rawD w0 d xs ep) := by
  have x' := x
  obtain ⟨_, _, o, es, h1, h2⟩ := x'
  exact ⟨x, ⟨o, h1⟩, fun a b q e => q.same e⟩
/-- the keys are what they are -/
def KeysOk (h : Heap) (xs : List (NestedKey × Addr × Value)) : Prop := ∀ x ∈ xs, noTxt x.1 = true ∧ NestedIs h x.1 (.ref x.2.1) ∧ x.1.depth ≤ 8
section
variable {X : Cx} {pins : List (Addr × Obj)} {σ : L2.St} {H : Hp} {s : Shared} {A : Around} {E : Value → Shared → Prop} {w0 : World} {a b : Addr} {xs : List (NestedKey × Addr × Value)} {ep : Nat} {k : NestedKey}
/-- d.get(k, x) -/
theorem raw_get2 {r : Value} {Q : Value → Shared → Prop} (hu : A.in1.units + 8 < cLine) (I : Inv X pins σ H s) (hd : H a = some (rawD w0 a xs ep)) (hk : KeysOk s.heap xs) (kb : NestedIs s.heap k (.ref b)) (k8 : k.depth ≤ 8)
    (h : ∀ s', Inv X pins σ H s' → Q (((atKey xs k).map (·.2)).getD r) s') : wpAny (model X.prog X.w) A (call (.builtin "dict.get") [.ref a, .ref b, r]) Q E s := by
  have rw1 := raw_held I hd
  have dd := rw1.dict (prog := X.prog) (w := X.w) hk
  exact call_meetsIn PySem.F.slot_dict_get dd.typeIs PySem.F.entry_dict_get (PySem.F.args_dict_get_3 _ _ _) (meetsH_dict_get_default (nestedKind X.prog X.w) a b rw1.2.1 r) ⟨hu, k, xs, ⟨kb, k8⟩, dd, h _ (I.tok _)⟩
/-- a dict's entries are written -/
theorem raw_write {h' : Heap} {t' : Nat} {ys : List (NestedKey × Addr × Value)} (I : Inv X pins σ H s) (hd : H a = some (rawD w0 a xs ep)) (hs : Heap.SameBut a s.heap h') (dd' : h'.DictOfH (nestedKind X.prog X.w) a ys) (hl : ys.length ≤ sizeLine) (nt : ∀ x ∈ ys, noTxt x.1 = true) :
    ∃ ep', Inv X pins σ (upd H a (rawD w0 a ys ep')) { s with heap := h', toks := t' } := by
  have rw1 := raw_held I hd
  have he : ∃ q, h'.get? a = some q := let ⟨q, _, _, hq, _⟩ := dd'; ⟨q, hq⟩
  obtain ⟨ep', ra⟩ := RawAt.of (w0 := w0) hl rw1.2.1 dd' nt
  exact ⟨ep', d_write I (by rw [hd]; exact True.intro) hs he (raw_ok ra)⟩
/-- d[k] = v -/
theorem raw_set {r : Value} {Q : Unit → Shared → Prop} (hu : A.in1.units + 8 < cLine) (I : Inv X pins σ H s) (hd : H a = some (rawD w0 a xs ep)) (hk : KeysOk s.heap xs) (kb : NestedIs s.heap k (.ref b)) (k8 : k.depth ≤ 8) (kn : noTxt k = true) (hl : (storedH xs k b r).length ≤ sizeLine)
    (h : ∀ s' ep', Inv X pins σ (upd H a (rawD w0 a (storedH xs k b r) ep')) s' → Q () s') : wpAny (model X.prog X.w) A (setItem (.ref a) (.ref b) r) Q E s := by
  have rw1 := raw_held I hd
  have dd := rw1.dict (prog := X.prog) (w := X.w) hk
  refine wpAny_setItem_heap (knd := nestedKind X.prog X.w) (hsz := rw1.1) hu ⟨kb, k8⟩ dd fun h' dd' hs => ?_
  have nt : ∀ x ∈ storedH xs k b r, noTxt x.1 = true := fun x hx => by
    unfold storedH at hx
    split at hx
    · obtain ⟨y, hy, rfl⟩ := List.mem_map.mp hx
      have e : (putAt k r y).1 = y.1 := by unfold putAt; split <;> rfl
      rw [e]; exact (hk y hy).1
    · rcases List.mem_append.mp hx with h | h
      · exact (hk x h).1
      · rw [List.mem_singleton.mp h]; exact kn
  obtain ⟨ep', I'⟩ := raw_write (t' := s.toks + (nestedKind X.prog X.w).draws k) I hd hs dd' hl nt
  exact h _ ep' I'
end
/-- {} -/
theorem raw_empty (prog : Program) (w w0 : World) (h : Heap) (hb : sysModules < h.objs.size) : ∃ ep, RawAt w0 h.objs.size [] ep (h.push { cls := .type "dict", data := .dict #[] }) :=
  RawAt.of (prog := prog) (w := w) (Nat.zero_le _) (beq_eq_false_iff_ne.mpr (Nat.ne_of_gt hb)) (Heap.DictOfH.new h) fun x hx => by simp at hx
/-- what get asks: the keys stand at any time that the heap is held -/
def GetN (X : Cx) (H : Hp) (w0 : World) (a b : Addr) (xs : List (NestedKey × Addr × Value)) (ep : Nat) (k : NestedKey) : Prop :=
  H a = some (rawD w0 a xs ep) ∧ k.depth ≤ 8 ∧ noTxt k = true ∧ ∀ (pins : List (Addr × Obj)) (σ : L2.St) (s : Shared), Inv X pins σ H s → KeysOk s.heap xs ∧ NestedIs s.heap k (.ref b)
theorem raw_at {X : Cx} {pins : List (Addr × Obj)} {σ : L2.St} {H : Hp} {s : Shared} {w0 : World} {a : Addr} {xs : List (NestedKey × Addr × Value)} {ep : Nat} (I : Inv X pins σ H s) (hd : H a = some (rawD w0 a xs ep)) :
    s.TypeIs (.ref a) "dict" ∧ (∀ b, Value.ref a = .ref b → ∃ ob, s.heap.get? b = some ob ∧ ob.dict = none) := by
  obtain ⟨_, _, o, es, h1, ⟨h2, h3, h4⟩, _⟩ := raw_held I hd
  exact ⟨⟨o, h1, h2⟩, fun b hb => by cases hb; exact ⟨o, h1, by assumption⟩⟩
section
variable {X : Cx} {o e f i value : Expr} {pos pos' apos cpos : Pos} {td ty tx tv : TE}
theorem pe_dnewN (w0 : World) : PE X (.Dict [] [] pos) (fun _ H Q => ∀ p ep, H p = none → Q (.ref p) (upd H p (rawD w0 p [] ep))) := ⟨fun pins s σ H Q I h => by
  obtain ⟨ep, ra⟩ := raw_empty X.prog X.w w0 s.heap I.big
  exact wpAny_Dict_empty ⟨.ref s.heap.objs.size, _, I.laid (a := s.heap.objs.size) (o := rawD w0 s.heap.objs.size [] ep) (t' := s.toks) (fun _ _ q => Heap.get?_push_of_some _ q) (Nat.le_refl _) (raw_ok ra), rfl, h _ ep (I.hok.fresh (Nat.le_refl _))⟩⟩
/-- {k: v} -/
theorem pe_d1N (w0 : World) (hu : X.A.units + 8 < cLine) (hk : PE X e ty) (hv : PE X f tv) : PE X (.Dict [some e] [f] pos) (fun σ H Q => ∀ p ep, H p = none → ty σ (upd H p (rawD w0 p [] ep)) fun x H1 => tv σ H1 fun y H2 =>
      ∃ b k ep, x = .ref b ∧ GetN X H2 w0 p b [] ep k ∧ ∀ r ep', RelV y r → Q (.ref p) (upd H2 p (rawD w0 p [(k, b, r)] ep'))) := by
  refine ⟨fun pins s σ H Q I h => ?_⟩
  obtain ⟨ep, ra⟩ := raw_empty X.prog X.w w0 s.heap I.big
  have I1 := I.laid (a := s.heap.objs.size) (o := rawD w0 s.heap.objs.size [] ep) (t' := s.toks) (fun _ _ q => Heap.get?_push_of_some _ q) (Nat.le_refl _) (raw_ok ra)
  have h1 := h s.heap.objs.size ep (I.hok.fresh (Nat.le_refl _))
  rw [arm_eval_Dict, zip_pairTrees [some e] [f] X.env pos rfl rfl, dictDisplay_pairs _ (by simp [pairTrees]) (by simp [pairTrees])]
  refine wpAny_bind (wpAny_standAt (wpAny_bind (wpAny_subDictH (knd := nestedKind X.prog X.w) hu (by simp [pairTrees])
    (pairTrees_cons_walk (thn (hk.run pins _ σ _ _ I1 h1) fun u s1 ⟨x, H1, I1, rx, q1⟩ => thn (hv.run pins s1 σ H1 _ I1 q1) fun w2 s2 ⟨y, H2, I2, ry, b, k, ep2, ex, g, q2⟩ => pairTrees_nil_walk ?_)))))
  subst ex
  obtain rfl : u = Value.ref b := rx
  obtain ⟨g1, g2, g3, g4⟩ := g
  obtain ⟨k1, k2⟩ := g4 pins σ s2 I2
  have rw1 := raw_held I2 g1
  refine ⟨[(k, b, w2)], ⟨rfl, rfl, ⟨k2, g2⟩, True.intro⟩, rw1.dict (prog := X.prog) (w := X.w) k1, fun h' tk dd' hs => ?_⟩
  have nt : ∀ x ∈ [(k, b, w2)], noTxt x.1 = true := fun x hx => by rw [List.mem_singleton.mp hx]; exact g3
  obtain ⟨ep', I'⟩ := raw_write (t' := tk) I2 g1 hs dd' (by rw [sizeLine_eq]; show 1 ≤ 16777216; omega) nt
  exact wpAny_pure ⟨.ref s.heap.objs.size, _, I', rfl, q2 w2 ep' ry⟩
end
section
variable {X : Cx} {o e f i value : Expr} {pos pos' apos cpos : Pos} {td ty tx tv : TE}
/-- d.get(k, x) -/
theorem pe_getN (hu : X.A.in1.units + 8 < cLine) (ho : PE X o td) (he : PE X e ty) (hf : PE X f tx) (m : M2 X o "get" apos e f cpos) : PE X (.Call (.Attribute o "get" apos) [e, f] [] cpos)
    (fun σ H Q => td σ H fun x H1 => ∃ a, x = .ref a ∧ (∃ w0 xs ep, H1 a = some (rawD w0 a xs ep)) ∧ ty σ H1 fun y H2 => tx σ H2 fun z H3 => ∃ b w0 xs ep k, y = .ref b ∧ GetN X H3 w0 a b xs ep k ∧
      (∀ p, atKey xs k = some p → ∃ v, RelV v p.2 ∧ Q v H3) ∧ (atKey xs k = none → Q z H3)) := by
  refine ⟨fun pins s σ H Q I h => ?_⟩
  refine wpAny_Call_method m.base m.few m.line PySem.F.plainAttrs_dict PySem.F.slot_dict_get PySem.F.type_dict_get (thn (ho.run pins s σ H _ I h) fun u s1 ⟨x, H1, I1, rx, a, ex, d, q1⟩ => ?_)
  subst ex
  obtain rfl : u = Value.ref a := rx
  obtain ⟨w1, xs1, ep1, d⟩ := d
  obtain ⟨t1, t2⟩ := raw_at I1 d
  refine ⟨t1, t2, ?_⟩
  rw [m.trees]
  refine Calls.callWith_builtin rfl (Calls.evalArgs_plain (Calls.spliced_cons (thn (he.run pins s1 σ H1 _ I1 q1) fun iv s2 ⟨y, H2, I2, ry, q2⟩ =>
    Calls.spliced_cons (thn (hf.run pins s2 σ H2 _ I2 q2) fun fv s3 ⟨z, H3, I3, rz, b, w0, xs, ep, k, ey, g, q3, q4⟩ => Calls.spliced_nil ?_))))
  subst ey
  obtain rfl : iv = Value.ref b := ry
  obtain ⟨g1, g2, g3, g4⟩ := g
  obtain ⟨k1, k2⟩ := g4 pins σ s3 I3
  refine raw_get2 hu I3 g1 k1 k2 g2 fun s4 I4 => ?_
  cases q : atKey xs k with
  | none => exact ⟨z, H3, I4, rz, q4 q⟩
  | some p =>
    obtain ⟨v, rv, qv⟩ := q3 p q
    exact ⟨v, H3, I4, rv, qv⟩
/-- d[k] = v -/
theorem ps_setN (hu : X.A.in1.units + 8 < cLine) (ho : PE X o td) (hi : PE X i ty) (hv : PE X value tv) (hs : swapsWith value (some (.Subscript o i pos')) pos.line X.env = pure false) :
    PS X (.Assign [.Subscript o i pos'] value pos) (fun D σ H => tv σ H fun v H1 => td σ H1 fun x H2 => ty σ H2 fun y H3 => ∃ a b w0 xs ep k, x = .ref a ∧ y = .ref b ∧ GetN X H3 w0 a b xs ep k ∧ xs.length < sizeLine ∧
      ∀ r ep', RelV v r → D.nx σ (upd H3 a (rawD w0 a (storedH xs k b r) ep'))) := by
  refine ⟨fun pins s σ H D I h => ?_⟩
  refine wpAny_Assign_Subscript (thn (hv.run pins s σ H _ I h) fun r s1 ⟨v, H1, I1, rv, q1⟩ => thn (ho.run pins s1 σ H1 _ I1 q1) fun u s2 ⟨x, H2, I2, rx, q2⟩ => thn (hi.run pins s2 σ H2 _ I2 q2) fun iv s3 ⟨y, H3, I3, ry, a, b, w0, xs, ep, k, ex, ey, g, hl, q3⟩ => ?_) hs
  subst ex ey
  obtain rfl : u = Value.ref a := rx
  obtain rfl : iv = Value.ref b := ry
  obtain ⟨g1, g2, g3, g4⟩ := g
  obtain ⟨k1, k2⟩ := g4 pins σ s3 I3
  have hl2 : (storedH xs k b r).length ≤ sizeLine := by
    unfold storedH
    split
    · rw [List.length_map]; omega
    · rw [List.length_append]; simp; omega
  exact raw_set hu I3 g1 k1 k2 g2 g3 hl2 fun s4 ep' I4 => ⟨σ, _, I4, q3 r ep' rv⟩
end
/-! ### for .. in d.items() -/
/-- the entries of the dict at d, each in a new pair -/
def ItD (w0 : World) (d : Addr) (xs : List (NestedKey × Addr × Value)) (ep : Nat) (vs : List V) : L2.It :=
  ⟨fun i H => H d = some (rawD w0 d xs ep) ∧ i < xs.length, fun i H v H' => ∃ T x y, v = .ref T ∧ H T = none ∧ H' = upd H T (.tup [.ref x.2.1, y]) ∧ xs[i]? = some x ∧ vs[i]? = some y, fun i H => H d = some (rawD w0 d xs ep) ∧ xs.length ≤ i⟩
theorem turn_itemsN {P : Program} {w w0 : World} {K : PySem.W.Frag} {elts : List Expr} {kk : Nat} {tpos : Pos} {d it : Addr} {xs : List (NestedKey × Addr × Value)} {ep : Nat} {vs : List V} (hr : ∀ (i : Nat) (x : NestedKey × Addr × Value), xs[i]? = some x → ∃ y, vs[i]? = some y ∧ RelV y x.2.2) :
    Turn P w K (.Tuple elts kk tpos) (ItD w0 d xs ep vs) [it] it (fun i h => ∃ ok ov, IsItemIter h it d i xs.length ep ok ov) where
  mem := by simp
  obj := fun i h st c hc => by
    obtain ⟨ok, ov, st⟩ := st
    have e' : c = it := by simpa using hc
    subst e'
    exact ⟨_, st, fun v q => nomatch q⟩
  keep := fun i h h' st k => by
    obtain ⟨ok, ov, st⟩ := st
    exact ⟨ok, ov, k it (by simp) _ st⟩
  item := by
    intro X hP hw hK hc i pins s σ H E I hf st hg
    subst hP hw hK
    obtain ⟨ok, ov, st⟩ := st
    obtain ⟨hd, hlt⟩ := hg
    obtain ⟨z, m, o, es, h1, h2, h3, h4, h5⟩ := raw_held I hd
    have hsz : es.size = xs.length := by rw [← Array.length_toList, h4, List.length_map]
    have hi : i < es.size := by rw [hsz]; exact hlt
    have hxs : xs[i]? = some xs[i] := List.getElem?_eq_getElem hlt
    obtain ⟨y, hy, ry⟩ := hr i _ hxs
    have hent : es[i] = entry0 w0 xs[i] := by
      have e1 : es.toList[i]? = (xs.map (entry0 w0))[i]? := by rw [h4]
      rw [List.getElem?_map, hxs, Array.getElem?_toList, Array.getElem?_eq_getElem hi] at e1
      exact Option.some.inj e1
    have hil : it < s.heap.objs.size := Heap.lt_size st
    rw [← hsz] at st
    refine DT.nextI st ⟨o, h1, h2, h3⟩ hi fun h' hit' hT hz hk => ?_
    rw [hent] at hT
    refine ⟨_, rfl, wpAny_letOwnedTupleGo_items (s := { s with heap := h' }) hit' fun h'' hit'' sb => ?_⟩
    have hT2 : h''.get? s.heap.objs.size = some { cls := .type "tuple", data := .seq #[.ref xs[i].2.1, xs[i].2.2] } := (sb.2 _ (Nat.ne_of_gt hil)).trans hT
    have new : ObjOk X.prog X.w (upd H s.heap.objs.size (.tup [.ref xs[i].2.1, y])) h'' s.heap.objs.size (.tup [.ref xs[i].2.1, y]) :=
      ⟨by show 2 ≤ sizeLine; decide, [.ref xs[i].2.1, xs[i].2.2], .cons rfl (.cons ry .nil), ⟨_, hT2, rfl, _, rfl⟩⟩
    have I1 : Inv X pins σ (upd H s.heap.objs.size (.tup [.ref xs[i].2.1, y])) { s with heap := h'' } :=
      I.turnedNew (t' := s.toks) (ch := [it]) (fun c o hb q => (sb.2 c (fun q' => hb (by simp [q']))).trans (hk c o (fun q' => hb (by simp [q'])) q)) hf (Nat.le_refl _) new
    refine ⟨.ref s.heap.objs.size, _, I1, rfl, ⟨_, xs[i], y, rfl, I.hok.fresh (Nat.le_refl _), rfl, hxs, hy⟩, ⟨_, _, by rw [← hsz]; exact hit''⟩, fun c hcm => ?_⟩
    have e' : c = it := by simpa using hcm
    subst e'
    rw [upd_ne (Nat.ne_of_lt hil)]
    exact (hf c hcm).1
  done := by
    intro X hP hw hK hc i pins s σ H E I hf st hg
    subst hP hw hK
    obtain ⟨ok, ov, st⟩ := st
    obtain ⟨hd, hle⟩ := hg
    obtain ⟨z, m, o, es, h1, h2, h3, h4, h5⟩ := raw_held I hd
    have hsz : es.size = xs.length := by rw [← Array.length_toList, h4, List.length_map]
    rw [← hsz] at st
    exact DT.endI (I.ok.hd hc) st ⟨o, h1, h2, h3⟩ (by rw [hsz]; exact hle) fun h' hx => ⟨rfl, I.turnedL (t' := s.toks) (ch := [it]) (fun c o hb q => hx c o (fun q' => hb (by simp [q'])) q) hf⟩
  self := fun A i s Q E st h => let ⟨_, _, e⟩ := st; PySem.W.kcp_self e h
section
variable {X : Cx} {e : Expr} {td : TE} {apos cpos tpos : Pos} {elts : List Expr} {kk : Nat}
theorem pi_itemsN (he : PE X e td) (hbase : attributeBase e "items" X.env (eval e X.env) = eval e X.env := by rfl) (hline : (apos.endLine == cpos.line) = true := by rfl) :
    PI X (.Tuple elts kk tpos) (.Call (.Attribute e "items" apos) [] [] cpos) (fun σ H R => td σ H fun x H1 => ∃ d w0 xs ep vs, x = .ref d ∧ H1 d = some (rawD w0 d xs ep) ∧ (∀ (i : Nat) (x : NestedKey × Addr × Value), xs[i]? = some x → ∃ y, vs[i]? = some y ∧ RelV y x.2.2) ∧ R (ItD w0 d xs ep vs) H1) := by
  refine ⟨fun pins s σ H R I h => ?_⟩
  refine wpAny_Call_method (T := "dict") (id := "dict.items") hbase rfl hline PySem.F.plainAttrs_dict PySem.F.slot_dict_items PySem.F.type_dict_items (thn (he.run pins s σ H _ I h) fun u s1 ⟨x, H1, I1, rx, d, w0, xs, ep, vs, ex, hd, hr, q⟩ => ?_)
  subst ex
  obtain rfl : u = Value.ref d := rx
  obtain ⟨t1, t2⟩ := raw_at I1 hd
  obtain ⟨z, m, o, es, h1, h2, h3, h4, h5⟩ := raw_held I1 hd
  have hsz : es.size = xs.length := by rw [← Array.length_toList, h4, List.length_map]
  refine ⟨t1, t2, ?_⟩
  have raw : DT.Raw s1.heap d es ep := ⟨o, h1, h2, h3⟩
  have I2 : Inv X pins σ H1 { s1 with heap := s1.heap.push { cls := .type "dict_items", data := .fields #[.ref d] } } := I1.kept (t' := s1.toks) fun b ob q => Heap.get?_push_of_some _ q
  have fin : wpAny (model X.prog X.w) X.A (pyIter (.ref s1.heap.objs.size)) (PIE X pins σ (.Tuple elts kk tpos) R) X.xe { s1 with heap := s1.heap.push { cls := .type "dict_items", data := .fields #[.ref d] } } := by
    refine DT.iterI (d := d) (es := es) (ep := ep) ⟨_, Heap.get?_push_size _ rfl, rfl, rfl⟩ (raw.push _) (pi_one (tk := s1.toks) I2 _ (turn_itemsN hr) ⟨.none, .none, ?_⟩ q)
    rw [hsz]
    exact Heap.get?_push_size _ rfl
  show wpAny _ _ (callWith cpos (.builtin "dict.items") [.ref d] [] []) _ X.xe s1
  exact method_meetsIn PySem.F.slot_dict_items PySem.F.entry_dict_items rfl (PySem.evalArgs_none ⟨rfl, raw.typeIs, PySem.F.args_dict_items_1 _, _, DT.meetsItems (es := es) (ep := ep) m, raw, fin⟩)
end
end Dd

set_option Elab.async false
set_option linter.all false
set_option maxRecDepth 100000
namespace Dd
open PySem PySem.Spec PyProof.Rows L2
/-! ### dicts with nested keys, as cells -/
/-- what a key is looked up by -/
def keyN : D → Option NestedKey
  | .tup l => (match nkD (.tup l) with
    | some k => if k.depth ≤ 8 ∧ noTxt k = true then some k else none
    | none => none)
  | _ => none
def dfind (k : NestedKey) : List (D × D) → Option D
  | [] => none
  | kv :: r => if nkD kv.1 = some k then some kv.2 else dfind k r
def dput (k : NestedKey) (kd v : D) (kvs : List (D × D)) : List (D × D) :=
  if (dfind k kvs).isSome then kvs.map (fun p => if nkD p.1 = some k then (p.1, v) else p) else kvs ++ [(kd, v)]
section
variable {c : Cg} {G : Hp}
theorem keyN_some {d : D} {k : NestedKey} (h : keyN d = some k) : nkD d = some k ∧ k.depth ≤ 8 ∧ noTxt k = true ∧ ∀ v, Rep c G d v → ∃ b, v = .ref b := by
  cases d with
  | tup l =>
    unfold keyN at h
    simp only at h
    cases e : nkD (.tup l) with
    | none => rw [e] at h; cases h
    | some k' =>
      rw [e] at h
      simp only at h
      split at h
      · rename_i q
        cases h
        exact ⟨rfl, q.1, q.2, fun v hv => let ⟨b, _, e, _⟩ := Rep.tup_iff.mp hv; ⟨b, e⟩⟩
      · cases h
  | _ => cases h
theorem KvOk.find {k : NestedKey} : ∀ {kvs : List (D × D)} {xs : List (NestedKey × Addr × Value)}, KvOk c G kvs xs → (dfind k kvs = none ∧ atKey xs k = none) ∨ ∃ d b u vv, dfind k kvs = some d ∧ atKey xs k = some (b, u) ∧ Rep c G d vv ∧ RelV vv u
  | [], _, h => by
    have h : _ = [] := h
    subst h
    exact .inl ⟨rfl, rfl⟩
  | kv :: r, _, h => by
    obtain ⟨nk, b, u, vv, t, rfl, h2, h3, h4, h5, h6, h7, h8⟩ := h
    by_cases e : nk = k
    · subst e
      exact .inr ⟨kv.2, b, u, vv, by unfold dfind; rw [if_pos h3], by simp [atKey], h6, h7⟩
    · have e1 : dfind k (kv :: r) = dfind k r := by unfold dfind; rw [if_neg (by rw [h3]; intro z; exact e (Option.some.inj z))]; cases r <;> rfl
      have e2 : atKey ((nk, b, u) :: t) k = atKey t k := by simp [atKey, List.find?_cons, e]
      rw [e1, e2]
      exact KvOk.find h8
theorem KvOk.length : ∀ {kvs : List (D × D)} {xs : List (NestedKey × Addr × Value)}, KvOk c G kvs xs → xs.length = kvs.length
  | [], _, h => by
    have h : _ = [] := h
    subst h; rfl
  | kv :: r, _, h => by
    obtain ⟨nk, b, u, vv, t, rfl, h2, h3, h4, h5, h6, h7, h8⟩ := h
    simp [KvOk.length h8]
theorem KvOk.upd {k : NestedKey} {v : D} {w : V} {r : Value} (hv : Rep c G v w) (hr : RelV w r) : ∀ {kvs : List (D × D)} {xs : List (NestedKey × Addr × Value)}, KvOk c G kvs xs → KvOk c G (kvs.map (fun p => if nkD p.1 = some k then (p.1, v) else p)) (xs.map (putAt k r))
  | [], _, h => by
    have h : _ = [] := h
    subst h; rfl
  | kv :: rr, _, h => by
    obtain ⟨nk, b, u, vv, t, rfl, h2, h3, h4, h5, h6, h7, h8⟩ := h
    by_cases e : nk = k
    · subst e
      refine ⟨nk, b, r, w, _, by simp [putAt], ?_, ?_, h4, h5, ?_, hr, KvOk.upd hv hr h8⟩
      · simp only [h3, if_true]; exact h2
      · simp only [h3, if_true]
      · simp only [h3, if_true]; exact hv
    · have ne : ¬ nkD kv.1 = some k := by rw [h3]; intro z; exact e (Option.some.inj z)
      refine ⟨nk, b, u, vv, _, by simp [putAt, e], ?_, ?_, h4, h5, ?_, h7, KvOk.upd hv hr h8⟩
      · simp only [if_neg ne]; exact h2
      · simp only [if_neg ne]; exact h3
      · simp only [if_neg ne]; exact h6
theorem KvOk.snoc {k : NestedKey} {kd v : D} {b : Addr} {w : V} {r : Value} (hk : Rep c G kd (.ref b)) (hn : nkD kd = some k) (k8 : k.depth ≤ 8) (kt : noTxt k = true) (hv : Rep c G v w) (hr : RelV w r) : ∀ {kvs : List (D × D)} {xs : List (NestedKey × Addr × Value)}, KvOk c G kvs xs → KvOk c G (kvs ++ [(kd, v)]) (xs ++ [(k, b, r)])
  | [], _, h => by
    have h : _ = [] := h
    subst h
    exact ⟨k, b, r, w, [], rfl, hk, hn, k8, kt, hv, hr, rfl⟩
  | kv :: rr, _, h => by
    obtain ⟨nk, b', u, vv, t, rfl, h2, h3, h4, h5, h6, h7, h8⟩ := h
    exact ⟨nk, b', u, vv, _, rfl, h2, h3, h4, h5, h6, h7, KvOk.snoc hk hn k8 kt hv hr h8⟩
theorem KvOk.put {k : NestedKey} {kd v : D} {b : Addr} {w : V} {r : Value} {kvs : List (D × D)} {xs : List (NestedKey × Addr × Value)} (h : KvOk c G kvs xs) (hk : Rep c G kd (.ref b)) (hn : nkD kd = some k) (k8 : k.depth ≤ 8) (kt : noTxt k = true) (hv : Rep c G v w) (hr : RelV w r) :
    KvOk c G (dput k kd v kvs) (storedH xs k b r) := by
  unfold dput storedH
  rcases h.find (k := k) with ⟨e1, e2⟩ | ⟨d, b', u, vv, e1, e2, _⟩
  · rw [e1, e2]; exact h.snoc hk hn k8 kt hv hr
  · rw [e1, e2]; exact h.upd hv hr
theorem KvOk.get : ∀ {kvs : List (D × D)} {xs : List (NestedKey × Addr × Value)} {i : Nat} {kv : D × D}, KvOk c G kvs xs → kvs[i]? = some kv → ∃ nk b u vv, xs[i]? = some (nk, b, u) ∧ Rep c G kv.1 (.ref b) ∧ Rep c G kv.2 vv ∧ RelV vv u
  | [], _, i, kv, h, e => by simp at e
  | kv' :: r, _, i, kv, h, e => by
    obtain ⟨nk, b, u, vv, t, rfl, h2, h3, h4, h5, h6, h7, h8⟩ := h
    cases i with
    | zero => simp at e; subst e; exact ⟨nk, b, u, vv, rfl, h2, h6, h7⟩
    | succ i => exact KvOk.get (i := i) h8 (by simpa using e)
theorem KvOk.vals : ∀ {kvs : List (D × D)} {xs : List (NestedKey × Addr × Value)}, KvOk c G kvs xs → ∃ vs : List V, RepL c G (kvs.map (·.2)) vs ∧ ∀ (i : Nat) (x : NestedKey × Addr × Value), xs[i]? = some x → ∃ y, vs[i]? = some y ∧ RelV y x.2.2
  | [], _, h => by
    have h : _ = [] := h
    subst h
    exact ⟨[], RepL.nil, fun i x e => by simp at e⟩
  | kv :: r, _, h => by
    obtain ⟨nk, b, u, vv, t, rfl, h2, h3, h4, h5, h6, h7, h8⟩ := h
    obtain ⟨vs, q1, q2⟩ := KvOk.vals h8
    refine ⟨vv :: vs, RepL.cons h6 q1, fun i x e => ?_⟩
    cases i with
    | zero => simp at e; subst e; exact ⟨vv, rfl, h7⟩
    | succ i => exact q2 i x (by simpa using e)
theorem KvOk.keys {X : Cx} {pins : List (Addr × Obj)} {σ : L2.St} {H : Hp} {s : Shared} (hK : X.K = c.K) (I : Inv X pins σ H s) (hG : Ext G H) : ∀ {kvs : List (D × D)} {xs : List (NestedKey × Addr × Value)}, KvOk c G kvs xs → KeysOk s.heap xs
  | [], _, h => by
    have h : _ = [] := h
    subst h
    intro x hx; simp at hx
  | kv :: r, _, h => by
    obtain ⟨nk, b, u, vv, t, rfl, h2, h3, h4, h5, h6, h7, h8⟩ := h
    intro x hx
    rcases List.mem_cons.mp hx with e | e
    · subst e
      exact ⟨h5, nested_of hK I hG _ _ _ _ h2 h3 rfl, h4⟩
    · exact KvOk.keys hK I hG h8 x e
theorem KvOk.getN {X : Cx} {H : Hp} {w0 : World} {a b : Addr} {ep : Nat} {k : NestedKey} {kd : D} {kvs : List (D × D)} {xs : List (NestedKey × Addr × Value)} (hK : X.K = c.K) (h : KvOk c G kvs xs) (hG : Ext G H) (hH : H a = some (rawD w0 a xs ep)) (hk : Rep c G kd (.ref b)) (hn : nkD kd = some k) (k8 : k.depth ≤ 8) (kt : noTxt k = true) : GetN X H w0 a b xs ep k :=
  ⟨hH, k8, kt, fun pins σ s I => ⟨h.keys hK I hG, nested_of hK I hG _ _ _ _ hk hn rfl⟩⟩
end
/-! ### the operations -/
/-- the cell of a dict -/
def dtC : Option Cell → Option (List (D × D))
  | some (.mu (.dt kvs)) => some kvs
  | _ => none
def dtL (x : R) (S : Sg) : Option (List (D × D)) := match x with
  | .p _ => none
  | .r n => dtC S.st[n]?
theorem dtC_some {q : Option Cell} {kvs : List (D × D)} (h : dtC q = some kvs) : q = some (.mu (.dt kvs)) := by
  unfold dtC at h
  split at h
  · cases h; rfl
  · cases h
/-- {} -/
def dtE : M R := fun S => .ok (.r S.st.length) { S with st := S.st ++ [.mu (.dt [])] }
theorem dtE_ap (sl : List (Option R)) (st : Store) : dtE ⟨sl, st⟩ = .ok (.r st.length) ⟨sl, st ++ [.mu (.dt [])]⟩ := Eq.trans rfl rfl
def dt1K (k v : D) (S : Sg) : Res R := match keyN k with
  | some _ => .ok (.r S.st.length) { S with st := S.st ++ [.mu (.dt [(k, v)])] }
  | none => .bad
/-- {k: v} -/
def dt1E (fk fv : M R) : M R := do
  let k ← fk
  let v ← fv
  let kd ← pure1 k
  let vd ← pure1 v
  dt1K kd vd
def dchk (o : R) : M Unit := fun S => match dtL o S with
  | some _ => .ok () S
  | none => .bad
def dgetK (o : R) (k : D) (x : R) : M R := fun S => match dtL o S, keyN k with
  | some kvs, some nk => (match dfind nk kvs with
    | some d => .ok (.p d) S
    | none => .ok x S)
  | _, _ => .bad
/-- d.get(k, x) -/
def dgetE (fo fk fx : M R) : M R := do
  let o ← fo
  let _ ← dchk o
  let k ← fk
  let x ← fx
  let kd ← pure1 k
  dgetK o kd x
def dsetK (o : R) (k v : D) (S : Sg) : Res Fl := match o with
  | .p _ => .bad
  | .r n => (match dtC S.st[n]?, keyN k with
    | some kvs, some nk => if kvs.length < sizeLine then .ok .nx { S with st := S.st.set n (.mu (.dt (dput nk k v kvs))) } else .bad
    | _, _ => .bad)
/-- d[k] = v -/
def sDset (fv fo fk : M R) : M Fl := do
  let v ← fv
  let o ← fo
  let k ← fk
  let vd ← pure1 v
  let kd ← pure1 k
  dsetK o kd vd
def ditK (o : R) : M (Itm (List D)) := fun S => match o with
  | .p _ => .bad
  | .r n => (match dtC S.st[n]? with
    | some kvs => .ok ⟨fun _ => True, kvs.map fun p => [p.1, p.2]⟩ { S with st := S.st.set n .dead }
    | none => .bad)
/-- for .. in d.items(): nothing else asks for the dict after -/
def ditE (fo : M R) : M (Itm (List D)) := do
  let o ← fo
  ditK o
section
variable {c : Cg} {Γ : Gh} {S : Sg} {σ : L2.St} {H : Hp} {x : R} {v : V} {W : WX}
theorem dtL_ok {kvs : List (D × D)} (F : FrOk c Γ S σ H) (hx : RepR c Γ x v) (h : dtL x S = some kvs) : ∃ n a w0 xs ep, x = .r n ∧ S.st[n]? = some (.mu (.dt kvs)) ∧ Γ.ρ[n]? = some a ∧ v = .ref a ∧ H a = some (rawD w0 a xs ep) ∧ KvOk c Γ.G kvs xs ∧ Γ.G a = none ∧ Γ.L a = none := by
  cases x with
  | p d => cases h
  | r n =>
    obtain ⟨a, h1, h2⟩ := hx
    have e := dtC_some (show dtC S.st[n]? = some kvs from h)
    obtain ⟨u, q1, ⟨w0, xs, ep, q2, q3⟩, q4, q5⟩ := F.s.cell n _ a e h1
    subst q2
    exact ⟨n, a, w0, xs, ep, rfl, e, h1, h2, q1, q3, q4, q5⟩
theorem dchk_ok {K : Unit → Sg → Gh → Hp → Prop} (F : FrOk c Γ S σ H) (P : Post c W σ Γ (dchk x S) K) : (∃ kvs, dtL x S = some kvs) ∧ K () S Γ H := by
  unfold dchk at P
  cases e : dtL x S with
  | none => rw [e] at P; exact P.elim
  | some kvs => rw [e] at P; exact ⟨⟨kvs, rfl⟩, Post.ok (c := c) (W := W) P Gh.le.refl F⟩
end
section
variable {X : Cx} {c : Cg} {W : WX} {o e f i value : Expr} {fo fk fx fv : M R} {pos pos' apos cpos tpos : Pos} {elts : List Expr} {kk : Nat}
theorem se_dtE0 (w0 : World) : PE X (.Dict [] [] pos) (rdE c W dtE) := se_of (pe_dnewN w0) fun σ H Q q => by
  obtain ⟨Γ, S, F, P⟩ := q
  intro p ep hp
  have P := Post.ok (c := c) (W := W) P (Γ' := { Γ with ρ := Γ.ρ ++ [p] }) (H' := upd H p (rawD w0 p [] ep)) ⟨Ext.refl, rfl, [p], rfl⟩ (F.of ⟨Ext.refl, rfl, [p], rfl⟩ (F.s.newC hp ⟨w0, [], ep, rfl, rfl⟩))
  exact P _ ⟨p, by rw [F.s.len]; simp, rfl⟩
theorem se_dget {k : Nat} (hr : Room k X.A) (hK : X.K = c.K) (ho : PE X o (rdE c W fo)) (he : PE X e (rdE c W fk)) (hf : PE X f (rdE c W fx)) (m : M2 X o "get" apos e f cpos := by exact ⟨by rfl, by rfl, by rfl, by rfl⟩) :
    PE X (.Call (.Attribute o "get" apos) [e, f] [] cpos) (rdE c W (dgetE fo fk fx)) := se_of (pe_getN (by have := hu66 hr; have e : X.A.in1.units = X.A.units + 1 := rfl; omega) ho he hf m) fun σ H Q q => by
  obtain ⟨Γ, S, F, P⟩ := q
  refine ⟨Γ, S, F, (Post.bind P).imp fun x S1 Γ1 H1 e1 F1 ⟨_, P1⟩ v hv => ?_⟩
  obtain ⟨⟨kvs1, q1⟩, _, P2⟩ := dchk_ok F1 (Post.bind P1)
  obtain ⟨n, a, w0, xs, ep, rfl, g1, g2, rfl, g3, g4, g5, g6⟩ := dtL_ok F1 hv q1
  refine ⟨a, rfl, ⟨w0, xs, ep, g3⟩, Γ1, S1, F1, (Post.bind P2).imp fun y S2 Γ2 H2 e2 F2 ⟨_, P3⟩ w hw => ?_⟩
  refine ⟨Γ2, S2, F2, (Post.bind P3).imp fun z S3 Γ3 H3 e3 F3 ⟨_, P4⟩ w2 hw2 => ?_⟩
  obtain ⟨kd, Γ4, S4, e4, F4, hk, _, P5⟩ := pure1_ok F3 (hw.mono e3) (Post.bind P4)
  unfold dgetK at P5
  cases q2 : dtL (.r n) S4 with
  | none => rw [q2] at P5; exact P5.elim
  | some kvs =>
    rw [q2] at P5
    cases q3 : keyN kd with
    | none => rw [q3] at P5; exact P5.elim
    | some nk =>
      rw [q3] at P5
      simp only at P5
      obtain ⟨n', a', w0', xs', ep', e5, g1', g2', e6, g3', g4', _⟩ := dtL_ok F4 (hv.mono (e2.trans (e3.trans e4))) q2
      cases e5; cases e6
      obtain ⟨k1, k2, k3, k4⟩ := keyN_some (c := c) (G := Γ4.G) q3
      obtain ⟨b, rfl⟩ := k4 _ hk
      refine ⟨b, w0', xs', ep', nk, rfl, g4'.getN hK F4.s.g g3' hk k1 k2 k3, ?_⟩
      rcases g4'.find (k := nk) with ⟨r1, r2⟩ | ⟨d, b', u, vv, r1, r2, r3, r4⟩
      · rw [r1] at P5
        simp only at P5
        refine ⟨fun p hp => (by rw [r2] at hp; cases hp), fun _ => Post.ok (c := c) (W := W) P5 Gh.le.refl F4 _ (hw2.mono e4)⟩
      · rw [r1] at P5
        simp only at P5
        refine ⟨fun p hp => ?_, fun hp => (by rw [r2] at hp; cases hp)⟩
        rw [r2] at hp; cases hp
        exact ⟨vv, r4, Post.ok (c := c) (W := W) P5 Gh.le.refl F4 _ (RepR.pure.mpr r3)⟩
theorem ss_dset {k : Nat} (hr : Room k X.A) (hK : X.K = c.K) (hv : PE X value (rdE c W fv)) (ho : PE X o (rdE c W fo)) (hi : PE X i (rdE c W fk)) (hs : swapsWith value (some (.Subscript o i pos')) pos.line X.env = pure false := by rfl) :
    PS X (.Assign [.Subscript o i pos'] value pos) (rdS c W (sDset fv fo fk)) := ss_of (ps_setN (by have := hu66 hr; have e : X.A.in1.units = X.A.units + 1 := rfl; omega) ho hi hv hs) fun E σ H q => by
  obtain ⟨Γ, S, F, P⟩ := q
  refine ⟨Γ, S, F, (PostS.bindE P).imp fun z S1 Γ1 H1 e1 F1 ⟨_, P1⟩ v hv => ?_⟩
  refine ⟨Γ1, S1, F1, (PostS.bindE P1).imp fun x S2 Γ2 H2 e2 F2 ⟨_, P2⟩ w hw => ?_⟩
  refine ⟨Γ2, S2, F2, (PostS.bindE P2).imp fun y S3 Γ3 H3 e3 F3 ⟨_, P3⟩ w2 hw2 => ?_⟩
  obtain ⟨vd, Γ4, S4, e4, F4, hvd, _, P4⟩ := pure1_ok F3 (hv.mono (e2.trans e3)) (PostS.bindE P3)
  obtain ⟨kd, Γ5, S5, e5, F5, hkd, _, P5⟩ := pure1_ok F4 (hw2.mono e4) (PostS.bindE P4)
  unfold dsetK at P5
  cases x with
  | p d => exact P5.elim
  | r n =>
    simp only at P5
    cases q2 : dtC S5.st[n]? with
    | none => rw [q2] at P5; exact P5.elim
    | some kvs =>
      rw [q2] at P5
      cases q3 : keyN kd with
      | none => rw [q3] at P5; exact P5.elim
      | some nk =>
        rw [q3] at P5
        simp only at P5
        obtain ⟨n', a, w0, xs, ep, e6, g1, g2, rfl, g3, g4, g5, g6⟩ := dtL_ok F5 (hw.mono (e3.trans (e4.trans e5))) (show dtL (.r n) S5 = some kvs from q2)
        cases e6
        obtain ⟨k1, k2, k3, k4⟩ := keyN_some (c := c) (G := Γ5.G) q3
        obtain ⟨b, rfl⟩ := k4 _ hkd
        by_cases hz : kvs.length < sizeLine
        · rw [if_pos hz] at P5
          refine ⟨a, b, w0, xs, ep, nk, rfl, rfl, g4.getN hK F5.s.g g3 hkd k1 k2 k3, by rw [g4.length]; exact hz, fun r ep' rv => ?_⟩
          have F6 := F5.s.setC (o' := .dt (dput nk kd vd kvs)) g1 g2 (u := rawD w0 a (storedH xs nk b r) ep') ⟨w0, _, ep', rfl, g4.put hkd k1 k2 k3 (hvd.mono e5.g) rv⟩
          exact P5 Γ5 σ _ Gh.le.refl (F5.of Gh.le.refl F6)
        · rw [if_neg hz] at P5; exact P5.elim
theorem si_ditE (hK : X.K = c.K) (ho : PE X o (rdE c W fo)) (hbase : attributeBase o "items" X.env (eval o X.env) = eval o X.env := by rfl) (hline : (apos.endLine == cpos.line) = true := by rfl) :
    PI X (.Tuple elts kk tpos) (.Call (.Attribute o "items" apos) [] [] cpos) (rdIT c W (ditE fo)) := siT_of (pi_itemsN ho hbase hline) fun σ H R q => by
  obtain ⟨Γ, S, F, P⟩ := q
  refine ⟨Γ, S, F, (Post.bind P).imp fun x S1 Γ1 H1 e1 F1 ⟨_, P1⟩ v hv => ?_⟩
  unfold ditK at P1
  cases x with
  | p d => exact P1.elim
  | r n =>
    simp only at P1
    cases q2 : dtC S1.st[n]? with
    | none => rw [q2] at P1; exact P1.elim
    | some kvs =>
      rw [q2] at P1
      simp only at P1
      obtain ⟨n', a, w0, xs, ep, e6, g1, g2, rfl, g3, g4, g5, g6⟩ := dtL_ok F1 hv (show dtL (.r n) S1 = some kvs from q2)
      cases e6
      have ex : Ext Γ1.G (upd Γ1.G a (rawD w0 a xs ep)) := Ext.upd g5
      have le : Γ1.le { Γ1 with G := upd Γ1.G a (rawD w0 a xs ep) } := ⟨ex, rfl, [], by simp⟩
      have F2 : StOk c Γ1 (S1.st.set n .dead) H1 := F1.s.drop (fun _ _ => trivial) (fun _ => by simp)
      have F3 : StOk c { Γ1 with G := upd Γ1.G a (rawD w0 a xs ep) } (S1.st.set n .dead) H1 := F2.takeG g3 g5 g6 fun m p e1 e2 => by
        by_cases hm : n = m
        · subst hm
          have hlt := (List.getElem?_eq_some_iff.mp g1).1
          rw [List.getElem?_set_self hlt] at e1
          cases e1
        · rw [List.getElem?_set_ne hm] at e1
          exact hm (F1.s.inj n m a _ p g1 e1 g2 e2)
      have P2 := Post.ok (c := c) (W := W) P1 le (F1.of le F3)
      obtain ⟨vs, rv1, rv2⟩ := g4.vals
      refine ⟨a, w0, xs, ep, vs, rfl, g3, rv2, P2 _ ?_⟩
      intro Γ5 S5 σ5 H5 i sb F5 _
      have hH : H5 a = some (rawD w0 a xs ep) := F5.s.g _ _ (sb.g _ _ upd_same)
      have g7 : KvOk c Γ5.G kvs xs := KvOk.mono (ex.trans sb.g) g4
      have rv3 : RepL c Γ5.G (kvs.map (·.2)) vs := RepL.mono (ex.trans sb.g) rv1
      refine ⟨fun ds hd => ?_, fun hl => ⟨hH, by rw [g7.length]; simp at hl; omega⟩⟩
      rw [List.getElem?_map] at hd
      cases hq : kvs[i]? with
      | none => rw [hq] at hd; cases hd
      | some kv =>
        rw [hq] at hd
        cases hd
        obtain ⟨nk, b, u, vv, r1, r2, r3, r4⟩ := g7.get hq
        have hlt : i < xs.length := (List.getElem?_eq_some_iff.mp r1).1
        refine ⟨⟨hH, hlt⟩, fun z H' hz => ?_⟩
        obtain ⟨T, x', y', rfl, hT, rfl, z1, z2⟩ := hz
        rw [r1] at z1; cases z1
        obtain ⟨y2, hy2, ry2⟩ := rv3.get (i := i) (d := kv.2) (by rw [List.getElem?_map, hq]; rfl)
        rw [z2] at hy2; cases hy2
        obtain ⟨Γ', le', F'⟩ := newW_ok (vs := [.ref b, y']) F5 hT
        exact ⟨Γ', T, _, le', F', rfl, upd_same, RepL.cons (r2.mono le'.g) (RepL.one (ry2.mono le'.g))⟩
/-- {k: v} -/
theorem se_dt1E0 {k : Nat} (w0 : World) (hr : Room k X.A) (hK : X.K = c.K) (hk : PE X e (rdE c W fk)) (hv : PE X f (rdE c W fv)) : PE X (.Dict [some e] [f] pos) (rdE c W (dt1E fk fv)) := se_of (pe_d1N w0 (by have := hu66 hr; omega) hk hv) fun σ H Q q => by
  obtain ⟨Γ, S, F, P⟩ := q
  intro p ep hp
  have hLp : Γ.L p = none := Ext.none F.s.l hp
  have P0 : Post c W σ { ({ Γ with L := upd Γ.L p (rawD w0 p [] ep) } : Gh) with L := Γ.L } (dt1E fk fv S) fun x S' Γ' H' => ∀ v, RepR c Γ' x v → Q v H' := P
  have ex : Ext Γ.L (upd Γ.L p (rawD w0 p [] ep)) := Ext.upd hLp
  refine ⟨_, S, F.newL hp, (Post.keepB P0 rfl ex).imp fun x S1 Γ1 H1 e1 F1 ⟨l1, P1⟩ v hv => ?_⟩
  refine ⟨Γ1, S1, F1, (Post.keepB P1 l1 ex).imp fun y S2 Γ2 H2 e2 F2 ⟨l2, P2⟩ w hw => ?_⟩
  obtain ⟨kd, Γ3, S3, e3, F3, hkd, l3, P3⟩ := pure1_ok F2 (hv.mono e2) (Post.keepB P2 l2 ex)
  obtain ⟨vd, Γ4, S4, e4, F4, hvd, l4, P4⟩ := pure1_ok F3 (hw.mono e3) (Post.keepB P3 l3 ex)
  unfold dt1K at P4
  cases q3 : keyN kd with
  | none => rw [q3] at P4; exact P4.elim
  | some nk =>
    rw [q3] at P4
    simp only at P4
    have hkd4 : Rep c Γ4.G kd v := hkd.mono e4.g
    obtain ⟨k1, k2, k3, k4⟩ := keyN_some (c := c) (G := Γ4.G) q3
    obtain ⟨b, rfl⟩ := k4 _ hkd4
    have hL : Γ4.L p = some (rawD w0 p [] ep) := by rw [l4]; exact upd_same
    have hH : H2 p = some (rawD w0 p [] ep) := F4.s.l _ _ hL
    have hG : Γ4.G p = none := F4.s.gl _ _ hL
    have kv0 : KvOk c Γ4.G [] [] := rfl
    refine ⟨b, nk, ep, rfl, kv0.getN hK F4.s.g hH hkd4 k1 k2 k3, fun r ep' rv => ?_⟩
    have F5 := F4.setL (u' := rawD w0 p [(nk, b, r)] ep') hL
    have ex2 : Ext Γ.L (upd Γ4.L p (rawD w0 p [(nk, b, r)] ep')) := fun a u e => by
      have hne : a ≠ p := fun z => by rw [z, hLp] at e; cases e
      rw [upd_ne hne, l4]
      show upd Γ.L p (rawD w0 p [] ep) a = some u
      rw [upd_ne hne]; exact e
    have F6 := F5.dropL ex2
    have F7 := F6.s.adopt (p := p) (o := .dt [(kd, vd)]) (u := rawD w0 p [(nk, b, r)] ep') upd_same hG hLp (fun n q e1 e2 => by
      obtain ⟨u, _, _, _, q4⟩ := F4.s.cell n _ p e1 e2
      rw [hL] at q4; cases q4) ⟨w0, _, ep', rfl, kv0.snoc hkd4 k1 k2 k3 hvd rv⟩
    have le7 : ({ ({ Γ4 with L := upd Γ4.L p (rawD w0 p [(nk, b, r)] ep') } : Gh) with L := Γ.L } : Gh).le { G := Γ4.G, L := Γ.L, ρ := Γ4.ρ ++ [p] } := ⟨Ext.refl, rfl, [p], rfl⟩
    have P5 := P4 { G := Γ4.G, L := Γ.L, ρ := Γ4.ρ ++ [p] } _ le7 (F6.of le7 F7)
    exact P5 _ ⟨p, by simp [F4.s.len], rfl⟩
theorem se_dtE : PE X (.Dict [] [] pos) (rdE c W dtE) := se_dtE0 X.w
theorem se_dt1E {k : Nat} (hr : Room k X.A) (hK : X.K = c.K) (hk : PE X e (rdE c W fk)) (hv : PE X f (rdE c W fv)) : PE X (.Dict [some e] [f] pos) (rdE c W (dt1E fk fv)) := se_dt1E0 X.w hr hK hk hv
end
end Dd

set_option Elab.async false
set_option linter.all false
set_option maxRecDepth 100000
namespace Dd
open PySem PySem.Spec PyProof.Rows L2
/-! ### zip of any number of lists and tuples -/
/-- an iterator, what it walks, whether that is a tuple -/
abbrev Sz := Addr × Addr × Bool
def SrcAt (h : Heap) (y : Sz) (i : Nat) : Prop := (y.2.2 = true ∧ h.IsTupleIter y.1 y.2.1 i) ∨ (y.2.2 = false ∧ h.IsListIter y.1 y.2.1 i)
def SeqAt (h : Heap) (y : Sz) (items : Array Value) : Prop := (y.2.2 = true ∧ h.IsTuple y.2.1 items) ∨ (y.2.2 = false ∧ h.IsList y.2.1 items)
theorem SrcAt.same {h h' : Heap} {y : Sz} {i : Nat} (q : SrcAt h y i) (k : ∀ o, h.get? y.1 = some o → h'.get? y.1 = some o) : SrcAt h' y i := by
  rcases q with ⟨a, q⟩ | ⟨a, q⟩
  · exact .inl ⟨a, q.at k⟩
  · exact .inr ⟨a, q.at k⟩
theorem SeqAt.same {h h' : Heap} {y : Sz} {its : Array Value} (q : SeqAt h y its) (k : ∀ o, h.get? y.2.1 = some o → h'.get? y.2.1 = some o) : SeqAt h' y its := by
  rcases q with ⟨a, q⟩ | ⟨a, q⟩
  · exact .inl ⟨a, q.at k⟩
  · exact .inr ⟨a, q.at k⟩
theorem SrcAt.live {h : Heap} {y : Sz} {i : Nat} (q : SrcAt h y i) : ∃ o, h.get? y.1 = some o ∧ ∀ v, o.data ≠ .cell v := by
  rcases q with ⟨a, o, e, _, d⟩ | ⟨a, o, e, _, d⟩ <;> exact ⟨o, e, fun v q => by rw [d] at q; cases q⟩
section
variable {prog : Program} {w : World} {A : Around} {E : Value → Shared → Prop} {s : Shared}
theorem next1_item {y : Sz} {i : Nat} {its : Array Value} {x : Value} {Q : Value → Shared → Prop} (st : SrcAt s.heap y i) (sq : SeqAt s.heap y its) (hx : its[i]? = some x)
    (hQ : ∀ h', SrcAt h' y (i + 1) → Heap.SameBut y.1 s.heap h' → Q x { s with heap := h' }) : wpAny (model prog w) A (Builtin.SmallTypes.nextOf (.ref y.1)) Q E s := by
  rcases st with ⟨a, st⟩ | ⟨a, st⟩
  · rcases sq with ⟨b, sq⟩ | ⟨b, sq⟩
    · exact RZ.nextOf_tuple_item st sq hx fun h' q sb => hQ h' (.inl ⟨a, q⟩) sb
    · rw [a] at b; cases b
  · rcases sq with ⟨b, sq⟩ | ⟨b, sq⟩
    · rw [a] at b; cases b
    · exact wpAny_nextOf_list_item st sq hx fun h' q sb => hQ h' (.inr ⟨a, q⟩) sb
theorem next1_end {y : Sz} {i : Nat} {its : Array Value} {Q : Value → Shared → Prop} (hh : A.handled = none) (st : SrcAt s.heap y i) (sq : SeqAt s.heap y its) (hx : its[i]? = none)
    (hE : ∀ h' e, Heap.ExtBut y.1 s.heap h' → (∃ o, h'.get? e = some o ∧ o.cls = .type "StopIteration") → E (.ref e) { s with heap := h' }) : wpAny (model prog w) A (Builtin.SmallTypes.nextOf (.ref y.1)) Q E s := by
  rcases st with ⟨a, st⟩ | ⟨a, st⟩
  · rcases sq with ⟨b, sq⟩ | ⟨b, sq⟩
    · exact RZ.nextOf_tuple_end hh st sq hx hE
    · rw [a] at b; cases b
  · rcases sq with ⟨b, sq⟩ | ⟨b, sq⟩
    · rw [a] at b; cases b
    · exact wpAny_nextOf_list_end hh st sq hx hE
end
/-- a tuple of these, as it is made -/
abbrev IsTupL (h : Heap) (T : Addr) (vs : List Value) : Prop := h.get? T = some { cls := .type "tuple", data := .seq vs.toArray }
/-- what each gives next -/
def Heads (h : Heap) (i : Nat) : List Sz → List Value → Prop
  | [], xs => xs = []
  | y :: ys, xs => ∃ x t its, xs = x :: t ∧ SrcAt h y i ∧ SeqAt h y its ∧ its[i]? = some x ∧ Heads h i ys t
/-- one of them ends -/
def Stops (h : Heap) (i : Nat) : List Sz → Prop
  | [] => False
  | y :: ys => ∃ its, SrcAt h y i ∧ SeqAt h y its ∧ (its[i]? = none ∨ ((∃ x, its[i]? = some x) ∧ Stops h i ys))
theorem Heads.same {h h' : Heap} {i : Nat} : ∀ {ys : List Sz} {xs : List Value}, Heads h i ys xs → (∀ y ∈ ys, (∀ o, h.get? y.1 = some o → h'.get? y.1 = some o) ∧ ∀ o, h.get? y.2.1 = some o → h'.get? y.2.1 = some o) → Heads h' i ys xs
  | [], _, q, _ => q
  | y :: ys, _, q, k => by
    obtain ⟨x, t, its, e, a, b, d, r⟩ := q
    obtain ⟨k1, k2⟩ := k y (by simp)
    exact ⟨x, t, its, e, a.same k1, b.same k2, d, r.same fun y hy => k y (by simp [hy])⟩
theorem Stops.same {h h' : Heap} {i : Nat} : ∀ {ys : List Sz}, Stops h i ys → (∀ y ∈ ys, (∀ o, h.get? y.1 = some o → h'.get? y.1 = some o) ∧ ∀ o, h.get? y.2.1 = some o → h'.get? y.2.1 = some o) → Stops h' i ys
  | [], q, _ => q
  | y :: ys, q, k => by
    obtain ⟨its, a, b, d⟩ := q
    obtain ⟨k1, k2⟩ := k y (by simp)
    exact ⟨its, a.same k1, b.same k2, d.imp id fun ⟨x, r⟩ => ⟨x, r.same fun y hy => k y (by simp [hy])⟩⟩
/-- the cells lie apart -/
structure ZApart (z TI TO : Addr) (ys : List Sz) : Prop where
  tiz : TI ≠ z
  toz : TO ≠ z
  tito : TI ≠ TO
  ti : ∀ y ∈ ys, TI ≠ y.1
  zi : ∀ y ∈ ys, z ≠ y.1
  toi : ∀ y ∈ ys, TO ≠ y.1
  ii : (ys.map (·.1)).Nodup
  lz : ∀ y ∈ ys, y.2.1 ≠ z
  lto : ∀ y ∈ ys, y.2.1 ≠ TO
  li : ∀ y ∈ ys, ∀ y' ∈ ys, y.2.1 ≠ y'.1
theorem ZApart.tail {z TI TO : Addr} {y : Sz} {ys : List Sz} (D : ZApart z TI TO (y :: ys)) : ZApart z TI TO ys :=
  ⟨D.tiz, D.toz, D.tito, fun y h => D.ti y (by simp [h]), fun y h => D.zi y (by simp [h]), fun y h => D.toi y (by simp [h]), (List.nodup_cons.mp D.ii).2, fun y h => D.lz y (by simp [h]), fun y h => D.lto y (by simp [h]), fun y h y' h' => D.li y (by simp [h]) y' (by simp [h'])⟩
theorem ZApart.hd {z TI TO : Addr} {y : Sz} {ys : List Sz} (D : ZApart z TI TO (y :: ys)) : ∀ y' ∈ ys, y'.1 ≠ y.1 := fun y' h e =>
  (List.nodup_cons.mp D.ii).1 (List.mem_map.mpr ⟨y', h, e⟩)
section
variable {prog : Program} {w : World} {A : Around} {E : Value → Shared → Prop} {z TI TO : Addr} {β : Type} {r0 : β} {f : Value × Nat → β → Sem (ForInStep β)} {i : Nat}
/-- a turn of the walk over the iterators -/
def ZStep (prog : Program) (w : World) (A : Around) (E : Value → Shared → Prop) (z TI TO : Addr) (r0 : β) (f : Value × Nat → β → Sem (ForInStep β)) : Prop :=
  ∀ (v : Value) (k : Nat) (s : Shared) (Q : ForInStep β → Shared → Prop), wpAny (model prog w) A (Builtin.SmallTypes.nextOf v) (fun x s1 => ∃ arr : List Value, IsTupL s1.heap TO arr ∧ arr.length ≤ sizeLine ∧ ∀ h', IsTupL h' TO (arr.set k x) → Heap.SameBut TO s1.heap h' → Q (.yield r0) { s1 with heap := h' })
    (fun e s1 => IsZip s1.heap z TI TO .ellipsis ∧ ∀ h', Heap.SameBut z s1.heap h' → E e { s1 with heap := h' }) s → wpAny (model prog w) A (f (v, k) r0) Q E s
theorem zloop (hf : ZStep prog w A E z TI TO r0 f) : ∀ (ys : List Sz) (xs pre rest : List Value) (s : Shared) (Q : β → Shared → Prop), ZApart z TI TO ys → rest.length = ys.length → pre.length + ys.length ≤ sizeLine → IsZip s.heap z TI TO .ellipsis → IsTupL s.heap TO (pre ++ rest) → Heads s.heap i ys xs →
    (∀ h', IsZip h' z TI TO .ellipsis → IsTupL h' TO (pre ++ xs) → (∀ y ∈ ys, SrcAt h' y (i + 1)) → (∀ c o, c ≠ TO → (∀ y ∈ ys, c ≠ y.1) → s.heap.get? c = some o → h'.get? c = some o) → h'.objs.size = s.heap.objs.size → Q r0 { s with heap := h' }) →
    wpAny (model prog w) A (forIn ((ys.map fun y => Value.ref y.1).zipIdx pre.length) r0 f) Q E s
  | [], xs, pre, rest, s, Q, D, hl, hm, hz, hT, hh, hQ => by
    have hx : xs = [] := hh
    have hr : rest = [] := List.eq_nil_of_length_eq_zero hl
    subst hx hr
    exact wpAny_pure (hQ s.heap hz hT (fun y h => by simp at h) (fun c o _ _ e => e) rfl)
  | y :: ys, xs, pre, rest, s, Q, D, hl, hm, hz, hT, hh, hQ => by
    obtain ⟨x, t, its, rfl, st, sq, hx, hh⟩ := hh
    cases rest with
    | nil => simp at hl
    | cons r rest =>
      rw [List.map_cons, List.zipIdx_cons, List.forIn_cons]
      refine wpAny_bind (hf _ _ s _ (next1_item st sq hx fun p1 st1 sb1 => ⟨pre ++ r :: rest, sb1.extBut _ _ (D.toi y (by simp)) hT, by simp at hl hm ⊢; omega, fun h1 hT1 sb2 => ?_⟩))
      have hT1' : IsTupL h1 TO ((pre ++ [x]) ++ rest) := by
        have e : (pre ++ r :: rest).set pre.length x = (pre ++ [x]) ++ rest := by rw [List.set_append_right _ _ (Nat.le_refl _)]; simp
        rw [e] at hT1; exact hT1
      replace sb1 : Heap.SameBut y.1 s.heap p1 := sb1
      replace sb2 : Heap.SameBut TO p1 h1 := sb2
      have hz1 : IsZip h1 z TI TO .ellipsis := sb2.extBut _ _ D.toz.symm (sb1.extBut _ _ (D.zi y (by simp)) hz)
      have hh1 : Heads h1 i ys t := hh.same fun y' hy' => ⟨fun o e => sb2.extBut _ _ (D.toi y' (by simp [hy'])).symm (sb1.extBut _ _ (D.hd y' hy') e), fun o e => sb2.extBut _ _ (D.lto y' (by simp [hy'])) (sb1.extBut _ _ (D.li y' (by simp [hy']) y (by simp)) e)⟩
      have ih := zloop hf ys t (pre ++ [x]) rest { s with heap := h1 } Q D.tail (by simpa using hl) (by simp at hm ⊢; omega) hz1 hT1' hh1 fun h' a1 a2 a3 a4 a5 => by
        refine hQ h' a1 (by simpa using a2) (fun y' hy' => ?_) (fun c o h1 h2 e => a4 c o h1 (fun y' hy' => h2 y' (by simp [hy'])) (sb2.extBut _ _ h1 (sb1.extBut _ _ (h2 y (by simp)) e))) (by rw [a5]; show h1.objs.size = _; rw [sb2.1, sb1.1])
        rcases List.mem_cons.mp hy' with e | e
        · subst e
          exact st1.same fun o e => a4 _ o (D.toi y' (by simp)).symm (fun y2 hy2 => (D.hd y2 hy2).symm) (sb2.extBut _ _ (D.toi y' (by simp)).symm e)
        · exact a3 y' e
      rw [show (pre ++ [x]).length = pre.length + 1 by simp] at ih
      exact ih
theorem zloop_end (hf : ZStep prog w A E z TI TO r0 f) (hA : A.handled = none) : ∀ (ys : List Sz) (k : Nat) (s : Shared) (Q : β → Shared → Prop), ZApart z TI TO ys → IsZip s.heap z TI TO .ellipsis → (∃ arr : List Value, IsTupL s.heap TO arr ∧ arr.length ≤ sizeLine) → Stops s.heap i ys →
    (∀ h' e, (∀ c o, c ≠ z → c ≠ TO → (∀ y ∈ ys, c ≠ y.1) → s.heap.get? c = some o → h'.get? c = some o) → (∃ o, h'.get? e = some o ∧ o.cls = .type "StopIteration") → E (.ref e) { s with heap := h' }) →
    wpAny (model prog w) A (forIn ((ys.map fun y => Value.ref y.1).zipIdx k) r0 f) Q E s
  | [], k, s, Q, D, hz, hT, hh, hE => hh.elim
  | y :: ys, k, s, Q, D, hz, ⟨arr, hT, hm⟩, hh, hE => by
    obtain ⟨its, st, sq, hh⟩ := hh
    rw [List.map_cons, List.zipIdx_cons, List.forIn_cons]
    rcases hh with hx | ⟨⟨x, hx⟩, hh⟩
    · refine wpAny_bind (hf _ _ s _ (next1_end hA st sq hx fun h' e xb he => ?_))
      obtain ⟨oe, ho, hc⟩ := he
      replace xb : Heap.ExtBut y.1 s.heap h' := xb
      have hz1 : IsZip h' z TI TO .ellipsis := xb _ _ (D.zi y (by simp)) hz
      have hez : e ≠ z := fun q => by subst q; rw [hz1] at ho; cases ho; simp at hc
      exact ⟨hz1, fun h2 sb => hE h2 e (fun c o c1 c2 c3 q => sb.extBut _ _ c1 (xb _ _ (c3 y (by simp)) q)) ⟨oe, sb.extBut _ _ hez ho, hc⟩⟩
    · refine wpAny_bind (hf _ _ s _ (next1_item st sq hx fun p1 st1 sb1 => ⟨arr, sb1.extBut _ _ (D.toi y (by simp)) hT, hm, fun h1 hT1 sb2 => ?_⟩))
      replace sb1 : Heap.SameBut y.1 s.heap p1 := sb1
      replace sb2 : Heap.SameBut TO p1 h1 := sb2
      have hz1 : IsZip h1 z TI TO .ellipsis := sb2.extBut _ _ D.toz.symm (sb1.extBut _ _ (D.zi y (by simp)) hz)
      have hh1 : Stops h1 i ys := hh.same fun y' hy' => ⟨fun o e => sb2.extBut _ _ (D.toi y' (by simp [hy'])).symm (sb1.extBut _ _ (D.hd y' hy') e), fun o e => sb2.extBut _ _ (D.lto y' (by simp [hy'])) (sb1.extBut _ _ (D.li y' (by simp [hy']) y (by simp)) e)⟩
      exact zloop_end hf hA ys (k + 1) { s with heap := h1 } Q D.tail hz1 ⟨_, hT1, by rw [List.length_set]; exact hm⟩ hh1 fun h' e a1 a2 => hE h' e (fun c o c1 c2 c3 q => a1 c o c1 c2 (fun y' hy' => c3 y' (by simp [hy'])) (sb2.extBut _ _ c2 (sb1.extBut _ _ (c3 y (by simp)) q))) a2
end
section
variable {prog : Program} {w : World} {A : Around} {E : Value → Shared → Prop} {s : Shared} {z TI TO : Addr} {ys : List Sz} {i : Nat}
theorem zipN_item {arr xs : List Value} {Q : Value → Shared → Prop} (D : ZApart z TI TO ys) (hne : ys ≠ []) (hz : IsZip s.heap z TI TO .none) (hTI : IsTupL s.heap TI (ys.map fun y => Value.ref y.1)) (hTO : IsTupL s.heap TO arr) (hl : arr.length = ys.length) (hm : ys.length ≤ sizeLine) (hh : Heads s.heap i ys xs)
    (hQ : ∀ h', IsZip h' z TI TO (rawInt s.heap.objs.size) → IsTupL h' TO xs → (∀ y ∈ ys, SrcAt h' y (i + 1)) → IsTupL h' s.heap.objs.size xs → h'.objs.size = s.heap.objs.size + 1 →
      (∀ c o, c ≠ z → c ≠ TO → (∀ y ∈ ys, c ≠ y.1) → s.heap.get? c = some o → h'.get? c = some o) → Q (.ref s.heap.objs.size) { s with heap := h' }) :
    wpAny (model prog w) A (Builtin.«zip.__next__» ⟨[.ref z], []⟩) (fun fin s' => ∃ v, fin = .done (.ret v) ∧ Q v s') E s := by
  obtain ⟨hp, g, d, tk0, os⟩ := s
  show wpAny _ _ (field (.ref z) 2 >>= _) _ _ _
  refine wpAny_bind (wpAny_field hz rfl (x := .bool false) rfl ?_)
  show wpAny _ _ (field (.ref z) 3 >>= _) _ _ _
  refine wpAny_bind (wpAny_field hz rfl (x := .ref TI) rfl ?_)
  refine wpAny_bind (wpAny_seqItems hTI rfl ?_)
  have he : (ys.map fun y => Value.ref y.1).toArray.isEmpty = false := by
    cases ys with
    | nil => exact (hne rfl).elim
    | cons y ys => rfl
  simp only [he, Bool.false_eq_true, if_false]
  refine wpAny_bind ?_
  unfold Builtin.SmallTypes.ownedTupleIsFree
  refine wpAny_bind (wpAny_field hz rfl (x := .none) rfl (wpAny_pure ?_))
  simp only [if_true]
  refine wpAny_bind (wpAny_rule ?_)
  refine wpAny_bind (wpAny_field hz rfl (x := .ref TO) rfl ?_)
  refine wpAny_bind (wpAny_setField_rec hz (by simp) fun g0 hz0 hs0 => ?_)
  replace hz0 : IsZip g0 z TI TO .ellipsis := hz0
  replace hs0 : Heap.SameBut z hp g0 := hs0
  have hh0 : Heads g0 i ys xs := hh.same fun y hy => ⟨fun o e => hs0.extBut _ _ (D.zi y hy).symm e, fun o e => hs0.extBut _ _ (D.lz y hy) e⟩
  have hlx : ∀ {ys : List Sz} {xs : List Value}, Heads g0 i ys xs → xs.length = ys.length := by
    intro ys
    induction ys with
    | nil => intro xs q; have q : xs = [] := q; subst q; rfl
    | cons y ys ih => intro xs q; obtain ⟨x, t, its, rfl, _, _, _, r⟩ := q; simp [ih r]
  refine wpAny_bind (zloop (z := z) (TI := TI) (TO := TO) (i := i) (fun v k s Q hs => ?_) ys xs [] arr ⟨g0, g, d, tk0, os⟩ _ D hl (by simpa using hm) hz0 (hs0.extBut _ _ D.toz hTO) hh0 fun h1 a1 a2 a3 a4 a5 => ?_)
  · refine wpAny_bind (wpAny_onRaise (wpAny_bind (wpAny_mono hs (fun x s1 q => ?_) fun e s1 q => ?_)))
    · obtain ⟨arr, hT, ha, q⟩ := q
      refine wpAny_pure ?_
      refine wpAny_bind (wpAny_seqItems hT rfl ?_)
      refine wpAny_bind (wpAny_updateSeq hT rfl ?_ (by simpa using ha) (by simp; omega))
      refine wpAny_bind (wpAny_letGo (wpAny_pure ?_))
      refine q _ ?_ (Heap.SameBut.update ..)
      show _ = _
      rw [Heap.get?_update_self _ hT rfl]
      simp [Obj.mapSeq]
    · obtain ⟨hz1, q⟩ := q
      exact wpAny_setField_rec hz1 (by simp) fun h2 _ sb => q h2 sb
  · replace a5 : h1.objs.size = g0.objs.size := a5
    have hsz : h1.objs.size = hp.objs.size := by rw [a5, hs0.1]
    have a2 : IsTupL h1 TO xs := by simpa using a2
    refine wpAny_bind (wpAny_seqItems (s := ⟨h1, g, d, tk0, os⟩) a2 rfl ?_)
    refine wpAny_bind (wpAny_newTuple ?_ (by rw [List.toList_toArray, hlx hh0]; exact hm))
    have hzlt : z < h1.objs.size := Heap.lt_size a1
    show wpAny _ _ (Builtin.SmallTypes.ownedTupleHandOut (.ref z) (.ref h1.objs.size) >>= _) _ _ ⟨h1.push { cls := .type "tuple", data := .seq xs.toArray.toList.toArray }, g, d, tk0, os⟩
    refine wpAny_bind ?_
    unfold Builtin.SmallTypes.ownedTupleHandOut
    have hz₆ : IsZip (h1.push { cls := .type "tuple", data := .seq xs.toArray.toList.toArray }) z TI TO .ellipsis := Heap.get?_push_of_some _ a1
    refine wpAny_bind (wpAny_setField_rec hz₆ (by simp) fun h₇ hz₇ hs₇ => ?_)
    replace hz₇ : IsZip h₇ z TI TO (rawInt h1.objs.size) := hz₇
    refine wpAny_setField_rec hz₇ (by simp) fun h₈ hz₈ hs₈ => ?_
    replace hz₈ : IsZip h₈ z TI TO (rawInt h1.objs.size) := hz₈
    replace hs₇ : Heap.SameBut z (h1.push { cls := .type "tuple", data := .seq xs.toArray.toList.toArray }) h₇ := hs₇
    replace hs₈ : Heap.SameBut z h₇ h₈ := hs₈
    have up : ∀ c o, c ≠ z → h1.get? c = some o → h₈.get? c = some o := fun c o c1 e => hs₈.extBut _ _ c1 (hs₇.extBut _ _ c1 (Heap.get?_push_of_some _ e))
    have hT₈ : IsTupL h₈ h1.objs.size xs := hs₈.extBut _ _ (Nat.ne_of_gt hzlt) (hs₇.extBut _ _ (Nat.ne_of_gt hzlt) (Heap.get?_push_size _ rfl))
    have hz8 : h₈.objs.size = h1.objs.size + 1 := by rw [hs₈.1, hs₇.1, Heap.size_push]
    rw [hsz] at hz₈ hT₈ hz8
    refine wpAny_pure ⟨_, rfl, ?_⟩
    show Q (.ref h1.objs.size) ⟨h₈, g, d, tk0, os⟩
    rw [hsz]
    exact hQ h₈ hz₈ (up _ _ D.toz a2) (fun y hy => (a3 y hy).same fun o e => up _ _ (D.zi y hy).symm e) hT₈ hz8 fun c o cz ct ci e => up c o cz (a4 c o ct ci (hs0.extBut _ _ cz e))
theorem zipN_end {arr : List Value} {Q : Fin → Shared → Prop} (hA : A.handled = none) (D : ZApart z TI TO ys) (hne : ys ≠ []) (hz : IsZip s.heap z TI TO .none) (hTI : IsTupL s.heap TI (ys.map fun y => Value.ref y.1)) (hTO : IsTupL s.heap TO arr) (hm : arr.length ≤ sizeLine) (hh : Stops s.heap i ys)
    (hE : ∀ h' e, (∀ c o, c ≠ z → c ≠ TO → (∀ y ∈ ys, c ≠ y.1) → s.heap.get? c = some o → h'.get? c = some o) → (∃ o, h'.get? e = some o ∧ o.cls = .type "StopIteration") → E (.ref e) { s with heap := h' }) :
    wpAny (model prog w) A (Builtin.«zip.__next__» ⟨[.ref z], []⟩) Q E s := by
  obtain ⟨hp, g, d, tk0, os⟩ := s
  show wpAny _ _ (field (.ref z) 2 >>= _) _ _ _
  refine wpAny_bind (wpAny_field hz rfl (x := .bool false) rfl ?_)
  show wpAny _ _ (field (.ref z) 3 >>= _) _ _ _
  refine wpAny_bind (wpAny_field hz rfl (x := .ref TI) rfl ?_)
  refine wpAny_bind (wpAny_seqItems hTI rfl ?_)
  have he : (ys.map fun y => Value.ref y.1).toArray.isEmpty = false := by
    cases ys with
    | nil => exact (hne rfl).elim
    | cons y ys => rfl
  simp only [he, Bool.false_eq_true, if_false]
  refine wpAny_bind ?_
  unfold Builtin.SmallTypes.ownedTupleIsFree
  refine wpAny_bind (wpAny_field hz rfl (x := .none) rfl (wpAny_pure ?_))
  simp only [if_true]
  refine wpAny_bind (wpAny_rule ?_)
  refine wpAny_bind (wpAny_field hz rfl (x := .ref TO) rfl ?_)
  refine wpAny_bind (wpAny_setField_rec hz (by simp) fun g0 hz0 hs0 => ?_)
  replace hz0 : IsZip g0 z TI TO .ellipsis := hz0
  replace hs0 : Heap.SameBut z hp g0 := hs0
  have hh0 : Stops g0 i ys := hh.same fun y hy => ⟨fun o e => hs0.extBut _ _ (D.zi y hy).symm e, fun o e => hs0.extBut _ _ (D.lz y hy) e⟩
  refine wpAny_bind (zloop_end (z := z) (TI := TI) (TO := TO) (i := i) (fun v k s Q hs => ?_) hA ys 0 ⟨g0, g, d, tk0, os⟩ _ D hz0 ⟨_, hs0.extBut _ _ D.toz hTO, hm⟩ hh0 fun h1 e a1 a2 => hE h1 e (fun c o c1 c2 c3 q => a1 c o c1 c2 c3 (hs0.extBut _ _ c1 q)) a2)
  refine wpAny_bind (wpAny_onRaise (wpAny_bind (wpAny_mono hs (fun x s1 q => ?_) fun e s1 q => ?_)))
  · obtain ⟨arr, hT, ha, q⟩ := q
    refine wpAny_pure ?_
    refine wpAny_bind (wpAny_seqItems hT rfl ?_)
    refine wpAny_bind (wpAny_updateSeq hT rfl ?_ (by simpa using ha) (by simp; omega))
    refine wpAny_bind (wpAny_letGo (wpAny_pure ?_))
    refine q _ ?_ (Heap.SameBut.update ..)
    show _ = _
    rw [Heap.get?_update_self _ hT rfl]
    simp [Obj.mapSeq]
  · obtain ⟨hz1, q⟩ := q
    exact wpAny_setField_rec hz1 (by simp) fun h2 _ sb => q h2 sb
end
section
variable {prog : Program} {w : World} {A : Around} {E : Value → Shared → Prop} {s : Shared} {z TI TO : Addr} {ys : List Sz} {i : Nat}
theorem nextZ_item {arr xs : List Value} {Q : Option Value → Shared → Prop} (D : ZApart z TI TO ys) (hne : ys ≠ []) (hz : IsZip s.heap z TI TO .none) (hTI : IsTupL s.heap TI (ys.map fun y => Value.ref y.1)) (hTO : IsTupL s.heap TO arr) (hl : arr.length = ys.length) (hm : ys.length ≤ sizeLine) (hh : Heads s.heap i ys xs)
    (hQ : ∀ h', IsZip h' z TI TO (rawInt s.heap.objs.size) → IsTupL h' TO xs → (∀ y ∈ ys, SrcAt h' y (i + 1)) → IsTupL h' s.heap.objs.size xs → h'.objs.size = s.heap.objs.size + 1 →
      (∀ c o, c ≠ z → c ≠ TO → (∀ y ∈ ys, c ≠ y.1) → s.heap.get? c = some o → h'.get? c = some o) → Q (some (.ref s.heap.objs.size)) { s with heap := h' }) :
    wpAny (model prog w) A (pyNext (.ref z)) Q E s := by
  have hT : s.TypeIs (.ref z) "zip" := ⟨_, hz, rfl⟩
  unfold pyNext
  exact wpAny_bind (wpAny_attempt (wpAny_callSpecial?_slot (name := Str.ofString "__next__") hT PySem.F.slot_zip_next (wpAny_call_entry PySem.F.slot_zip_next hT PySem.F.entry_zip_next
    (zipN_item D hne hz hTI hTO hl hm hh fun h' a1 a2 a3 a4 a5 a6 => wpAny_pure (hQ h' a1 a2 a3 a4 a5 a6)) (PySem.F.args_zip_next_1 _))))
theorem nextZ_end {arr : List Value} {Q : Option Value → Shared → Prop} (hA : A.handled = none) (D : ZApart z TI TO ys) (hne : ys ≠ []) (hz : IsZip s.heap z TI TO .none) (hTI : IsTupL s.heap TI (ys.map fun y => Value.ref y.1)) (hTO : IsTupL s.heap TO arr) (hm : arr.length ≤ sizeLine) (hh : Stops s.heap i ys)
    (hQ : ∀ h', (∀ c o, c ≠ z → c ≠ TO → (∀ y ∈ ys, c ≠ y.1) → s.heap.get? c = some o → h'.get? c = some o) → Q none { s with heap := h' }) :
    wpAny (model prog w) A (pyNext (.ref z)) Q E s := by
  have hT : s.TypeIs (.ref z) "zip" := ⟨_, hz, rfl⟩
  unfold pyNext
  refine wpAny_bind (wpAny_attempt (wpAny_callSpecial?_slot (name := Str.ofString "__next__") hT PySem.F.slot_zip_next (wpAny_call_entry PySem.F.slot_zip_next hT PySem.F.entry_zip_next
    (zipN_end (show A.in1.handled = none from hA) D hne hz hTI hTO hm hh fun h' e a1 a2 => ?_) (PySem.F.args_zip_next_1 _))))
  obtain ⟨o, ho, hc⟩ := a2
  refine wpAny_bind (wpAny_isInstance (T := "StopIteration") (b := true) ⟨o, ho, hc⟩ isSubtype_stop ?_)
  exact wpAny_pure (hQ _ a1)
end
/-! ### .. as a loop's iterator -/
/-- what is walked: an address, whether it is a tuple -/
def SqX (K : PySem.W.Frag) (H : Hp) (q : Addr × Bool) (xs : List V) : Prop := (q.2 = true ∧ SqT K H q.1 xs) ∨ (q.2 = false ∧ SqL K H q.1 xs)
def GoZ (K : PySem.W.Frag) (H : Hp) (i : Nat) : List (Addr × Bool) → List V → Prop
  | [], vs => vs = []
  | q :: qs, vs => ∃ v t xs, vs = v :: t ∧ SqX K H q xs ∧ xs[i]? = some v ∧ GoZ K H i qs t
def AllZ (K : PySem.W.Frag) (H : Hp) (i : Nat) : List (Addr × Bool) → List V → Prop
  | [], vs => vs = []
  | q :: qs, vs => ∃ v t, vs = v :: t ∧ (∀ xs, SqX K H q xs → xs[i]? = some v) ∧ AllZ K H i qs t
def StopZ (K : PySem.W.Frag) (H : Hp) (i : Nat) : List (Addr × Bool) → Prop
  | [] => False
  | q :: qs => ∃ xs, SqX K H q xs ∧ (xs.length ≤ i ∨ ((∃ v, xs[i]? = some v) ∧ StopZ K H i qs))
def ItN (K : PySem.W.Frag) (qs : List (Addr × Bool)) : L2.It :=
  ⟨fun i H => ∃ vs, GoZ K H i qs vs, fun i H v H' => ∃ T vs, v = .ref T ∧ H T = none ∧ H' = upd H T (.tup vs) ∧ AllZ K H i qs vs, fun i H => StopZ K H i qs⟩
section
variable {X : Cx} {pins : List (Addr × Obj)} {σ : L2.St} {H : Hp} {s : Shared} {i : Nat}
theorem SqX.inj (I : Inv X pins σ H s) {q : Addr × Bool} {xs ys : List V} (h1 : SqX X.K H q xs) (h2 : SqX X.K H q ys) : xs = ys := by
  rcases h1 with ⟨a, h1⟩ | ⟨a, h1⟩ <;> rcases h2 with ⟨b, h2⟩ | ⟨b, h2⟩
  · exact I.tuple_inj h1 h2
  · rw [a] at b; cases b
  · rw [a] at b; cases b
  · exact I.list_inj h1 h2
theorem SqX.seq (I : Inv X pins σ H s) {y : Sz} {xs : List V} (h : SqX X.K H y.2 xs) : ∃ its : List Value, Vals xs its ∧ SeqAt s.heap y its.toArray := by
  rcases h with ⟨a, h⟩ | ⟨a, h⟩
  · obtain ⟨its, rv, p, _⟩ := I.tuple h
    exact ⟨its, rv, .inl ⟨a, p⟩⟩
  · obtain ⟨its, rv, p, _⟩ := I.list h
    exact ⟨its, rv, .inr ⟨a, p.isList⟩⟩
theorem GoZ.heads (I : Inv X pins σ H s) : ∀ {ys : List Sz} {vs : List V}, GoZ X.K H i (ys.map (·.2)) vs → (∀ y ∈ ys, SrcAt s.heap y i) → ∃ us, Heads s.heap i ys us ∧ Vals vs us ∧ AllZ X.K H i (ys.map (·.2)) vs ∧ vs.length = ys.length
  | [], vs, h, _ => by
    have h : vs = [] := h
    subst h
    exact ⟨[], rfl, .nil, rfl, rfl⟩
  | y :: ys, vs, h, st => by
    obtain ⟨v, t, xs, rfl, h1, h2, h3⟩ := h
    obtain ⟨us, q1, q2, q3, q4⟩ := GoZ.heads I h3 fun y' hy' => st y' (by simp [hy'])
    obtain ⟨its, rv, sq⟩ := SqX.seq I h1
    obtain ⟨u, hu, ru⟩ := rv.get h2
    exact ⟨u :: us, ⟨u, us, its.toArray, rfl, st y (by simp), sq, by simpa using hu, q1⟩, .cons ru q2, ⟨v, t, rfl, fun xs' h' => by rw [← SqX.inj I h1 h']; exact h2, q3⟩, by simp [q4]⟩
theorem StopZ.stops (I : Inv X pins σ H s) : ∀ {ys : List Sz}, StopZ X.K H i (ys.map (·.2)) → (∀ y ∈ ys, SrcAt s.heap y i) → Stops s.heap i ys
  | [], h, _ => h
  | y :: ys, h, st => by
    obtain ⟨xs, h1, h2⟩ := h
    obtain ⟨its, rv, sq⟩ := SqX.seq I h1
    refine ⟨its.toArray, st y (by simp), sq, ?_⟩
    rcases h2 with h2 | ⟨⟨v, h2⟩, h3⟩
    · exact .inl (by have := rv.length; simp; omega)
    · obtain ⟨u, hu, ru⟩ := rv.get h2
      exact .inr ⟨⟨u, by simpa using hu⟩, StopZ.stops I h3 fun y' hy' => st y' (by simp [hy'])⟩
end
theorem mem3 {z TI TO : Addr} {y : Sz} {ys : List Sz} (hy : y ∈ ys) : y.1 ∈ z :: TI :: TO :: ys.map (·.1) := List.mem_cons_of_mem _ (List.mem_cons_of_mem _ (List.mem_cons_of_mem _ (List.mem_map.mpr ⟨y, hy, rfl⟩)))
theorem turn_zipN {P : Program} {w : World} {K : PySem.W.Frag} {elts : List Expr} {kk : Nat} {tpos : Pos} {z TI TO : Addr} {ys : List Sz} (D : ZApart z TI TO ys) (hne : ys ≠ []) (hm : ys.length ≤ sizeLine) :
    Turn P w K (.Tuple elts kk tpos) (ItN K (ys.map (·.2))) (z :: TI :: TO :: ys.map (·.1)) z (fun i h => IsZip h z TI TO .none ∧ IsTupL h TI (ys.map fun y => Value.ref y.1) ∧ (∃ arr, IsTupL h TO arr ∧ arr.length = ys.length) ∧ ∀ y ∈ ys, SrcAt h y i) where
  mem := by simp
  obj := fun i h st c hc => by
    obtain ⟨hz, hTI, ⟨arr, hTO, _⟩, hs⟩ := st
    rcases List.mem_cons.mp hc with q | hc
    · rw [q]; exact ⟨_, hz, fun v q => nomatch q⟩
    rcases List.mem_cons.mp hc with q | hc
    · rw [q]; exact ⟨_, hTI, fun v q => nomatch q⟩
    rcases List.mem_cons.mp hc with q | hc
    · rw [q]; exact ⟨_, hTO, fun v q => nomatch q⟩
    obtain ⟨y, hy, rfl⟩ := List.mem_map.mp hc
    exact (hs y hy).live
  keep := fun i h h' st k => by
    obtain ⟨hz, hTI, ⟨arr, hTO, hl⟩, hs⟩ := st
    exact ⟨k z (by simp) _ hz, k TI (by simp) _ hTI, ⟨arr, k TO (by simp) _ hTO, hl⟩, fun y hy => (hs y hy).same fun o e => k y.1 (mem3 hy) o e⟩
  item := by
    intro X hP hw hK hc i pins s σ H E I hf st hg
    subst hP hw hK
    obtain ⟨hz, hTI, ⟨arr, hTO, hl⟩, hs⟩ := st
    obtain ⟨vs, hg⟩ := hg
    obtain ⟨us, q1, q2, q3, q4⟩ := GoZ.heads I hg hs
    have hzl : z < s.heap.objs.size := Heap.lt_size hz
    refine nextZ_item D hne hz hTI hTO hl hm q1 fun h' z' TO' ss' hT hsz hk => ?_
    refine ⟨_, rfl, wpAny_letOwnedTupleGo_zip (s := { s with heap := h' }) z' fun h'' z'' sb => ?_⟩
    have hT2 : IsTupL h'' s.heap.objs.size us := (sb.2 _ (Nat.ne_of_gt hzl)).trans hT
    have new : ObjOk X.prog X.w (upd H s.heap.objs.size (.tup vs)) h'' s.heap.objs.size (.tup vs) :=
      ⟨by rw [q4]; exact hm, us, q2, ⟨_, hT2, rfl, _, rfl⟩⟩
    have ap : ∀ {c : Addr}, c ∉ z :: TI :: TO :: ys.map (·.1) → c ≠ z ∧ c ≠ TO ∧ ∀ y ∈ ys, c ≠ y.1 := fun {c} hb => ⟨fun q => hb (by simp [q]), fun q => hb (by simp [q]), fun y hy q => hb (by rw [q]; exact mem3 hy)⟩
    have I1 : Inv X pins σ (upd H s.heap.objs.size (.tup vs)) { s with heap := h'' } :=
      I.turnedNew (t' := s.toks) (ch := z :: TI :: TO :: ys.map (·.1)) (fun c o hb q => (sb.2 c (ap hb).1).trans (hk c o (ap hb).1 (ap hb).2.1 (ap hb).2.2 q)) hf (Nat.le_refl _) new
    refine ⟨.ref s.heap.objs.size, _, I1, rfl, ⟨_, vs, rfl, I.hok.fresh (Nat.le_refl _), rfl, q3⟩, ⟨z'', ?_, ⟨us, ?_, ?_⟩, fun y hy => (ss' y hy).same fun o q => (sb.2 _ (D.zi y hy).symm).trans q⟩, fun c hcm => ?_⟩
    · exact (sb.2 _ D.tiz).trans (hk _ _ D.tiz D.tito D.ti hTI)
    · exact (sb.2 _ D.toz).trans TO'
    · rw [← q4, ← q2.length]
    · have hlt : c < s.heap.objs.size := by
        rcases List.mem_cons.mp hcm with q | hcm
        · rw [q]; exact hzl
        rcases List.mem_cons.mp hcm with q | hcm
        · rw [q]; exact Heap.lt_size hTI
        rcases List.mem_cons.mp hcm with q | hcm
        · rw [q]; exact Heap.lt_size hTO
        obtain ⟨y, hy, rfl⟩ := List.mem_map.mp hcm
        obtain ⟨o, e, _⟩ := (hs y hy).live
        exact Heap.lt_size e
      rw [upd_ne (Nat.ne_of_lt hlt)]
      exact (hf c hcm).1
  done := by
    intro X hP hw hK hc i pins s σ H E I hf st hg
    subst hP hw hK
    obtain ⟨hz, hTI, ⟨arr, hTO, hl⟩, hs⟩ := st
    have ap : ∀ {c : Addr}, c ∉ z :: TI :: TO :: ys.map (·.1) → c ≠ z ∧ c ≠ TO ∧ ∀ y ∈ ys, c ≠ y.1 := fun {c} hb => ⟨fun q => hb (by simp [q]), fun q => hb (by simp [q]), fun y hy q => hb (by rw [q]; exact mem3 hy)⟩
    exact nextZ_end (I.ok.hd hc) D hne hz hTI hTO (by rw [hl]; exact hm) (StopZ.stops I hg hs) fun h' hk => ⟨rfl, I.turnedL (t' := s.toks) (ch := z :: TI :: TO :: ys.map (·.1)) (fun c o hb q => hk c o (ap hb).1 (ap hb).2.1 (ap hb).2.2 q) hf⟩
  self := fun A i s Q E st h => wpAny_pyIter_zip st.1 h
/-! ### zip(..) made -/
theorem tcZ (vs : List Value) : checkTypeCall "zip" ⟨vs, []⟩ = pure () := by kernel_rfl
theorem zobj_eq {a a' b b' : Value} (h1 : a = a') (h2 : b = b') : some ({ cls := .type "zip", data := .fields #[.none, .bool false, .bool false, a, b] } : Obj) = some { cls := .type "zip", data := .fields #[.none, .bool false, .bool false, a', b'] } := by rw [h1, h2]
theorem ncZ4 (a b c d : Value) : checkBuiltinCall "zip.__new__" ⟨.type "zip" :: [a, b, c, d], []⟩ = pure () := by kernel_rfl
theorem aoZ (obj : Value) (vs : List Value) : argsOk "object.__init__" ⟨obj :: vs, []⟩ := by unfold argsOk; kernel_rfl
/-- the iterators, from N on -/
def zys (N : Nat) : List (Addr × Bool) → List Sz
  | [] => []
  | q :: qs => (N, q) :: zys (N + 1) qs
theorem zys_length : ∀ (N : Nat) (qs : List (Addr × Bool)), (zys N qs).length = qs.length
  | _, [] => rfl
  | N, q :: qs => by simp [zys, zys_length (N + 1) qs]
theorem zys_snd : ∀ (N : Nat) (qs : List (Addr × Bool)), (zys N qs).map (·.2) = qs
  | _, [] => rfl
  | N, q :: qs => by simp [zys, zys_snd (N + 1) qs]
theorem zys_fst : ∀ (N : Nat) (qs : List (Addr × Bool)) (y : Sz), y ∈ zys N qs → N ≤ y.1 ∧ y.1 < N + qs.length ∧ y.2 ∈ qs
  | _, [], y, h => by cases h
  | N, q :: qs, y, h => by
    rcases List.mem_cons.mp h with e | h
    · subst e; exact ⟨Nat.le_refl _, by simp, by simp⟩
    · obtain ⟨a, b, c⟩ := zys_fst (N + 1) qs y h
      exact ⟨by omega, Nat.lt_of_lt_of_eq b (by rw [List.length_cons]; omega), by simp [c]⟩
theorem zys_nodup : ∀ (N : Nat) (qs : List (Addr × Bool)), ((zys N qs).map (·.1)).Nodup
  | _, [] => List.nodup_nil
  | N, q :: qs => by
    show (N :: (zys (N + 1) qs).map (·.1)).Nodup
    refine List.nodup_cons.mpr ⟨fun h => ?_, zys_nodup (N + 1) qs⟩
    obtain ⟨y, hy, e⟩ := List.mem_map.mp h
    have := (zys_fst (N + 1) qs y hy).1
    omega
/-- a sequence stands there -/
def SeqThere (h : Heap) (q : Addr × Bool) : Prop := ∃ its, SeqAt h (0, q) its
section
variable {prog : Program} {w : World} {A : Around} {E : Value → Shared → Prop}
theorem iter1 {s : Shared} {q : Addr × Bool} {Q : Value → Shared → Prop} (h : SeqThere s.heap q)
    (hQ : ∀ h', SrcAt h' (s.heap.objs.size, q) 0 → h'.objs.size = s.heap.objs.size + 1 → (∀ c o, s.heap.get? c = some o → h'.get? c = some o) → Q (.ref s.heap.objs.size) { s with heap := h' }) : wpAny (model prog w) A (pyIter (.ref q.1)) Q E s := by
  obtain ⟨its, ⟨a, h⟩ | ⟨a, h⟩⟩ := h
  · exact wpAny_pyIter_tuple h (hQ _ (.inl ⟨a, _, Heap.get?_push_size _ rfl, rfl, rfl⟩) (Heap.size_push ..) fun c o e => Heap.get?_push_of_some _ e)
  · exact wpAny_pyIter_list h (hQ _ (.inr ⟨a, _, Heap.get?_push_size _ rfl, rfl, rfl⟩) (Heap.size_push ..) fun c o e => Heap.get?_push_of_some _ e)
theorem iterAll_loop {f : Value → Array Value → Sem (ForInStep (Array Value))} (hf : ∀ (v : Value) (acc : Array Value) (s : Shared) (Q : ForInStep (Array Value) → Shared → Prop), wpAny (model prog w) A (pyIter v) (fun x s1 => Q (.yield (acc.push x)) s1) E s → wpAny (model prog w) A (f v acc) Q E s) :
    ∀ (qs : List (Addr × Bool)) (acc : Array Value) (s : Shared) (Q : Array Value → Shared → Prop), (∀ q ∈ qs, SeqThere s.heap q) →
    (∀ h', (∀ y ∈ zys s.heap.objs.size qs, SrcAt h' y 0) → h'.objs.size = s.heap.objs.size + qs.length → (∀ c o, s.heap.get? c = some o → h'.get? c = some o) → Q (acc.toList ++ (zys s.heap.objs.size qs).map fun y => Value.ref y.1).toArray { s with heap := h' }) →
    wpAny (model prog w) A (forIn (qs.map fun q => Value.ref q.1) acc f) Q E s
  | [], acc, s, Q, _, hQ => by
    have := hQ s.heap (fun y h => by cases h) rfl fun c o e => e
    simpa [zys] using wpAny_pure (M := model prog w) (A := A) (E := E) (s := s) this
  | q :: qs, acc, s, Q, h, hQ => by
    rw [List.map_cons, List.forIn_cons]
    refine wpAny_bind (hf _ _ s _ (iter1 (h q (by simp)) fun h1 st1 sz1 ex1 => ?_))
    refine iterAll_loop hf qs (acc.push (.ref s.heap.objs.size)) { s with heap := h1 } Q (fun q' hq' => ?_) fun h2 st2 sz2 ex2 => ?_
    · obtain ⟨its, hs⟩ := h q' (by simp [hq'])
      exact ⟨its, hs.same fun o e => ex1 _ o e⟩
    · replace sz2 : h2.objs.size = h1.objs.size + qs.length := sz2
      have e1 : zys s.heap.objs.size (q :: qs) = (s.heap.objs.size, q) :: zys h1.objs.size qs := by rw [sz1]; rfl
      have := hQ h2 (fun y hy => ?_) (by rw [sz2, sz1]; simp; omega) fun c o e => ex2 _ _ (ex1 _ _ e)
      · rw [e1] at this
        simpa using this
      · rw [e1] at hy
        rcases List.mem_cons.mp hy with e | hy
        · subst e; exact st1.same fun o e => ex2 _ _ e
        · exact st2 y hy
theorem iterAll_N {qs : List (Addr × Bool)} {s : Shared} {Q : List Value → Shared → Prop} (h : ∀ q ∈ qs, SeqThere s.heap q)
    (hQ : ∀ h', (∀ y ∈ zys s.heap.objs.size qs, SrcAt h' y 0) → h'.objs.size = s.heap.objs.size + qs.length → (∀ c o, s.heap.get? c = some o → h'.get? c = some o) → Q ((zys s.heap.objs.size qs).map fun y => Value.ref y.1) { s with heap := h' }) :
    wpAny (model prog w) A (Builtin.SmallTypes.iterAll (qs.map fun q => Value.ref q.1)) Q E s := by
  unfold Builtin.SmallTypes.iterAll
  refine wpAny_bind (iterAll_loop (fun v acc s Q h => ?_) qs #[] s _ h fun h' a b c => wpAny_pure (by simpa using hQ h' a b c))
  exact wpAny_bind (wpAny_holding (wpAny_mono h (fun x s1 q => wpAny_pure q) fun _ _ e => e))
theorem meets_zipN (qs : List (Addr × Bool)) (hm : qs.length ≤ sizeLine) : Meets (Builtin.«zip.__new__» ⟨.type "zip" :: qs.map fun q => Value.ref q.1, []⟩) (fun _ R s => (∀ q ∈ qs, SeqThere s.heap q) ∧
    ∀ h', IsZip h' (s.heap.objs.size + qs.length + 2) (s.heap.objs.size + qs.length) (s.heap.objs.size + qs.length + 1) .none → IsTupL h' (s.heap.objs.size + qs.length) ((zys s.heap.objs.size qs).map fun y => Value.ref y.1) →
      (∃ arr, IsTupL h' (s.heap.objs.size + qs.length + 1) arr ∧ arr.length = qs.length) → (∀ y ∈ zys s.heap.objs.size qs, SrcAt h' y 0) → (∀ c o, s.heap.get? c = some o → h'.get? c = some o) → R (.ok (.ret (.ref (s.heap.objs.size + qs.length + 2)))) { s with heap := h' }) :=
  .of_wp fun prog w A R s h => by
    obtain ⟨hp, g, d, tk, os⟩ := s
    obtain ⟨h, hR⟩ := h
    have hsub := sub_zip
    unfold Builtin.«zip.__new__»
    refine wpAny_bind ?_
    unfold Builtin.SmallTypes.newClass
    refine wpAny_bind (wpAny_pure ?_)
    show wpAny _ _ (isSubtype (Value.type "zip") (Value.type "zip") >>= _) _ _ _
    rw [hsub]
    refine wpAny_bind (wpAny_pure (wpAny_pure ?_))
    show wpAny _ _ (Builtin.SmallTypes.iterAll (qs.map fun q => Value.ref q.1) >>= _) _ _ _
    refine wpAny_bind (iterAll_N h fun h1 st sz ex => ?_)
    replace sz : h1.objs.size = hp.objs.size + qs.length := sz
    have hl : ((zys hp.objs.size qs).map fun y => Value.ref y.1).length = qs.length := by rw [List.length_map, zys_length]
    refine wpAny_bind (wpAny_newTuple ?_ (by rw [hl]; exact hm))
    refine wpAny_bind (wpAny_newTuple ?_ (by rw [List.length_map, hl]; exact hm))
    refine wpAny_bind ?_
    unfold Builtin.SmallTypes.newRecord
    refine wpAny_newObj_type ?_ (by simp [sizeOk, Builtin.SmallTypes.ownedTupleFields, sizeLine_eq])
    refine wpAny_pure ⟨_, rfl, ?_⟩
    have z2 : (h1.push { cls := .type "tuple", data := .seq ((zys hp.objs.size qs).map fun y => Value.ref y.1).toArray }).objs.size = hp.objs.size + qs.length + 1 := by rw [Heap.size_push, sz]
    have z3 : ((h1.push { cls := .type "tuple", data := .seq ((zys hp.objs.size qs).map fun y => Value.ref y.1).toArray }).push { cls := .type "tuple", data := .seq (((zys hp.objs.size qs).map fun y => Value.ref y.1).map fun _ => Value.none).toArray }).objs.size = hp.objs.size + qs.length + 2 := by rw [Heap.size_push, z2]
    show R (.ok (.ret (.ref ((h1.push { cls := .type "tuple", data := .seq ((zys hp.objs.size qs).map fun y => Value.ref y.1).toArray }).push { cls := .type "tuple", data := .seq (((zys hp.objs.size qs).map fun y => Value.ref y.1).map fun _ => Value.none).toArray }).objs.size))) _
    rw [z3]
    refine hR _ ?_ ?_ ⟨(((zys hp.objs.size qs).map fun y => Value.ref y.1).map fun _ => Value.none), ?_, by rw [List.length_map, hl]⟩ (fun y hy => (st y hy).same fun o e => Heap.get?_push_of_some _ (Heap.get?_push_of_some _ (Heap.get?_push_of_some _ e))) fun c o e => Heap.get?_push_of_some _ (Heap.get?_push_of_some _ (Heap.get?_push_of_some _ (ex c o e)))
    · show Heap.get? _ _ = _
      rw [← z3]
      refine (Heap.get?_push_size _ rfl).trans ?_
      exact zobj_eq (congrArg Value.ref sz) (congrArg Value.ref z2)
    · show Heap.get? _ _ = _
      rw [← sz]
      exact Heap.get?_push_of_some _ (Heap.get?_push_of_some _ (Heap.get?_push_size _ rfl))
    · show Heap.get? _ _ = _
      rw [← z2]
      exact Heap.get?_push_of_some _ (Heap.get?_push_size _ rfl)
end
def NcZ (n : Nat) : Prop := ∀ vs : List Value, vs.length = n → checkBuiltinCall "zip.__new__" ⟨.type "zip" :: vs, []⟩ = pure ()
theorem ncz2 : NcZ 2 := fun vs h => by
  match vs, h with
  | [a, b], _ => exact PySem.F.newCall_zip_2 a b
theorem ncz4 : NcZ 4 := fun vs h => by
  match vs, h with
  | [a, b, c, d], _ => exact ncZ4 a b c d
theorem zapart_new {N : Nat} {qs : List (Addr × Bool)} (h : ∀ q ∈ qs, q.1 < N) : ZApart (N + qs.length + 2) (N + qs.length) (N + qs.length + 1) (zys N qs) := by
  have f := zys_fst N qs
  refine ⟨Nat.ne_of_lt (Nat.lt_add_of_pos_right (by decide)), Nat.ne_of_lt (Nat.lt_succ_self _), Nat.ne_of_lt (Nat.lt_succ_self _), fun y hy => ?_, fun y hy => ?_, fun y hy => ?_, zys_nodup N qs, fun y hy => ?_, fun y hy => ?_, fun y hy y' hy' => ?_⟩
  · exact Nat.ne_of_gt (f y hy).2.1
  · exact Nat.ne_of_gt (Nat.lt_of_lt_of_le (f y hy).2.1 (by omega))
  · exact Nat.ne_of_gt (Nat.lt_of_lt_of_le (f y hy).2.1 (by omega))
  · exact Nat.ne_of_lt (Nat.lt_of_lt_of_le (h _ (f y hy).2.2) (by omega))
  · exact Nat.ne_of_lt (Nat.lt_of_lt_of_le (h _ (f y hy).2.2) (by omega))
  · exact Nat.ne_of_lt (Nat.lt_of_lt_of_le (h _ (f y hy).2.2) (f y' hy').1)
theorem vals_refs {s : Shared} : ∀ {qs : List (Addr × Bool)} {us : List Value}, Vals (qs.map fun q => V.ref q.1) us → us = qs.map fun q => Value.ref q.1
  | [], _, h => by cases h; rfl
  | q :: qs, _, h => by
    rw [List.map_cons] at h
    cases h with
    | cons a b => rw [vals_refs (s := s) b, List.map_cons]; exact congrArg (· :: _) a
section
variable {X : Cx} {e : Expr} {es : List Expr} {ta : TA} {p pos tpos : Pos} {elts : List Expr} {kk n : Nat}
theorem pi_zipN (hn : NcZ n) (hn4 : 0 < n ∧ n ≤ 9) (hg : Gl X "zip") (hm : X.mg "zip" = none) (ha : PA X (e :: es) ta) (hs : starEach (e :: es) X.env = (false, eval e X.env) :: starEach es X.env := by rfl) (hpl : (backTo pos (starEach es X.env)).any (·.1) = false := by rfl) :
    PI X (.Tuple elts kk tpos) (.Call (.Name "zip" p) (e :: es) [] pos) (fun σ H R => ta σ H fun vs H1 => ∃ qs : List (Addr × Bool), vs = (qs.map fun q => V.ref q.1) ∧ qs.length = n ∧ (∀ q ∈ qs, ∃ xs, SqX X.K H1 q xs) ∧ R (ItN X.K qs) H1) := by
  refine ⟨fun pins s σ H R I h => ?_⟩
  refine Call_ (ld_blt I hg hm PyProof.Rows.boot_zip (PyProof.Rows.callWith_type1 (thn (ha.run pos pins s σ H _ I h) fun us s1 ⟨vs, H1, I1, r1, q1⟩ => ?_) hs hpl))
  obtain ⟨qs, ex, hl, hq, q⟩ := q1
  subst ex
  rw [vals_refs (s := s1) r1]
  have hm2 : qs.length ≤ sizeLine := by rw [hl, sizeLine_eq]; omega
  have there : ∀ q ∈ qs, SeqThere s1.heap q := fun q hq' => by
    obtain ⟨xs, hx⟩ := hq q hq'
    obtain ⟨its, _, sq⟩ := SqX.seq (y := (0, q)) I1 hx
    exact ⟨_, sq⟩
  have low : ∀ q ∈ qs, q.1 < s1.heap.objs.size := fun q hq' => by
    obtain ⟨its, ⟨_, o, e, _⟩ | ⟨_, o, e, _⟩⟩ := there q hq' <;> exact Heap.lt_size e
  have D := zapart_new low
  refine callType_new PySem.F.called_zip (by decide) (tcZ _) (hn _ (by rw [List.length_map]; exact hl)) (fun obj => aoZ obj _) PySem.F.entry_zip_new (meets_zipN qs hm2) ⟨there, fun h' hz hTI hTO hst hk => ⟨⟨_, hz, rfl⟩, wpAny_pyIter_zip (s := { s1 with heap := h' }) hz ?_⟩⟩
  have I2 : Inv X pins σ H1 { s1 with heap := h' } := I1.kept (t' := s1.toks) hk
  have tn := turn_zipN (P := X.prog) (w := X.w) (K := X.K) (elts := elts) (kk := kk) (tpos := tpos) D (by intro e; have := zys_length s1.heap.objs.size qs; rw [e] at this; simp at this; omega) (by rw [zys_length]; exact hm2)
  rw [zys_snd] at tn
  obtain ⟨arr, hTO, hla⟩ := hTO
  refine ⟨_, _, _, _, H1, rfl, I2, tn, ⟨hz, hTI, ⟨arr, hTO, by rw [hla, zys_length]⟩, hst⟩, fun b hb => ?_, q⟩
  have hle : s1.heap.objs.size ≤ b := by
    rcases List.mem_cons.mp hb with z | hb
    · rw [z]; omega
    rcases List.mem_cons.mp hb with z | hb
    · rw [z]; omega
    rcases List.mem_cons.mp hb with z | hb
    · rw [z]; omega
    obtain ⟨y, hy, rfl⟩ := List.mem_map.mp hb
    exact (zys_fst _ _ y hy).1
  exact I1.fpOk hle (I1.hok.fresh hle)
end
end Dd

set_option Elab.async false
set_option linter.all false
set_option maxRecDepth 100000
namespace Dd
open PySem PySem.Spec PyProof.Rows L2
/-! ### zip of any number of lists and tuples -/
def getLs : List R → Sg → Option (List (List D))
  | [], _ => some []
  | x :: xs, S => (match getL x S with
    | some l => (match getLs xs S with
      | some ls => some (l :: ls)
      | none => none)
    | none => none)
def zipL : List (List D) → List (List D)
  | [] => []
  | [l] => l.map fun d => [d]
  | l :: l2 :: ls => List.zipWith (fun d ds => d :: ds) l (zipL (l2 :: ls))
def zipNK (n : Nat) (S : Sg) (xs : List R) : Res (Itm (List D)) := match getLs xs S with
  | some ls => if xs.length = n then .ok ⟨fun S' => getLs xs S' = some ls, zipL ls⟩ S else .bad
  | none => .bad
def itZn (n : Nat) (g : M (List R)) : M (Itm (List D)) := do
  let xs ← g
  fun S => zipNK n S xs
def kindB : R → Bool
  | .p (.tup _) => true
  | _ => false
def addrOf : V → Addr
  | .ref a => a
  | _ => 0
def qsOf : List R → List V → List (Addr × Bool)
  | x :: xs, v :: vs => (addrOf v, kindB x) :: qsOf xs vs
  | _, _ => []
section
variable {c : Cg} {Γ : Gh} {S : Sg} {σ : L2.St} {H : Hp} {i : Nat}
theorem getX_ok {x : R} {v : V} {l : List D} (F : FrOk c Γ S σ H) (hx : RepR c Γ x v) (h : getL x S = some l) : ∃ a vs, v = .ref a ∧ SqX c.K H (addrOf v, kindB x) vs ∧ RepL c Γ.G l vs := by
  rcases getL_kind h with q | rfl
  · obtain ⟨a, vs, rfl, h1, h2⟩ := getLst_ok F hx ((q S).trans h)
    refine ⟨a, vs, rfl, .inr ⟨?_, h1⟩, h2⟩
    cases x with
    | r n => rfl
    | p d =>
      cases d with
      | tup l' => have := q S; cases this
      | _ => rfl
  · obtain ⟨a, vs, rfl, h1, h2⟩ := Rep.tup_iff.mp (RepR.pure.mp hx)
    exact ⟨a, vs, rfl, .inl ⟨rfl, (TupS.mono F.s.g h1).sq⟩, h2⟩
theorem getLs_cons {x : R} {xs : List R} {ls : List (List D)} (h : getLs (x :: xs) S = some ls) : ∃ l t, ls = l :: t ∧ getL x S = some l ∧ getLs xs S = some t := by
  unfold getLs at h
  cases q : getL x S with
  | none => rw [q] at h; cases h
  | some l =>
    rw [q] at h
    simp only at h
    cases q2 : getLs xs S with
    | none => rw [q2] at h; cases h
    | some t => rw [q2] at h; cases h; exact ⟨l, t, rfl, rfl, rfl⟩
theorem zipN_there (F : FrOk c Γ S σ H) : ∀ {xs : List R} {vs : List V} {ls : List (List D)}, RepRL c Γ xs vs → getLs xs S = some ls → vs = (qsOf xs vs).map (fun q => V.ref q.1) ∧ (qsOf xs vs).length = xs.length ∧ ∀ q ∈ qsOf xs vs, ∃ ws, SqX c.K H q ws
  | [], vs, ls, r, _ => by
    have r : vs = [] := r
    subst r
    exact ⟨rfl, rfl, fun q h => by cases h⟩
  | x :: xs, vs, ls, r, h => by
    obtain ⟨v, t, rfl, r1, r2⟩ := r
    obtain ⟨l, t2, rfl, h1, h2⟩ := getLs_cons h
    obtain ⟨a, ws, rfl, q1, q2⟩ := getX_ok F r1 h1
    obtain ⟨e1, e2, e3⟩ := zipN_there F r2 h2
    refine ⟨?_, by simp [qsOf, e2], fun q hq => ?_⟩
    · show _ :: t = _ :: _
      rw [← e1]; rfl
    · rcases List.mem_cons.mp hq with e | hq
      · subst e; exact ⟨ws, q1⟩
      · exact e3 q hq
theorem zipN_go (F : FrOk c Γ S σ H) : ∀ {xs : List R} {vs : List V} {ls : List (List D)}, RepRL c Γ xs vs → getLs xs S = some ls → xs ≠ [] →
    (∀ ds, (zipL ls)[i]? = some ds → ∃ ws, GoZ c.K H i (qsOf xs vs) ws ∧ ∀ ws', AllZ c.K H i (qsOf xs vs) ws' → RepL c Γ.G ds ws') ∧ ((zipL ls).length ≤ i → StopZ c.K H i (qsOf xs vs))
  | [], vs, ls, r, _, hne => (hne rfl).elim
  | x :: xs, vs, ls, r, h, _ => by
    obtain ⟨v, t, rfl, r1, r2⟩ := r
    obtain ⟨l, t2, rfl, h1, h2⟩ := getLs_cons h
    obtain ⟨a, ws, rfl, q1, q2⟩ := getX_ok F r1 h1
    cases xs with
    | nil =>
      have r2 : t = [] := r2
      subst r2
      cases h2
      refine ⟨fun ds hd => ?_, fun hl => ⟨ws, q1, .inl ?_⟩⟩
      · have hd : (l.map fun d => [d])[i]? = some ds := hd
        rw [List.getElem?_map] at hd
        cases e : l[i]? with
        | none => rw [e] at hd; cases hd
        | some d =>
          rw [e] at hd; cases hd
          obtain ⟨w, k1, k2⟩ := q2.get e
          refine ⟨[w], ⟨w, [], ws, rfl, q1, k1, rfl⟩, fun ws' hw => ?_⟩
          obtain ⟨w', t', rfl, a1, a2⟩ := hw
          have a2 : t' = [] := a2
          subst a2
          have := a1 ws q1
          rw [k1] at this; cases this
          exact RepL.one k2
      · have hl : (l.map fun d => [d]).length ≤ i := hl
        rw [List.length_map] at hl
        rw [q2.length]; exact hl
    | cons x2 xs =>
      obtain ⟨l2, t3, rfl, _, _⟩ := getLs_cons h2
      obtain ⟨g1, g2⟩ := zipN_go F r2 h2 (by simp)
      have ez : zipL (l :: l2 :: t3) = List.zipWith (fun d ds => d :: ds) l (zipL (l2 :: t3)) := rfl
      rw [ez]
      refine ⟨fun ds hd => ?_, fun hl => ?_⟩
      · rw [List.getElem?_zipWith] at hd
        cases e : l[i]? with
        | none => rw [e] at hd; cases hd
        | some d =>
          rw [e] at hd
          cases e2 : (zipL (l2 :: t3))[i]? with
          | none => rw [e2] at hd; cases hd
          | some ds2 =>
            rw [e2] at hd; cases hd
            obtain ⟨w, k1, k2⟩ := q2.get e
            obtain ⟨ws2, b1, b2⟩ := g1 ds2 e2
            refine ⟨w :: ws2, ⟨w, ws2, ws, rfl, q1, k1, b1⟩, fun ws' hw => ?_⟩
            obtain ⟨w', t', rfl, a1, a2⟩ := hw
            have := a1 ws q1
            rw [k1] at this; cases this
            exact RepL.cons k2 (b2 t' a2)
      · rw [List.length_zipWith] at hl
        refine ⟨ws, q1, ?_⟩
        by_cases hi : l.length ≤ i
        · exact .inl (by rw [q2.length]; exact hi)
        · have hlt : i < l.length := by omega
          obtain ⟨w, k1, k2⟩ := q2.get (List.getElem?_eq_getElem hlt)
          exact .inr ⟨⟨w, k1⟩, g2 (by omega)⟩
end
theorem RepRL.sub {c : Cg} {Γ Γ' : Gh} (e : Γ.sub Γ') : ∀ {x : List R} {v : List V}, RepRL c Γ x v → RepRL c Γ' x v
  | [], v, h => h
  | x :: xs, v, h => by
    obtain ⟨u, r, h1, h2, h3⟩ := h
    exact ⟨u, r, h1, RepR.sub e h2, RepRL.sub e h3⟩
section
variable {X : Cx} {c : Cg} {W : WX} {e : Expr} {es : List Expr} {g : M (List R)} {pos p tpos : Pos} {elts : List Expr} {kk n : Nat}
theorem si_zipN (hK : X.K = c.K) (hn : NcZ n) (hn4 : 0 < n ∧ n ≤ 9) (hg : Gl X "zip") (hm : X.mg "zip" = none) (ha : PA X (e :: es) (rdA c W g))
    (hs : starEach (e :: es) X.env = (false, eval e X.env) :: starEach es X.env := by rfl) (hpl : (backTo pos (starEach es X.env)).any (·.1) = false := by rfl) :
    PI X (.Tuple elts kk tpos) (.Call (.Name "zip" p) (e :: es) [] pos) (rdIT c W (itZn n g)) :=
  siT_of (pi_zipN hn hn4 hg hm ha hs hpl) fun σ H R q => by
    obtain ⟨Γ, S, F, P⟩ := q
    refine ⟨Γ, S, F, ?_⟩
    refine (Post.bind P).imp fun xs S1 Γ1 H1 e1 F1 ⟨_, P1⟩ vs hvs => ?_
    unfold zipNK at P1
    cases q1 : getLs xs S1 with
    | none => rw [q1] at P1; exact P1.elim
    | some ls =>
      rw [q1] at P1
      simp only at P1
      by_cases hx : xs.length = n
      · rw [if_pos hx] at P1
        have P2 := fun J hJ => Post.ok (c := c) (W := W) P1 Gh.le.refl F1 J hJ
        obtain ⟨t1, t2, t3⟩ := zipN_there F1 hvs q1
        refine ⟨qsOf xs vs, t1, by rw [t2, hx], hK ▸ t3, P2 _ ?_⟩
        intro Γ5 S5 σ5 H5 i sb F5 hok
        have hok : getLs xs S5 = some ls := hok
        have hv5 : RepRL c Γ5 xs vs := hvs.sub sb
        obtain ⟨g1, g2⟩ := zipN_go (i := i) F5 hv5 hok (by intro e; rw [e] at hx; simp at hx; omega)
        rw [hK]
        refine ⟨fun ds hd => ?_, fun hl => g2 (Nat.le_of_eq hl)⟩
        obtain ⟨ws, b1, b2⟩ := g1 ds hd
        refine ⟨⟨ws, b1⟩, fun z H' hz => ?_⟩
        obtain ⟨T, ws', rfl, hT, rfl, a2⟩ := hz
        obtain ⟨Γ', le', F'⟩ := newW_ok (vs := ws') F5 hT
        exact ⟨Γ', T, _, le', F', rfl, upd_same, RepL.mono le'.g (b2 ws' a2)⟩
      · rw [if_neg hx] at P1; exact P1.elim
end
end Dd

set_option Elab.async false
set_option linter.all false
set_option maxRecDepth 100000
namespace Dd
open PySem PySem.Spec PyProof.Rows L2
/-! ### a list's item op= an int -/
def rGetN : V → V → Hp → VK → Prop := fun o i H Q => ∃ p xs k v, o = .ref p ∧ i = .int k ∧ 0 ≤ k ∧ H p = some (.lst xs) ∧ xs[k.toNat]? = some v ∧ Q v H
theorem get_listN {X : Cx} : PGet X rGetN := by
  intro pins s σ H o i ov iv Q I ro ri h
  obtain ⟨p, xs, k, v, rfl, rfl, hk, hp, hv, q⟩ := h
  cases ro
  obtain ⟨t, rfl⟩ := ri
  obtain ⟨its, r, pl, hz⟩ := I.list (.inl (.inl hp))
  obtain ⟨w, ew, rw'⟩ := r.get hv
  have hl := r.length
  have hlt := (List.getElem?_eq_some_iff.mp ew).1
  have hn := line63
  exact wpAny_getItem_list pl.isList hk (by omega) (by simpa using ew) ⟨v, H, I, rw', q⟩
def getAtI (o i : R) : M Int := fun S => match o with
  | .p _ => .bad
  | .r n => (match asI i with
    | some k => (match S.st[n]? with
      | some (.mu (.lst l)) => if 0 ≤ k then (match l[k.toNat]? with
        | some (.int j) => .ok j S
        | _ => .bad) else .bad
      | _ => .bad)
    | none => .bad)
def augAt (g : Int → Int → Int) (o i : R) (old : Int) (x : R) : M Unit := fun S => match x with
  | .p (.int j) => setAt o i (.int (g old j)) S
  | _ => .bad
/-- o[i] op= e -/
def sAugS (g : Int → Int → Int) (fo fi fe : M R) : M Fl := do
  let o ← fo
  let i ← fi
  let old ← getAtI o i
  let x ← fe
  let _ ← augAt g o i old x
  pure .nx
section
variable {X : Cx} {c : Cg} {W : WX} {o i e : Expr} {fo fi fe : M R} {tpos pos : Pos} {op : Operator} {gg : Int → Int → Int}
theorem ss_augS (hp : PIp X op (ipI gg)) (ho : PE X o (rdE c W fo)) (hi : PE X i (rdE c W fi)) (he : PE X e (rdE c W fe))
    (ha : ∀ ov iv new, augStore i ov iv new = (do holding [new, ov, iv] (setItem ov iv new); release [new, ov, iv] []; pure .next) := by intros; rfl) :
    PS X (.AugAssign (.Subscript o i tpos) op e pos) (rdS c W (sAugS gg fo fi fe)) := ss_of (ps_augS ho hi get_listN he hp set_list ha) fun E σ H q => by
  obtain ⟨Γ, S, F, P⟩ := q
  refine ⟨Γ, S, F, (PostS.bindE P).imp fun ox S1 Γ1 H1 e1 F1 ⟨_, P1⟩ ov hov => ?_⟩
  refine ⟨Γ1, S1, F1, (PostS.bindE P1).imp fun ix S2 Γ2 H2 e2 F2 ⟨_, P2⟩ iv hiv => ?_⟩
  have P3 := PostS.bindE (σ := σ) P2
  unfold getAtI at P3
  cases ox with
  | p d => exact P3.elim
  | r n =>
    simp only at P3
    cases hk : asI ix with
    | none => rw [hk] at P3; exact P3.elim
    | some k =>
      rw [hk] at P3
      simp only at P3
      split at P3
      · rename_i l hn
        by_cases h0 : 0 ≤ k
        · rw [if_pos h0] at P3
          split at P3
          · rename_i j hj
            obtain ⟨a, vs, rfl, r1, r2, r3, upd'⟩ := lstC F2 (hov.mono e2) hn
            obtain ⟨v, q1, q2⟩ := r3.get hj
            have hv := Rep.int_iff.mp q2
            subst hv
            have hiv' := asI_rep hiv hk
            subst hiv'
            refine ⟨a, vs, k, _, rfl, rfl, h0, r2, q1, ?_⟩
            obtain ⟨_, P4⟩ := Post.ok (c := c) (W := W) P3 Gh.le.refl F2
            refine ⟨Γ2, S2, F2, (PostS.bindE P4).imp fun x S3 Γ3 H3 e3 F3 ⟨_, P5⟩ y hy => ?_⟩
            have P6 := PostS.bindE (σ := σ) P5
            unfold augAt at P6
            cases x with
            | r m => exact P6.elim
            | p dd =>
            cases dd with
            | int j2 =>
              have hy' := RepR.int hy
              subst hy'
              refine ⟨j, j2, rfl, rfl, ?_⟩
              unfold setAt at P6
              simp only at P6
              rw [hk] at P6
              simp only at P6
              split at P6
              · rename_i l2 hn2
                split at P6
                · rename_i m hm
                  obtain ⟨a', vs', e4, r1', r2', r3', upd2⟩ := lstC F3 (hov.mono (e2.trans e3)) hn2
                  cases e4
                  refine ⟨a, vs', k, m, rfl, rfl, r2', by rw [r3'.length]; exact hm, ?_⟩
                  have F5 := upd2 (l2.set m (.int (gg j j2))) (vs'.set m (.int (gg j j2))) (r3'.set m (Rep.int_iff.mpr rfl))
                  obtain ⟨_, P7⟩ := Post.ok (c := c) (W := W) P6 Gh.le.refl F5
                  exact P7 Γ3 σ _ Gh.le.refl F5
                · exact P6.elim
              · exact P6.elim
            | _ => exact P6.elim
          · exact P3.elim
        · rw [if_neg h0] at P3; exact P3.elim
      · exact P3.elim
end
/-! ### is True, is False -/
section
variable {X : Cx} {c : Cg} {W : WX} {a b : Expr} {fa fb : M R} {pos : Pos}
end
/-! ### xs != [], whatever the list holds -/
def opNeE : R → R → M R := fun x y S => match getLst x S with
  | some l => (match getLst y S with
    | some [] => .ok (.p (.bl (!l.isEmpty))) S
    | _ => .bad)
  | none => .bad
theorem op_neE {X : Cx} (hu : X.A.units + 2 < cLine) : OpR X (compareOp .NotEq) (fun x y H Q => ∃ a b xs, x = .ref a ∧ y = .ref b ∧ SqL X.K H a xs ∧ SqL X.K H b [] ∧ Q (.bl (!xs.isEmpty)) H) := by
  intro pins s σ H x y v u Q I rx ry h
  obtain ⟨a, b, xs, rfl, rfl, h1, h2, q⟩ := h
  cases (show v = Value.ref a from rx)
  cases (show u = Value.ref b from ry)
  obtain ⟨its, r1, p1, _⟩ := I.list h1
  obtain ⟨its2, r2, p2, _⟩ := I.list h2
  cases r2
  have hl := r1.length
  cases xs with
  | nil =>
    have e : its = [] := List.eq_nil_of_length_eq_zero hl.symm
    subst e
    have := SeqAt.RcNeAt.lists (A := X.A) (e := fun _ => true) p1.isList p2.isList rfl (by omega) (fun j h1 => by simp at h1)
    exact this X.prog X.w X.xe _ ⟨.bl false, H, I, rfl, q⟩
  | cons y ys =>
    have hs : (its.toArray.size != ([] : List Value).toArray.size) = true := by
      rw [List.length_cons] at hl
      simp only [List.size_toArray, List.length_nil, bne_iff_ne]
      omega
    have := SeqAt.RcNeAt.lists_lengths (A := X.A) p1.isList p2.isList hs (by omega)
    exact this X.prog X.w X.xe _ ⟨.bl true, H, I, rfl, q⟩
section
variable {X : Cx} {c : Cg} {W : WX} {a b : Expr} {fa fb : M R} {pos : Pos}
theorem od_neE (hK : X.K = c.K) : OpD c W opNeE (fun x y H Q => ∃ a b xs, x = .ref a ∧ y = .ref b ∧ SqL X.K H a xs ∧ SqL X.K H b [] ∧ Q (.bl (!xs.isEmpty)) H) := by
  intro Γ S σ H x y v w Q F hx hy P
  unfold opNeE at P
  cases h1 : getLst x S with
  | none => rw [h1] at P; exact P.elim
  | some l =>
    rw [h1] at P
    simp only at P
    cases h2 : getLst y S with
    | none => rw [h2] at P; exact P.elim
    | some m =>
      rw [h2] at P
      cases m with
      | cons d ds => exact P.elim
      | nil =>
        obtain ⟨a, vs, rfl, q1, q2⟩ := getLst_ok F hx h1
        obtain ⟨b, ws, rfl, q3, q4⟩ := getLst_ok F hy h2
        rw [RepL.nil_iff.mp q4] at q3
        have e : vs.isEmpty = l.isEmpty := by
          have := q2.length
          cases vs <;> cases l <;> first | rfl | (simp at this)
        refine ⟨a, b, vs, rfl, rfl, hK ▸ q1, hK ▸ q3, ?_⟩
        rw [e]
        exact Post.ok (c := c) (W := W) P Gh.le.refl F _ (RepR.pure.mpr (Rep.bl_iff.mpr rfl))
theorem t_neE {k : Nat} (hr : Room k X.A) (hK : X.K = c.K) (ha : PE X a (rdE c W fa)) (hb : PE X b (rdE c W fb)) (hm : behindInMarks .NotEq b = false := by rfl) : PT X (.Compare a [.NotEq] [b] pos) (rdT c W (tst (bin opNeE fa fb))) := st_cmp (op_neE (by have := hu66 hr; omega)) (od_neE hK) ha hb hm
end
theorem opNeE_e {x y : R} {S : Sg} {l : List D} (h1 : getLst x S = some l) (h2 : getLst y S = some []) : opNeE x y S = .ok (.p (.bl (!l.isEmpty))) S := by
  unfold opNeE; rw [h1, h2]
end Dd

set_option Elab.async false
set_option linter.all false
set_option maxRecDepth 100000
namespace Dd
open PySem PySem.Spec PyProof.Rows L2
/-! ### names in parallel, some of them cells: by a tuple -/
section
variable {X : Cx} {c : Cg} {W : WX} {x y z : Str} {a b d : Expr} {g : M (List R)} {px py pz pt pos : Pos} {k2 pt2} {kt : Nat} {i j l : Nat}
end
end Dd

set_option Elab.async false
set_option linter.all false
set_option maxRecDepth 100000
set_option maxHeartbeats 1000000
/-! own exceptions: raise, try .. except DitherError as e, isinstance -/
namespace Dd
open PySem PySem.Spec PyProof.Rows L2
/-! ### a try whose suite keeps the exception -/
section
variable {X : Cx} {pins : List (Addr × Obj)} {σ : L2.St} {H : Hp} {s : Shared}
/-- an object that stands on the ground, taken into the ledger -/
theorem lay0 {a : Addr} {o : HO} (I : L2.Inv X pins σ H s) (na : H a = none) (n0 : X.s_0.heap.get? a = none) (nL : a ≠ X.env.locals) (nC : ∀ x b, X.env.cells.lookup x = some b → b ≠ a) (nP : ∀ p ∈ X.pn ++ pins, p.1 ≠ a)
    (new : ObjOk X.prog X.w (upd H a o) s.heap a o) : L2.Inv X pins σ (upd H a o) s where
  ok := I.ok
  os := I.os
  bare := I.bare
  base := {
    keep := I.base.keep
    slot := I.base.slot
    free := fun b u e n x => by
      rw [upd_ne (fun z => by rw [z, n0] at e; cases e)]
      exact I.base.free b u e n x
    there := I.base.there
    tups := fun b xs e => by
      have z := I.base.tups b xs e
      rw [upd_ne (ne_of_none z na)]; exact z
    frzs := fun b u xs e => by
      have z := I.base.frzs b u xs e
      rw [upd_ne (ne_of_none z na)]; exact z
    tbls := fun b ps e => by
      obtain ⟨m, z⟩ := I.base.tbls b ps e
      exact ⟨m, by rw [upd_ne (ne_of_none z na)]; exact z⟩ }
  loc := I.loc
  cell := I.cell
  free := by rw [upd_ne (Ne.symm nL)]; exact I.free
  freeC := fun x b e => by rw [upd_ne (nC x b e)]; exact I.freeC x b e
  pin := fun p hp => by
    obtain ⟨h1, h2, h3, h4, h5⟩ := I.pin p hp
    exact ⟨h1, by rw [upd_ne (nP p hp)]; exact h2, h3, h4, h5⟩
  hok := I.hok.laidN (fun _ _ e => e) na new
  len := I.len
theorem suite0 (I : L2.Inv X pins σ H s) (a : Addr) : L2.Inv (X.suite a (X.pn ++ pins)) [] σ H s :=
  ⟨I.ok.suite _ _, I.os, I.bare, I.base, I.loc, I.cell, I.free, I.freeC, fun p hp => I.pin p (by rw [List.append_nil] at hp; exact hp), I.hok, I.len⟩
theorem unsuite0 {a : Addr} {pn' : List (Addr × Obj)} (I : L2.Inv (X.suite a (X.pn ++ pins)) pn' σ H s) (ok : X.Ok) : L2.Inv X pins σ H s :=
  ⟨ok, I.os, I.bare, I.base, I.loc, I.cell, I.free, I.freeC, fun p hp => I.pin p (List.mem_append_left _ hp), I.hok, I.len⟩
end
section
variable {X : Cx} {x n : Str} {cv : Value} {i : Nat} {body suite : List Stmt} {b₀ : Stmt} {np pos pos' : Pos} {tb : WX → TS} {ts : TS}
/-- what the clause wishes of an exception of the body -/
def wKeep (K : PySem.W.Frag) (cv : Value) (i : Nat) (ts : TS) (D : Ends) : WX := fun cls d σ H =>
  PySem.W.exmOne K cls cv = some true ∧ ∀ a, H a = none → ts { nx := fun σ' H' => D.nx (σ'.set i none) H', rt := D.rt, bk := fun σ' H' => D.bk (σ'.set i none) H', ct := fun σ' H' => D.ct (σ'.set i none) H' } (σ.set i (some (.ref a))) (upd H a (ExV cls d a))
theorem ps_try_keep (hs : X.stack = X.env :: X.outer) (hf : X.env.frame = some X.env.locals) (hex : X.ex = []) (hN : X.N.Nodup) (hi : X.N[i]? = some n) (hln : X.env.kindOf n = some .local) (hc : Names X x cv)
    (hb : ∀ (W : WX) (pn : List (Addr × Obj)) (xe : Value → Shared → Prop), Takes (X.tr pn xe) W → PassesOwn (model X.prog X.w) X.A X.env xe → PSs (X.tr pn xe) body (tb W))
    (hsu : ∀ (a : Addr) (pn : List (Addr × Obj)), PSs (X.suite a pn) (b₀ :: suite) ts) :
    PS X (.Try body [.ExceptHandler (some (.Name x np)) (some n) (b₀ :: suite) pos'] [] [] pos) (fun D σ H => tb (wKeep X.K cv i ts D) D σ H) := by
  refine ⟨fun pins s σ H D I h => ?_⟩
  have ok := I.ok
  have hfr : X.A.frames = some (X.env :: X.outer) := by rw [ok.frames, hs]
  have hloc : Loc X.env.scope n := .inl hln
  refine wpAny_Try_except ?_
  refine wpAny_mono ((hb (wKeep X.K cv i ts D) (X.pn ++ pins) (fun e s₁ => wpAny (model X.prog X.w) X.A (noteFrame e X.env) (fun _ s₂ => wpAny (model X.prog X.w) X.A (setFlight e none) (fun _ s₃ =>
    wpAny (model X.prog X.w) X.A (handleBy e X.env [.ExceptHandler (some (.Name x np)) (some n) (b₀ :: suite) pos']) (SP X pins D) X.xe s₃) X.xe s₂) X.xe s₁) (fun u s' xx => ?_) PassesOwn.looking).run [] s σ H D (I.toTry _) h) (fun f s1 hsp => ?_) (fun e s1 he => he)
  · -- the catch
    obtain ⟨a, B, sI, pins', σ', H', cls, d, rfl, J', nb, up, sky, na, os, ag, hb1, hyes⟩ := xx
    have J : L2.Inv X pins σ' H' sI := J'.ofTry ok
    have sky' : Sky B (X.env :: X.outer) a (Zc cls d) X.env.locals s'.heap := by rw [← hs]; exact sky
    show wpAny (model X.prog X.w) X.A (noteFrame (.ref a) X.env) _ _ _
    refine Sky.land Zc.steady hfr hf sky' fun h3 fl3 up3 => ?_
    have J3 : L2.Inv X pins σ' H' { s' with heap := h3 } := J.landed nb fl3.1 (up.trans up3) os ag
    obtain ⟨oe3, vs3, he3, hz3, hd3⟩ := fl3.there
    have notFr : ∀ {h : Heap} {o : Obj} {vs : Array Value}, h.FunFrames B (X.env :: X.outer) → h.get? a = some o → o.data = .fields vs → a ∉ frs (X.env :: X.outer) := fun {h o vs} ff e dd hm => by
      obtain ⟨_, o', e', hnf⟩ := ff.mem hm
      rw [e] at e'; cases e'
      exact hnf _ dd
    have nfr := notFr fl3.2.2.1 he3 hd3
    have nfs : a ∉ frs X.stack := by rw [hs]; exact nfr
    have nL : a ≠ X.env.locals := fun z => nfr (List.mem_filterMap.mpr ⟨X.env, List.mem_cons_self, by rw [hf, z]⟩)
    have nF : a ∉ X.fs := fun hm => by
      obtain ⟨e, he, q⟩ := List.mem_filterMap.mp hm
      exact nfr (List.mem_filterMap.mpr ⟨e, List.mem_cons_of_mem _ he, q⟩)
    have nB : B.get? a = none := fl3.2.1
    have nI : sI.heap.get? a = none := by
      cases q : sI.heap.get? a with
      | none => rfl
      | some o =>
        have z := nb a o q nfs
        rw [nB] at z; cases z
    have n0 : X.s_0.heap.get? a = none := by
      cases q : X.s_0.heap.get? a with
      | none => rfl
      | some o =>
        obtain ⟨o', z⟩ := J.base.there a o q (by rw [hex]; exact List.not_mem_nil)
        rw [nI] at z; cases z
    have S3 := suite0 J3 a
    refine wpAny_handleBy_cons (codeAny_handlers_test ?_) (by intro q; cases q)
    have LT : PySem.W.Looks (model X.prog X.w) h3 (typeOf (.ref a)) cls := fun A Q E s k q => wpAny_typeOf_ref (k _ _ he3) (by rw [hz3.1]; exact q)
    have LM := PySem.W.exm_one (M := model X.prog X.w) (J3.kIn) LT hb1
    have test : ∀ {Q : Value → Shared → Prop} {E : Value → Shared → Prop}, Q cv { s' with heap := h3 } → wpAny (model X.prog X.w) (X.A.mark (some (.ref a))) (eval (.Name x np) X.env) Q E { s' with heap := h3 } := fun {Q E} q => by
      obtain ⟨hg, hdbg, hm | ⟨hm, hv, hnn⟩⟩ := hc
      · exact ld_glob (X := X.suite a (X.pn ++ pins)) S3 hg hm q hdbg
      · exact ld_blt (X := X.suite a (X.pn ++ pins)) S3 hg hm hv q hnn hdbg
    refine test (LM.here ?_)
    refine codeAny_handlers_suite_as ?_
    refine HandSPX.lands_againZ fl3 fun h4 fl4 up4 => ?_
    have J4 : L2.Inv X pins σ' H' { s' with heap := h4 } := J.landed nb fl4.1 ((up.trans up3).trans up4) os ag
    obtain ⟨oe4, vs4, he4, hz4, hd4⟩ := fl4.there
    have K4 : L2.Inv X pins σ' (upd H' a (ExV cls d a)) { s' with heap := h4 } := by
      refine lay0 J4 na n0 nL (fun y b e z => ?_) (fun p hp z => ?_) (ExV_ok he4 hz4.1 hz4.2 hd4)
      · obtain ⟨v, o, q1, q2⟩ := J4.cell y b e
        rw [z, he4] at q1
        cases q1
        rw [hd4] at q2
        exact absurd q2 (by intro q; cases q)
      · have q := (J.pin p hp).1
        rw [z, nI] at q; cases q
    have S4 := suite0 K4 a
    refine store_ok (X := X.suite a (X.pn ++ pins)) (v := .ref a) S4 hN hi hloc rfl (fun s5 S5 => ?_) (.inr hln)
    refine wpAny_mono ((hsu a (X.pn ++ pins)).run [] s5 _ _ _ S5 (hyes a na)) (fun f s6 hsp => ?_) (fun _ _ z => False.elim z)
    have end_ : ∀ {σ6 : L2.St} {H6 : Hp} {Q : Shared → Prop}, L2.Inv (X.suite a (X.pn ++ pins)) [] σ6 H6 s6 → (∀ s7, L2.Inv X pins (σ6.set i none) H6 s7 → Q s7) →
        wpAny (model X.prog X.w) X.A (do bindName X.env n .none; unbindBehindTheSuite X.env n pos') (fun _ s7 => Q s7) X.xe s6 := fun {σ6 H6 Q} S6 hq => gone_ok (unsuite0 S6 ok) hN hi hln hq
    cases f with
    | next =>
      obtain ⟨σ6, H6, S6, q6⟩ := hsp
      exact end_ S6 fun s7 J7 => ⟨_, _, J7, q6⟩
    | brk =>
      obtain ⟨σ6, H6, S6, q6⟩ := hsp
      exact end_ S6 fun s7 J7 => ⟨_, _, J7, q6⟩
    | cont =>
      obtain ⟨σ6, H6, S6, q6⟩ := hsp
      exact end_ S6 fun s7 J7 => ⟨_, _, J7, q6⟩
    | ret u =>
      obtain ⟨v6, σ6, H6, S6, r6, q6⟩ := hsp
      exact end_ S6 fun s7 J7 => ⟨_, _, _, J7, r6, q6⟩
  · cases f with
    | next =>
      obtain ⟨σ', H', J', q⟩ := hsp
      exact wpAny_execs_nil ⟨σ', H', J'.ofTry ok, q⟩
    | brk =>
      obtain ⟨σ', H', J', q⟩ := hsp
      exact ⟨σ', H', J'.ofTry ok, q⟩
    | cont =>
      obtain ⟨σ', H', J', q⟩ := hsp
      exact ⟨σ', H', J'.ofTry ok, q⟩
    | ret u =>
      obtain ⟨v, σ', H', J', r, q⟩ := hsp
      exact ⟨v, σ', H', J'.ofTry ok, r, q⟩
end
/-! ### the classes, as the top has written them -/
def veT : List Value := [.type "ValueError", .type "Exception", .type "BaseException", .type "object"]
/-- the names of the own exceptions, from number 100 on -/
def xnms : List Str := ["DitherError", "InvalidLevels", "InvalidPlates", "InvalidConditions", "InvalidSeen", "InvalidText", "TooDeep", "OverInk", "InvalidScreen", "InvalidShade", "InvalidWindow", "InvalidPlace", "InvalidSide", "InvalidKind", "InvalidNumber", "InvalidRows", "InvalidLimit", "InvalidOperation", "Nothing", "InvalidCommand"]
def xnm (k : Nat) : Str := xnms.getD (k - 100) ""
def xmro (cls : Nat → Addr) (k : Nat) : List Value := if k = 100 then veT else .ref (cls 100) :: veT
structure XcF (K : PySem.W.Frag) (cls : Nat → Addr) (k : Nat) : Prop where
  ob : ∃ q N bs hd sn sub ab col dd k0 k1 k2 k3 k5, K.lookup (cls k) = some (excClassObj (xnm k) q (cls k) N bs (xmro cls k) hd sn sub ab col dd k0 k1 k2 k3 k5 "ValueError.__new__")
  ga : PySem.W.findIn K (.ref (cls k)) "__getattribute__" = some (some (.builtin "BaseException.__getattribute__"))
  gg : PySem.W.findIn K (.ref (cls k)) "__getattr__" = some none
  ha : PySem.W.findIn K (.ref (cls k)) "__class__" = some (some (.builtin "object.__class__"))
  kC : PySem.W.keepIn K (.ref (cls k)) = true
/-- all of them -/
structure Xcs (K : PySem.W.Frag) (cls : Nat → Addr) : Prop where
  x : ∀ k, 100 ≤ k → k ≤ 119 → XcF K cls k
  hn : PySem.W.specialIn K (.builtin "object.__class__") "__get__" = some (some (.builtin "getset_descriptor.__get__"))
  tk : PySem.W.takesIn K (.builtin "object.__class__") = some true
section
variable {K : PySem.W.Frag} {cls : Nat → Addr} {k j : Nat}
theorem XcF.cd (h : XcF K cls k) : ∃ cd, PySem.W.clsIn K (cls k) = some cd ∧ cd.mro = .ref (cls k) :: xmro cls k ∧ cd.name = xnm k := by
  obtain ⟨q, N, bs, hd, sn, sub, ab, col, dd, k0, k1, k2, k3, k5, e⟩ := h.ob
  exact ⟨_, by unfold PySem.W.clsIn; rw [e] <;> rfl, rfl, rfl⟩
theorem XcF.isC (h : XcF K cls k) : (PySem.W.clsIn K (cls k)).isSome = true := by
  obtain ⟨cd, e, _⟩ := h.cd
  rw [e]; rfl
theorem XcF.sub (h : XcF K cls k) (b : Value) : PySem.W.subIn K (.ref (cls k)) b = some ((Value.ref (cls k) :: xmro cls k).contains b) := by
  obtain ⟨cd, e, m, _⟩ := h.cd
  show PySem.W.mroIn K (cls k) b = _
  unfold PySem.W.mroIn
  rw [e, Option.bind_some, m]
  rfl
theorem XcF.ty (h : XcF K cls k) : PySem.W.typeIn K (.ref (cls k)) = some (.type "type") := by
  obtain ⟨q, N, bs, hd, sn, sub, ab, col, dd, k0, k1, k2, k3, k5, e⟩ := h.ob
  show (K.lookup (cls k)).map (·.cls) = _
  rw [e]; rfl
theorem xmro_ty (T : String) : (Value.ref (cls k) :: xmro cls k).contains (.type T) = veT.contains (.type T) := by
  unfold xmro
  by_cases h : k = 100
  · rw [if_pos h, List.contains_cons]; rfl
  · rw [if_neg h, List.contains_cons, List.contains_cons]; rfl
theorem XcF.exC (h : XcF K cls k) : PySem.W.subIn K (.ref (cls k)) (.type "BaseException") = some true := by
  rw [h.sub, xmro_ty]; decide
theorem xnm_ne : ∀ k j, 100 ≤ k → k ≤ 119 → 100 ≤ j → j ≤ 119 → k ≠ j → xnm k ≠ xnm j := by
  have e : ∀ k : Fin 20, ∀ j : Fin 20, k ≠ j → xnms.getD k.1 "" ≠ xnms.getD j.1 "" := by decide +kernel
  intro k j h1 h2 h3 h4 hk
  exact e ⟨k - 100, by omega⟩ ⟨j - 100, by omega⟩ (fun z => hk (by have := congrArg Fin.val z; simp at this; omega))
theorem Xcs.ne (h : Xcs K cls) (h1 : 100 ≤ k) (h2 : k ≤ 119) (h3 : 100 ≤ j) (h4 : j ≤ 119) (hk : k ≠ j) : cls k ≠ cls j := fun z => by
  obtain ⟨cd, e, _, n⟩ := (h.x k h1 h2).cd
  obtain ⟨cd', e', _, n'⟩ := (h.x j h3 h4).cd
  rw [z, e'] at e
  cases e
  exact xnm_ne k j h1 h2 h3 h4 hk (n.symm.trans n')
/-- is an exception of the one class one of the other -/
def xsub (k j : Nat) : Bool := k == j || j == 100
theorem Xcs.has (h : Xcs K cls) (h1 : 100 ≤ k) (h2 : k ≤ 119) (h3 : 100 ≤ j) (h4 : j ≤ 119) : (Value.ref (cls k) :: xmro cls k).contains (.ref (cls j)) = xsub k j := by
  have vt : veT.contains (Value.ref (cls j)) = false := by
    unfold veT; simp
  have eq : ∀ a b, 100 ≤ a → a ≤ 119 → 100 ≤ b → b ≤ 119 → (Value.ref (cls a) == Value.ref (cls b)) = (a == b) := fun a b x1 x2 x3 x4 => by
    by_cases q : a = b
    · subst q; simp
    · have n1 : cls a ≠ cls b := h.ne x1 x2 x3 x4 q
      have : (Value.ref (cls a) == Value.ref (cls b)) = false := by
        refine Bool.eq_false_iff.mpr fun z => n1 (Value.ref.inj (beq_iff_eq.mp z))
      rw [this]; simp [q]
  unfold xsub xmro
  by_cases q : k = 100
  · rw [if_pos q, List.contains_cons, vt, Bool.or_false, eq j k h3 h4 h1 h2]
    subst q
    by_cases w : j = 100
    · subst w; rfl
    · simp [w, Ne.symm w]
  · rw [if_neg q, List.contains_cons, List.contains_cons, vt, Bool.or_false, eq j k h3 h4 h1 h2, eq j 100 h3 h4 (by omega) (by omega)]
    by_cases w : j = k
    · subst w; simp
    · have w1 : (j == k) = false := by simpa using w
      have w2 : (k == j) = false := by simpa using Ne.symm w
      rw [w1, w2]
theorem Xcs.kitC (h : Xcs K cls) (h1 : 100 ≤ k) (h2 : k ≤ 119) (h3 : 100 ≤ j) (h4 : j ≤ 119) : PySem.W.kitCls K (.ref (cls k)) (.ref (cls j)) = some (xsub k j) := by
  show (if ((PySem.W.clsIn K (cls j)).isSome && PySem.W.typeIn K (.ref (cls j)) == some (.type "type")) = true then PySem.W.subIn K (.ref (cls k)) (.ref (cls j)) else none) = _
  rw [if_pos (by rw [(h.x j h3 h4).isC, (h.x j h3 h4).ty]; rfl), (h.x k h1 h2).sub, h.has h1 h2 h3 h4]
theorem Xcs.kit (h : Xcs K cls) (h1 : 100 ≤ k) (h2 : k ≤ 119) (h3 : 100 ≤ j) (h4 : j ≤ 119) : PySem.W.kitOne K (.ref (cls k)) (.ref (cls j)) = some (xsub k j) := by
  unfold PySem.W.kitOne
  by_cases q : k = j
  · subst q
    rw [if_pos (by simp)]
    unfold xsub; simp
  · rw [if_neg (fun z => h.ne h1 h2 h3 h4 q (Value.ref.inj (beq_iff_eq.mp z))), h.kitC h1 h2 h3 h4]
theorem Xcs.kitV (h : Xcs K cls) (h1 : 100 ≤ k) (h2 : k ≤ 119) : PySem.W.kitOne K (.ref (cls k)) (.type "ValueError") = some true := by
  show PySem.W.subIn K (.ref (cls k)) (.type "ValueError") = _
  rw [(h.x k h1 h2).sub, xmro_ty]; decide
theorem Xcs.exm (h : Xcs K cls) (h1 : 100 ≤ k) (h2 : k ≤ 119) : PySem.W.exmOne K (.ref (cls k)) (.ref (cls 100)) = some true := by
  unfold PySem.W.exmOne
  rw [if_pos (by rw [(h.x 100 (by omega) (by omega)).exC]; rfl), h.kitC h1 h2 (by omega) (by omega)]
  unfold xsub; simp
end
/-! ### raise -/
/-- raise C(text), C the class k -/
def sRaise (k : Nat) : M Fl := raiseX ⟨k, .non⟩
section
variable {X : Cx} {c : Cg} {W : WX} {e a : Expr} {f : M R} {p pos pos2 : Pos} {k : Nat} {t : Str}
theorem ss_raise (nm : Str) (hc : X.calm = true) (hK : X.K = c.K) (tk : Takes X W) (xs : Xcs c.K c.cls) (h1 : 108 ≤ k) (h2 : k ≤ 119) (xi : PySem.W.excIn c.K (c.cls k) veT "ValueError.__new__" = true) (gC : X.mg nm = some (.ref (c.cls k)))
    (he : PE X a (rdE c W (cs t))) (hg : Gl X nm := by rfl) (hs : starEach [a] X.env = (false, eval a X.env) :: starEach [] X.env := by rfl) (hdb : (nm == ("__debug__" : Str)) = false := by decide) :
    PS X (.Raise (some (.Call (.Name nm p) [a] [] pos)) none pos2) (rdS c W (sRaise k)) := by
  have xc := xs.x k (by omega) h2
  refine ss_of (ps_raise hc tk (SkE.pmk_own1 (bmB := veT) PySem.F.excBase_ValueError (by rw [hK]; exact xi) gC (by rw [hK]; exact xc.kC) (raises_own (by rw [hK]; exact xc.exC) (by rw [hK]; exact xc.ty)) hg he hs hdb)) fun E σ H q => ?_
  obtain ⟨Γ, S, F, P⟩ := q
  exact ⟨Γ, S, F, fun Γ' H' le F' v hv => P Γ' σ H' _ none le F' ⟨rfl, .inl ⟨rfl, rfl, .inr h1⟩⟩⟩
end
/-! ### try -/
/-- try: h / except DitherError as e: suite, e the name in slot i -/
def sTry (i : Nat) (h g : M Fl) : M Fl := fun S => match h S with
  | .exc x S' => if 100 ≤ x.k ∧ x.k ≤ 119 then (match g { S' with sl := S'.sl.set i (some (.p (.exn x.k x.f))) } with
    | .ok .nx S2 => .ok .nx { S2 with sl := S2.sl.set i none }
    | _ => .bad) else .bad
  | r => r
section
variable {X : Cx} {c : Cg} {W : WX} {n : Str} {i : Nat} {body suite : List Stmt} {b₀ : Stmt} {np pos pos' : Pos} {h g : M Fl}
theorem FrOk.out {Γ : Gh} {S : Sg} {σ : L2.St} {H : Hp} (i : Nat) (F : FrOk c Γ S σ H) : FrOk c Γ { S with sl := S.sl.set i none } (σ.set i none) H := by
  refine ⟨F.s, by simp [F.len], fun j x e => ?_⟩
  simp only at e
  by_cases hj : j = i
  · subst hj
    by_cases hl : j < S.sl.length
    · rw [List.getElem?_set_self hl] at e; cases e
    · rw [List.getElem?_eq_none (by simpa using hl)] at e; cases e
  · rw [List.getElem?_set_ne (Ne.symm hj)] at e ⊢
    exact F.sl j x e
theorem exn_new {Γ : Gh} {S : Sg} {σ : L2.St} {H : Hp} {x : Xn} {cls : Value} {d : Option Addr} {a : Addr} (F : FrOk c Γ S σ H) (q : XRep c Γ H x cls d) (ha : H a = none) :
    ∃ Γ', Γ.le Γ' ∧ FrOk c Γ' S σ (upd H a (ExV cls d a)) ∧ RepR c Γ' (.p (.exn x.k x.f)) (.ref a) := by
  have hG : Γ.G a = none := Ext.none F.s.g ha
  have ex : Ext Γ.G (upd Γ.G a (ExV cls d a)) := Ext.upd hG
  have le : Γ.le { Γ with G := upd Γ.G a (ExV cls d a) } := ⟨ex, rfl, [], by simp⟩
  refine ⟨_, le, F.of le (F.s.newG ha), ?_⟩
  obtain ⟨hc, hq⟩ := q
  refine Rep.exn_iff.mpr ⟨a, d, rfl, by show upd Γ.G a (ExV cls d a) a = _; rw [upd_same, hc], ?_⟩
  rcases hq with h | ⟨dx, u, h1, h2, h3⟩
  · exact .inl h
  · exact .inr ⟨dx, u, h1, ex _ _ h2, h3.mono ex⟩
theorem ss_try (hs : X.stack = X.env :: X.outer) (hf : X.env.frame = some X.env.locals) (hex : X.ex = []) (hN : X.N.Nodup) (hi : X.N[i]? = some n) (hln : X.env.kindOf n = some .local) (hK : X.K = c.K) (xs : Xcs c.K c.cls)
    (hg : Gl X "DitherError") (hm : X.mg "DitherError" = some (.ref (c.cls 100)))
    (hb : ∀ (W : WX) (pn : List (Addr × Obj)) (xe : Value → Shared → Prop), Takes (X.tr pn xe) W → PSs (X.tr pn xe) body (rdS c W h))
    (hsu : ∀ (a : Addr) (pn : List (Addr × Obj)), PSs (X.suite a pn) (b₀ :: suite) (rdS c (fun _ _ _ _ => False) g)) :
    PS X (.Try body [.ExceptHandler (some (.Name "DitherError" np)) (some n) (b₀ :: suite) pos'] [] [] pos) (rdS c W (sTry i h g)) := by
  refine ss_of (ps_try_keep (tb := fun W => rdS c W h) (ts := rdS c (fun _ _ _ _ => False) g) hs hf hex hN hi hln ⟨hg, by decide, .inl hm⟩ (fun W pn xe tk _ => hb W pn xe tk) hsu) fun E σ H q => ?_
  obtain ⟨Γ, S, F, P⟩ := q
  refine ⟨Γ, S, F, ?_⟩
  unfold sTry at P
  cases e : h S with
  | bad => rw [e] at P; exact P.elim
  | ok a S' => rw [e] at P; cases a <;> exact P
  | exc x S' =>
    rw [e] at P
    simp only at P
    by_cases hx : 100 ≤ x.k ∧ x.k ≤ 119
    · rw [if_pos hx] at P
      intro Γ' σ' H' cls d le F' xr
      refine ⟨by rw [hK, xr.1]; exact xs.exm hx.1 hx.2, fun a ha => ?_⟩
      obtain ⟨Γ2, le2, F2, r2⟩ := exn_new F' xr ha
      refine ⟨Γ2, _, F2.put i r2, ?_⟩
      cases e2 : g { S' with sl := S'.sl.set i (some (.p (.exn x.k x.f))) } with
      | bad => rw [e2] at P; exact P.elim
      | exc y S2 => rw [e2] at P; exact (show False from P).elim
      | ok b S2 =>
        rw [e2] at P
        cases b with
        | nx =>
          intro Γ3 σ3 H3 le3 F3
          exact P Γ3 _ H3 (le.trans (le2.trans le3)) (F3.out i)
        | bk => exact (show False from P).elim
        | ct => exact (show False from P).elim
        | rt y => exact (show False from P).elim
    · rw [if_neg hx] at P; exact P.elim
end
/-! ### isinstance of an own exception -/
section
variable {X : Cx} {c : Cg} {W : WX}
/-- isinstance(e, C) of an exception that is held -/
def rIsE (K : PySem.W.Frag) (cls : Nat → Addr) : List V → Hp → VK → Prop := fun xs H Q => ∃ (a : Addr) (k : Nat) (d : Option Addr) (z : V) (u : Value) (b : Bool), xs = [.ref a, z] ∧ ClsV z u ∧ 100 ≤ k ∧ k ≤ 119 ∧ H a = some (ExV (.ref (cls k)) d a) ∧
  (∀ dx, d = some dx → ∃ fs, H dx = some (.xd fs)) ∧ PySem.W.kitOne K (.ref (cls k)) u = some b ∧ Q (.bl b) H
theorem inst_at {H : Hp} {pins : List (Addr × Obj)} {σ : L2.St} {s : Shared} {a C : Addr} {d : Option Addr} (I : L2.Inv X pins σ H s) (h : H a = some (ExV (.ref C) d a)) (hd : ∀ dx, d = some dx → ∃ fs, H dx = some (.xd fs)) :
    ∃ o od, PySem.W.InstAt s.heap a o C od := by
  obtain ⟨o, fs, e1, e2, e3, e4⟩ := ExV_at I.hok h
  cases d with
  | none => exact ⟨o, none, ⟨e1, e2, by unfold PySem.W.notCls; rw [e4] <;> rfl, by rw [e3]; trivial⟩⟩
  | some dx =>
    obtain ⟨fs', hx⟩ := hd dx rfl
    have ob : ObjOk X.prog X.w H s.heap dx (.xd fs') := I.hok dx _ hx
    obtain ⟨mA, hns, _⟩ := ob
    obtain ⟨od, ho, _⟩ := lookIn_ns hns
    exact ⟨o, some od, ⟨e1, e2, by unfold PySem.W.notCls; rw [e4] <;> rfl, by rw [e3]; exact ho⟩⟩
theorem call_isE {cls : Nat → Addr} (xs : Xcs X.K cls) : CallR X (.builtin "isinstance") (rIsE X.K cls) := by
  intro pins s σ H ys us Q I r h
  obtain ⟨a, k, d, z, u, b, rfl, kc, h1, h2, ha, hd, e, q⟩ := h
  obtain ⟨u1, u2, rfl, r1, r2⟩ := vals2 r
  have e2 := kc.eq r2
  subst e2
  obtain rfl : u1 = Value.ref a := r1
  obtain ⟨o, od, J⟩ := inst_at I ha hd
  have xc := xs.x k h1 h2
  have mo : PySem.W.mroIn X.K (cls k) (.type "object") = some true := by
    have z := xc.sub (.type "object")
    rw [xmro_ty] at z
    exact z.trans (by decide)
  exact PySem.W.kia_one (PySem.W.kitx_exc (od := od) (ox := o) xc.isC xc.ga xc.gg xc.exC xc.ha xs.hn xs.tk mo) I.kIn J e (by intro q; cases q) fun tk => ⟨.bl b, H, I.tok tk, rfl, q⟩
/-- isinstance(x, C), C the class j of the own exceptions -/
def isX (j : Nat) (f : M R) : M R := do
  let x ← f
  fun S => match x with
    | .p (.exn k _) => if 100 ≤ k ∧ k ≤ 119 then .ok (.p (.bl (xsub k j))) S else .bad
    | _ => .bad
/-- isinstance(x, ValueError) -/
def isVE (f : M R) : M R := do
  let x ← f
  fun S => match x with
    | .p (.exn k _) => if 100 ≤ k ∧ k ≤ 119 then .ok (.p (.bl true)) S else .bad
    | _ => .bad
variable {a b : Expr} {f : M R} {p pos : Pos}
theorem se_isX (hK : X.K = c.K) (xs : Xcs c.K c.cls) {j : Nat} (h3 : 100 ≤ j) (h4 : j ≤ 119) (ha : PE X a (rdE c W f)) (hc : PE X b (tC (.ref (c.cls j)))) (hg : Gl X "isinstance") (hm : X.mg "isinstance" = none)
    (hs : starEach [a, b] X.env = (false, eval a X.env) :: starEach [b] X.env := by rfl) (hs2 : starEach [b] X.env = (false, eval b X.env) :: starEach [] X.env := by rfl) (hpl : (backTo pos (starEach [b] X.env)).any (·.1) = false := by rfl) :
    PE X (.Call (.Name "isinstance" p) [a, b] [] pos) (rdE c W (isX j f)) :=
  se_of (pe_callB (call_isE (cls := c.cls) (by rw [hK]; exact xs)) hg hm (by decide +kernel) (pa_cons ha (pa_cons hc pa_nil hs2) hs) (by decide) (by decide) hs hpl) fun σ H Q q => by
    obtain ⟨Γ, S, F, P⟩ := q
    refine ⟨Γ, S, F, (Post.bind P).imp fun x S1 Γ1 H1 e1 F1 ⟨_, P1⟩ v hv => ?_⟩
    show rIsE X.K c.cls [v, .ref (c.cls j)] H1 Q
    rw [hK]
    cases x with
    | r n => exact P1.elim
    | p d =>
      cases d with
      | exn k y =>
        by_cases hx : 100 ≤ k ∧ k ≤ 119
        · simp only [if_pos hx] at P1
          obtain ⟨a', d', rfl, g1, g2⟩ := Rep.exn_iff.mp (RepR.pure.mp hv)
          refine ⟨a', k, d', _, _, _, rfl, .own _, hx.1, hx.2, F1.s.g _ _ g1, fun dx e => ?_, xs.kit hx.1 hx.2 h3 h4, Post.ok (c := c) (W := W) P1 Gh.le.refl F1 _ RepR.mkB⟩
          rcases g2 with ⟨z, _⟩ | ⟨dx', u, z1, z2, _⟩
          · rw [z] at e; cases e
          · rw [z1] at e; cases e
            exact ⟨_, F1.s.g _ _ z2⟩
        · simp only [if_neg hx] at P1; exact P1.elim
      | _ => exact P1.elim
theorem se_isVE (hK : X.K = c.K) (xs : Xcs c.K c.cls) (ha : PE X a (rdE c W f)) (hc : PE X b (tC (.ty "ValueError"))) (hg : Gl X "isinstance") (hm : X.mg "isinstance" = none)
    (hs : starEach [a, b] X.env = (false, eval a X.env) :: starEach [b] X.env := by rfl) (hs2 : starEach [b] X.env = (false, eval b X.env) :: starEach [] X.env := by rfl) (hpl : (backTo pos (starEach [b] X.env)).any (·.1) = false := by rfl) :
    PE X (.Call (.Name "isinstance" p) [a, b] [] pos) (rdE c W (isVE f)) :=
  se_of (pe_callB (call_isE (cls := c.cls) (by rw [hK]; exact xs)) hg hm (by decide +kernel) (pa_cons ha (pa_cons hc pa_nil hs2) hs) (by decide) (by decide) hs hpl) fun σ H Q q => by
    obtain ⟨Γ, S, F, P⟩ := q
    refine ⟨Γ, S, F, (Post.bind P).imp fun x S1 Γ1 H1 e1 F1 ⟨_, P1⟩ v hv => ?_⟩
    show rIsE X.K c.cls [v, .ty "ValueError"] H1 Q
    rw [hK]
    cases x with
    | r n => exact P1.elim
    | p d =>
      cases d with
      | exn k y =>
        by_cases hx : 100 ≤ k ∧ k ≤ 119
        · simp only [if_pos hx] at P1
          obtain ⟨a', d', rfl, g1, g2⟩ := Rep.exn_iff.mp (RepR.pure.mp hv)
          refine ⟨a', k, d', _, _, _, rfl, .ty _, hx.1, hx.2, F1.s.g _ _ g1, fun dx e => ?_, xs.kitV hx.1 hx.2, Post.ok (c := c) (W := W) P1 Gh.le.refl F1 _ RepR.mkB⟩
          rcases g2 with ⟨z, _⟩ | ⟨dx', u, z1, z2, _⟩
          · rw [z] at e; cases e
          · rw [z1] at e; cases e
            exact ⟨_, F1.s.g _ _ z2⟩
        · simp only [if_neg hx] at P1; exact P1.elim
      | _ => exact P1.elim
theorem e_isX {j : Nat} (nm : Str) (h3 : 100 ≤ j) (h4 : j ≤ 119) (xs : Xcs c.K c.cls) (hm : X.mg "isinstance" = none) (hm2 : X.mg nm = some (.ref (c.cls j))) (hK : X.K = c.K) (ha : PE X a (rdE c W f)) {q : Pos} (hg : Gl X "isinstance" := by rfl) (hg2 : Gl X nm := by rfl)
    (hs : starEach [a, .Name nm q] X.env = (false, eval a X.env) :: starEach [.Name nm q] X.env := by rfl) (hd : (nm == ("__debug__" : Str)) = false := by decide) :
    PE X (.Call (.Name "isinstance" p) [a, .Name nm q] [] pos) (rdE c W (isX j f)) := se_isX hK xs h3 h4 ha (pe_glob hg2 hm2 rfl hd) hg hm hs (by rfl) (by rfl)
theorem e_isVE (xs : Xcs c.K c.cls) (hm : X.mg "isinstance" = none) (hm2 : X.mg "ValueError" = none) (hK : X.K = c.K) (ha : PE X a (rdE c W f)) {q : Pos} (hg : Gl X "isinstance" := by rfl) (hg2 : Gl X "ValueError" := by rfl)
    (hs : starEach [a, .Name "ValueError" q] X.env = (false, eval a X.env) :: starEach [.Name "ValueError" q] X.env := by rfl) :
    PE X (.Call (.Name "isinstance" p) [a, .Name "ValueError" q] [] pos) (rdE c W (isVE f)) := se_isVE hK xs ha (pe_bltn hg2 hm2 (by decide +kernel) rfl (by decide) (by decide)) hg hm hs (by rfl) (by rfl)
end
end Dd

set_option Elab.async false
set_option linter.all false
set_option maxRecDepth 100000
set_option maxHeartbeats 2000000
/-! own exceptions with an attribute: made by their own __init__, read by its name (printed by mkzn.py) -/
namespace Dd
open PySem PySem.W PySem.Calls PyProof.Rows PySem.HandSPX
def xA (f : Str) (p1 p2 : Pos) : Arguments := { posonlyargs := [], args := [{ arg := "self", annotation := none, pos := p1 }, { arg := f, annotation := none, pos := p2 }], vararg := none, kwonlyargs := [], kw_defaults := [], kwarg := none, defaults := [] }
def xB (f : Str) (q1 q2 q3 q4 : Pos) : List Stmt := [.Assign [.Attribute (.Name "self" q1) f q2] (.Name f q3) q4]
def xS (f : Str) : Scope := { kind := .function, names := [(PySem.Str.ofString "self", .local), (f, .local)], isGenerator := false, isCoroutine := false, more := [] }
theorem xsz (v : Value) : [v].length ≤ sizeLine := by
  rw [sizeLine_eq]
  exact (by decide : 1 ≤ 16777216)
theorem xld {M : Model} {s : Shared} {name : Str} {scope : Scope} {L a : Addr} {cd : Value} {m : Str → Option Value} {x : Str} {pos : Pos} {v : Value} {Q : Value → Shared → Prop} {A : Around} {E : Value → Shared → Prop} (hn : s.heap.Ns L m) (hv : m x = some v) (h : Q v s)
    (hk : scope.kind = .function := by rfl) (hl : (envOfC name scope L a cd).kindOf x = some .local := by rfl) (hd : (x == ("__debug__" : Str)) = false := by decide) : wpAny M A (eval (.Name x pos) (envOfC name scope L a cd)) Q E s :=
  wpAny_Name (wpAny_loadName_local hk hl hn hv h) hd
/-- behind __init__ of a new exception at x -/
structure XEnd (f : Str) (h h' : Heap) (x C dx t1 : Addr) (v : Value) : Prop where
  keep : ∀ b o, b ≠ x → h.get? b = some o → h'.get? b = some o
  obj : h'.get? x = some { cls := .ref C, dict := some dx, data := .fields #[.ref t1, .none, .none, .none, .bool false, .none] }
  dbig : h.objs.size ≤ dx
  dne : dx ≠ x
  ns : h'.Ns1 dx (fun y => if y = f then some v else none)
/-- behind the making -/
structure XMade (f : Str) (h h' : Heap) (e C d : Addr) (v : Value) : Prop where
  keep : ∀ b o, h.get? b = some o → h'.get? b = some o
  new : h.objs.size ≤ e
  obj : ∃ oe vs, h'.get? e = some oe ∧ oe.cls = .ref C ∧ oe.dict = some d ∧ oe.data = .fields vs ∧ vs[1]? = some .none
  dbig : h.objs.size ≤ d
  dne : d ≠ e
  ns : h'.Ns1 d (fun y => if y = f then some v else none)
def XInit (K : Frag) (C fI : Addr) (f : Str) : Prop := ∀ (prog : Program) (w : World) (A : Around) (R : Result → Shared → Prop) (s : Shared) (x t0 : Addr) (v : Value), K.In s.heap → s.heap.NoLimit → s.heap.get? x = some (excO C t0) → K.lookup x = none → A.depth < recursionLimit →
  (∀ h' tk dx, XEnd f s.heap h' x C dx t0 v → R (.ok (.ret .none)) { s with heap := h', toks := tk }) → codeAny (model prog w) A (.call (.ref fI) ⟨[.ref x, v], []⟩) R s
/-- what the written part says of such a class -/
structure XfF (K : Frag) (cls : Nat → Addr) (k : Nat) : Prop where
  sa : findIn K (.ref (cls k)) "__setattr__" = some (some (.builtin "object.__setattr__"))
  no : findIn K (.ref (cls k)) (fldN k) = some none
  hd : hasDictIn K (cls k) = true
  ini : ∃ fI, findIn K (.ref (cls k)) "__init__" = some (some (.ref fI)) ∧ typeIn K (.ref fI) = some (.type "function") ∧ XInit K (cls k) fI (fldN k)
theorem xinit_level {K : Frag} {C fI : Addr} {q : Str} {oc : Value} {od : Option Addr} {doc pm : Value} {an : Option Addr} {cdv ct : Value} {osl : Array (Option Value)} {p1 p2 q1 q2 q3 q4 : Pos}
    (cl : ∃ nm qq N bs bm sn sub ab col dd k0 k1 k2 k3 k5, K.lookup C = some (excClassObj nm qq C N bs bm true sn sub ab col dd k0 k1 k2 k3 k5 "ValueError.__new__") ∧ refsVE bm = true)
    (sa : findIn K (.ref C) "__setattr__" = some (some (.builtin "object.__setattr__"))) (no : findIn K (.ref C) "level" = some none)
    (ho : K.lookup fI = some ⟨oc, od, .func (fnOf "__init__" q (xA "level" p1 p2) (xB "level" q1 q2 q3 q4) (xS "level") .none .none doc pm an cdv ct), osl⟩) (hcd : codeIn K cdv q = true) : XInit K C fI "level" := by
  intro prog w A R s x t0 v X hlim hx hnx hroom hq
  obtain ⟨nm, qq, N, bs, bm, sn, sub, ab, col, dd, k0, k1, k2, k3, k5, hC, hbm⟩ := cl
  have hcl : clsIn K C = some { name := nm, bases := bs, mro := .ref C :: bm, ns := N, qualname := qq, hasDict := true, slotNames := sn, subclasses := sub, abstract := ab, collection := col, hasDel := false } := by unfold clsIn; rw [hC] <;> rfl
  refine Att.call_fn (binds := [("self", .ref x), ("level", v)]) X hlim ho hcd hroom (BindsTo.of_eq (by first | rfl | with_unfolding_all rfl)) (by first | rfl | decide | with_unfolding_all rfl) (fun s₁ IC => ?_) rfl rfl rfl
  obtain ⟨h₁, tk₁, rfl⟩ := IC.toInCall.same
  have k : ∀ b o, s.heap.get? b = some o → h₁.get? b = some o := IC.toInCall.keep
  have hn := IC.toInCall.ns
  have X₁ : K.In h₁ := X.keeps k
  have hx₁ := k _ _ hx
  show wpAny _ _ (execs _ _) _ _ _
  refine wpAny_execs_cons (plainObj_wpAny_Assign_Attribute ?_)
  refine xld (v := v) hn (by first | rfl | with_unfolding_all rfl | kernel_rfl) (xld (v := .ref x) hn (by first | rfl | with_unfolding_all rfl | kernel_rfl) ?_)
  refine set_plain X₁ (ox := excO C t0) (od := none) ⟨hx₁, rfl, rfl, trivial⟩ sa ?_
  refine exc_osa X₁ hx₁ hcl (show refsVE (.ref C :: bm) = true from hbm) rfl no (fun h₃ tk₃ dx k₃ dn dne hx₃ hn₃ => ?_)
  show wpAny _ _ (execs _ _) _ _ _
  have z : s.heap.objs.size < h₁.objs.size := hn.lt
  exact wpAny_execs_nil (hq h₃ tk₃ dx ⟨fun b o hb e => k₃ b o hb (k b o e), hx₃, Nat.le_of_lt (Nat.lt_of_lt_of_le z dn), dne, hn₃⟩)
theorem xinit_item {K : Frag} {C fI : Addr} {q : Str} {oc : Value} {od : Option Addr} {doc pm : Value} {an : Option Addr} {cdv ct : Value} {osl : Array (Option Value)} {p1 p2 q1 q2 q3 q4 : Pos}
    (cl : ∃ nm qq N bs bm sn sub ab col dd k0 k1 k2 k3 k5, K.lookup C = some (excClassObj nm qq C N bs bm true sn sub ab col dd k0 k1 k2 k3 k5 "ValueError.__new__") ∧ refsVE bm = true)
    (sa : findIn K (.ref C) "__setattr__" = some (some (.builtin "object.__setattr__"))) (no : findIn K (.ref C) "item" = some none)
    (ho : K.lookup fI = some ⟨oc, od, .func (fnOf "__init__" q (xA "item" p1 p2) (xB "item" q1 q2 q3 q4) (xS "item") .none .none doc pm an cdv ct), osl⟩) (hcd : codeIn K cdv q = true) : XInit K C fI "item" := by
  intro prog w A R s x t0 v X hlim hx hnx hroom hq
  obtain ⟨nm, qq, N, bs, bm, sn, sub, ab, col, dd, k0, k1, k2, k3, k5, hC, hbm⟩ := cl
  have hcl : clsIn K C = some { name := nm, bases := bs, mro := .ref C :: bm, ns := N, qualname := qq, hasDict := true, slotNames := sn, subclasses := sub, abstract := ab, collection := col, hasDel := false } := by unfold clsIn; rw [hC] <;> rfl
  refine Att.call_fn (binds := [("self", .ref x), ("item", v)]) X hlim ho hcd hroom (BindsTo.of_eq (by first | rfl | with_unfolding_all rfl)) (by first | rfl | decide | with_unfolding_all rfl) (fun s₁ IC => ?_) rfl rfl rfl
  obtain ⟨h₁, tk₁, rfl⟩ := IC.toInCall.same
  have k : ∀ b o, s.heap.get? b = some o → h₁.get? b = some o := IC.toInCall.keep
  have hn := IC.toInCall.ns
  have X₁ : K.In h₁ := X.keeps k
  have hx₁ := k _ _ hx
  show wpAny _ _ (execs _ _) _ _ _
  refine wpAny_execs_cons (plainObj_wpAny_Assign_Attribute ?_)
  refine xld (v := v) hn (by first | rfl | with_unfolding_all rfl | kernel_rfl) (xld (v := .ref x) hn (by first | rfl | with_unfolding_all rfl | kernel_rfl) ?_)
  refine set_plain X₁ (ox := excO C t0) (od := none) ⟨hx₁, rfl, rfl, trivial⟩ sa ?_
  refine exc_osa X₁ hx₁ hcl (show refsVE (.ref C :: bm) = true from hbm) rfl no (fun h₃ tk₃ dx k₃ dn dne hx₃ hn₃ => ?_)
  show wpAny _ _ (execs _ _) _ _ _
  have z : s.heap.objs.size < h₁.objs.size := hn.lt
  exact wpAny_execs_nil (hq h₃ tk₃ dx ⟨fun b o hb e => k₃ b o hb (k b o e), hx₃, Nat.le_of_lt (Nat.lt_of_lt_of_le z dn), dne, hn₃⟩)
theorem xinit_part {K : Frag} {C fI : Addr} {q : Str} {oc : Value} {od : Option Addr} {doc pm : Value} {an : Option Addr} {cdv ct : Value} {osl : Array (Option Value)} {p1 p2 q1 q2 q3 q4 : Pos}
    (cl : ∃ nm qq N bs bm sn sub ab col dd k0 k1 k2 k3 k5, K.lookup C = some (excClassObj nm qq C N bs bm true sn sub ab col dd k0 k1 k2 k3 k5 "ValueError.__new__") ∧ refsVE bm = true)
    (sa : findIn K (.ref C) "__setattr__" = some (some (.builtin "object.__setattr__"))) (no : findIn K (.ref C) "part" = some none)
    (ho : K.lookup fI = some ⟨oc, od, .func (fnOf "__init__" q (xA "part" p1 p2) (xB "part" q1 q2 q3 q4) (xS "part") .none .none doc pm an cdv ct), osl⟩) (hcd : codeIn K cdv q = true) : XInit K C fI "part" := by
  intro prog w A R s x t0 v X hlim hx hnx hroom hq
  obtain ⟨nm, qq, N, bs, bm, sn, sub, ab, col, dd, k0, k1, k2, k3, k5, hC, hbm⟩ := cl
  have hcl : clsIn K C = some { name := nm, bases := bs, mro := .ref C :: bm, ns := N, qualname := qq, hasDict := true, slotNames := sn, subclasses := sub, abstract := ab, collection := col, hasDel := false } := by unfold clsIn; rw [hC] <;> rfl
  refine Att.call_fn (binds := [("self", .ref x), ("part", v)]) X hlim ho hcd hroom (BindsTo.of_eq (by first | rfl | with_unfolding_all rfl)) (by first | rfl | decide | with_unfolding_all rfl) (fun s₁ IC => ?_) rfl rfl rfl
  obtain ⟨h₁, tk₁, rfl⟩ := IC.toInCall.same
  have k : ∀ b o, s.heap.get? b = some o → h₁.get? b = some o := IC.toInCall.keep
  have hn := IC.toInCall.ns
  have X₁ : K.In h₁ := X.keeps k
  have hx₁ := k _ _ hx
  show wpAny _ _ (execs _ _) _ _ _
  refine wpAny_execs_cons (plainObj_wpAny_Assign_Attribute ?_)
  refine xld (v := v) hn (by first | rfl | with_unfolding_all rfl | kernel_rfl) (xld (v := .ref x) hn (by first | rfl | with_unfolding_all rfl | kernel_rfl) ?_)
  refine set_plain X₁ (ox := excO C t0) (od := none) ⟨hx₁, rfl, rfl, trivial⟩ sa ?_
  refine exc_osa X₁ hx₁ hcl (show refsVE (.ref C :: bm) = true from hbm) rfl no (fun h₃ tk₃ dx k₃ dn dne hx₃ hn₃ => ?_)
  show wpAny _ _ (execs _ _) _ _ _
  have z : s.heap.objs.size < h₁.objs.size := hn.lt
  exact wpAny_execs_nil (hq h₃ tk₃ dx ⟨fun b o hb e => k₃ b o hb (k b o e), hx₃, Nat.le_of_lt (Nat.lt_of_lt_of_le z dn), dne, hn₃⟩)
theorem xinit_most {K : Frag} {C fI : Addr} {q : Str} {oc : Value} {od : Option Addr} {doc pm : Value} {an : Option Addr} {cdv ct : Value} {osl : Array (Option Value)} {p1 p2 q1 q2 q3 q4 : Pos}
    (cl : ∃ nm qq N bs bm sn sub ab col dd k0 k1 k2 k3 k5, K.lookup C = some (excClassObj nm qq C N bs bm true sn sub ab col dd k0 k1 k2 k3 k5 "ValueError.__new__") ∧ refsVE bm = true)
    (sa : findIn K (.ref C) "__setattr__" = some (some (.builtin "object.__setattr__"))) (no : findIn K (.ref C) "most" = some none)
    (ho : K.lookup fI = some ⟨oc, od, .func (fnOf "__init__" q (xA "most" p1 p2) (xB "most" q1 q2 q3 q4) (xS "most") .none .none doc pm an cdv ct), osl⟩) (hcd : codeIn K cdv q = true) : XInit K C fI "most" := by
  intro prog w A R s x t0 v X hlim hx hnx hroom hq
  obtain ⟨nm, qq, N, bs, bm, sn, sub, ab, col, dd, k0, k1, k2, k3, k5, hC, hbm⟩ := cl
  have hcl : clsIn K C = some { name := nm, bases := bs, mro := .ref C :: bm, ns := N, qualname := qq, hasDict := true, slotNames := sn, subclasses := sub, abstract := ab, collection := col, hasDel := false } := by unfold clsIn; rw [hC] <;> rfl
  refine Att.call_fn (binds := [("self", .ref x), ("most", v)]) X hlim ho hcd hroom (BindsTo.of_eq (by first | rfl | with_unfolding_all rfl)) (by first | rfl | decide | with_unfolding_all rfl) (fun s₁ IC => ?_) rfl rfl rfl
  obtain ⟨h₁, tk₁, rfl⟩ := IC.toInCall.same
  have k : ∀ b o, s.heap.get? b = some o → h₁.get? b = some o := IC.toInCall.keep
  have hn := IC.toInCall.ns
  have X₁ : K.In h₁ := X.keeps k
  have hx₁ := k _ _ hx
  show wpAny _ _ (execs _ _) _ _ _
  refine wpAny_execs_cons (plainObj_wpAny_Assign_Attribute ?_)
  refine xld (v := v) hn (by first | rfl | with_unfolding_all rfl | kernel_rfl) (xld (v := .ref x) hn (by first | rfl | with_unfolding_all rfl | kernel_rfl) ?_)
  refine set_plain X₁ (ox := excO C t0) (od := none) ⟨hx₁, rfl, rfl, trivial⟩ sa ?_
  refine exc_osa X₁ hx₁ hcl (show refsVE (.ref C :: bm) = true from hbm) rfl no (fun h₃ tk₃ dx k₃ dn dne hx₃ hn₃ => ?_)
  show wpAny _ _ (execs _ _) _ _ _
  have z : s.heap.objs.size < h₁.objs.size := hn.lt
  exact wpAny_execs_nil (hq h₃ tk₃ dx ⟨fun b o hb e => k₃ b o hb (k b o e), hx₃, Nat.le_of_lt (Nat.lt_of_lt_of_le z dn), dne, hn₃⟩)
theorem xinit_count {K : Frag} {C fI : Addr} {q : Str} {oc : Value} {od : Option Addr} {doc pm : Value} {an : Option Addr} {cdv ct : Value} {osl : Array (Option Value)} {p1 p2 q1 q2 q3 q4 : Pos}
    (cl : ∃ nm qq N bs bm sn sub ab col dd k0 k1 k2 k3 k5, K.lookup C = some (excClassObj nm qq C N bs bm true sn sub ab col dd k0 k1 k2 k3 k5 "ValueError.__new__") ∧ refsVE bm = true)
    (sa : findIn K (.ref C) "__setattr__" = some (some (.builtin "object.__setattr__"))) (no : findIn K (.ref C) "count" = some none)
    (ho : K.lookup fI = some ⟨oc, od, .func (fnOf "__init__" q (xA "count" p1 p2) (xB "count" q1 q2 q3 q4) (xS "count") .none .none doc pm an cdv ct), osl⟩) (hcd : codeIn K cdv q = true) : XInit K C fI "count" := by
  intro prog w A R s x t0 v X hlim hx hnx hroom hq
  obtain ⟨nm, qq, N, bs, bm, sn, sub, ab, col, dd, k0, k1, k2, k3, k5, hC, hbm⟩ := cl
  have hcl : clsIn K C = some { name := nm, bases := bs, mro := .ref C :: bm, ns := N, qualname := qq, hasDict := true, slotNames := sn, subclasses := sub, abstract := ab, collection := col, hasDel := false } := by unfold clsIn; rw [hC] <;> rfl
  refine Att.call_fn (binds := [("self", .ref x), ("count", v)]) X hlim ho hcd hroom (BindsTo.of_eq (by first | rfl | with_unfolding_all rfl)) (by first | rfl | decide | with_unfolding_all rfl) (fun s₁ IC => ?_) rfl rfl rfl
  obtain ⟨h₁, tk₁, rfl⟩ := IC.toInCall.same
  have k : ∀ b o, s.heap.get? b = some o → h₁.get? b = some o := IC.toInCall.keep
  have hn := IC.toInCall.ns
  have X₁ : K.In h₁ := X.keeps k
  have hx₁ := k _ _ hx
  show wpAny _ _ (execs _ _) _ _ _
  refine wpAny_execs_cons (plainObj_wpAny_Assign_Attribute ?_)
  refine xld (v := v) hn (by first | rfl | with_unfolding_all rfl | kernel_rfl) (xld (v := .ref x) hn (by first | rfl | with_unfolding_all rfl | kernel_rfl) ?_)
  refine set_plain X₁ (ox := excO C t0) (od := none) ⟨hx₁, rfl, rfl, trivial⟩ sa ?_
  refine exc_osa X₁ hx₁ hcl (show refsVE (.ref C :: bm) = true from hbm) rfl no (fun h₃ tk₃ dx k₃ dn dne hx₃ hn₃ => ?_)
  show wpAny _ _ (execs _ _) _ _ _
  have z : s.heap.objs.size < h₁.objs.size := hn.lt
  exact wpAny_execs_nil (hq h₃ tk₃ dx ⟨fun b o hb e => k₃ b o hb (k b o e), hx₃, Nat.le_of_lt (Nat.lt_of_lt_of_le z dn), dne, hn₃⟩)
/-- the class called -/
theorem xmade {prog : Program} {w : World} {A : Around} {R : Result → Shared → Prop} {s : Shared} {K : Frag} {cls : Nat → Addr} {k : Nat} (xc : XcF K cls k) (T : XfF K cls k) {v : Value} (X : K.In s.heap) (hlim : s.heap.NoLimit) (hroom : A.depth + 1 < recursionLimit)
    (hq : ∀ h' tk e d, XMade (fldN k) s.heap h' e (cls k) d v → R (.ok (.ret (.ref e))) { s with heap := h', toks := tk }) : codeAny (model prog w) A (.call (.ref (cls k)) ⟨[v], []⟩) R s := by
  obtain ⟨q, N, bs, hd, sn, sub, ab, col, dd, k0, k1, k2, k3, k5, hC⟩ := xc.ob
  obtain ⟨fI, iC, tC, ini⟩ := T.ini
  have hbm : refsVE (xmro cls k) = true := by
    unfold xmro
    by_cases h : k = 100
    · rw [if_pos h]; decide +kernel
    · rw [if_neg h]; show refsVE veT = true; decide +kernel
  obtain ⟨hp, g, dr, tk, os⟩ := s
  have kp : ∀ b o, hp.get? b = some o → ((hp.push (kdv_tup [v])).push (excO (cls k) hp.objs.size)).get? b = some o := fun b o e => Heap.get?_push_of_some _ (Heap.get?_push_of_some _ e)
  have hget : ((hp.push (kdv_tup [v])).push (excO (cls k) hp.objs.size)).get? (hp.objs.size + 1) = some (excO (cls k) hp.objs.size) := by heap_get
  have hnx : K.lookup (hp.objs.size + 1) = none := by
    cases e : K.lookup (hp.objs.size + 1) with
    | none => rfl
    | some o =>
      have z : hp.get? (hp.objs.size + 1) = some o := X _ _ e
      exact absurd (Nat.lt_of_succ_lt (Heap.lt_size z)) (Nat.lt_irrefl _)
  refine call_own F.excBase_ValueError (fun X => refsVE_contains X _ hbm) (X _ _ hC) (looks_findIn X iC) (fun self => bind_fn X self tC) (xsz v) ?_
  refine ini prog w _ _ ⟨(hp.push (kdv_tup [v])).push (excO (cls k) hp.objs.size), g, dr, tk, os⟩ _ _ v (X.keeps kp) (hlim.keeps kp) hget hnx ?_ fun h' tk' dx ⟨k', hx, dn, dne, hns⟩ => ?_
  · show A.depth + 1 < recursionLimit
    exact hroom
  · have old : ∀ b o, hp.get? b = some o → h'.get? b = some o := fun b o e => k' b o (Nat.ne_of_lt (Nat.lt_succ_of_lt (Heap.lt_size e))) (kp b o e)
    have z : hp.objs.size + 1 + 1 ≤ dx := by
      first
        | (simpa only [Heap.size_push] using dn)
        | exact dn
        | (have q := dn; rw [Heap.size_push, Heap.size_push] at q; exact q)
    exact ⟨rfl, hq h' tk' (hp.objs.size + 1) dx ⟨old, Nat.le_succ _, ⟨_, _, hx, rfl, rfl, rfl, rfl⟩, Nat.le_trans (Nat.le_trans (Nat.le_succ _) (Nat.le_succ _)) z, dne, hns⟩⟩
end Dd
namespace Dd
open PySem PySem.Spec PyProof.Rows L2
theorem relO_one {v : V} {v' : Value} {n : Str} (r : RelV v v') (f : Str) : RelO (List.lookup f [(n, v)]) (if f = n then some v' else none) := by
  by_cases hw : f = n
  · subst hw
    rw [if_pos rfl]
    have q : List.lookup f [(f, v)] = some v := by simp [List.lookup]
    rw [q]
    exact r
  · rw [if_neg hw]
    have qw : (f == n) = false := by simpa using hw
    have q2 : List.lookup f [(n, v)] = none := by simp [List.lookup, qw]
    rw [q2]
    trivial
section
variable {X : Cx} {c : Cg} {W : WX}
/-- C(e), C of the number k -/
def tMkF (C : Addr) (f : Str) (ta : TA) : L2.St → Hp → XK → Prop := fun σ H Q => ta σ H fun vs H1 => ∃ v, vs = [v] ∧ ∀ d, H1 d = none → Q (.ref C) (some d) (upd H1 d (.xd [(f, v)]))
theorem pmk_fld {cls : Nat → Addr} {k kr : Nat} {nm : Str} {a : Expr} {ta : TA} {p pos : Pos} (xc : XcF X.K cls k) (T : XfF X.K cls k) (gC : X.mg nm = some (.ref (cls k))) (hr : Room (kr + 1) X.A) (ha : PA X [a] ta) (hg : Gl X nm) (hdb : (nm == ("__debug__" : Str)) = false)
    (he : starEach (a :: []) X.env = (false, eval a X.env) :: starEach [] X.env := by rfl) (hpl : (backTo pos (starEach [] X.env)).any (·.1) = false := by rfl) :
    PMk X (.Call (.Name nm p) [a] [] pos) (tMkF (cls k) (fldN k) ta) := by
  intro pins s σ H Q I h
  refine wpAny_Call_Name_kw (ld_glob I hg gC ?_ hdb)
  refine PySem.W.callWith_K (h₀ := X.base) I.ok.mod.kin xc.kC (thn (ha.run pos pins s σ H _ I h) fun us s1 hh => ?_) he hpl
  obtain ⟨vs, H1, I1, r1, v, ev, q1⟩ := hh
  subst ev
  refine ⟨I1.kIn, ?_⟩
  cases r1 with
  | cons rv rn =>
    rename_i v' us'
    cases rn
    show wpAny _ _ (call (.ref (cls k)) [v']) _ _ _
    have hlim := I1.nolimit
    obtain ⟨hp, g, dr, tk, os⟩ := s1
    refine wpAny_call (xmade xc T I1.kIn hlim (by have := hr.dp; omega) fun h' tk' e d M => ?_)
    show MkP X pins σ Q (.ref e) ⟨h', g, dr, tk', os⟩
    obtain ⟨oe, fv, hoe, hc, hd, hdat, h1⟩ := M.obj
    have hns := M.ns
    obtain ⟨G', g1, g2⟩ := restrict h' fun b => decide (b ≠ e)
    have gk : ∀ b, b ≠ e → G'.get? b = h'.get? b := fun b hb => g1 b (decide_eq_true hb)
    have ge : G'.get? e = none := g2 e (by simp)
    have old : ∀ b o, hp.get? b = some o → G'.get? b = some o := fun b o q => (gk b (Nat.ne_of_lt (Nat.lt_of_lt_of_le (Heap.lt_size q) M.new))).trans (M.keep b o q)
    have ob : ObjOk X.prog X.w (upd H1 d (.xd [(fldN k, v)])) G' d (.xd [(fldN k, v)]) :=
      ⟨_, hns.at (fun o q => (gk d M.dne).trans q), fun f => relO_one rv f⟩
    have J : L2.Inv X pins σ (upd H1 d (.xd [(fldN k, v)])) ⟨G', g, dr, tk', os⟩ := I1.laid (t' := tk') old M.dbig ob
    refine ⟨e, oe, fv, ⟨G', g, dr, tk', os⟩, _, .ref (cls k), some d, rfl, J, fun b o q => ?_, ge, hoe, ⟨hc, hd⟩, hdat, h1, ?_, rfl, I1.bare, raises_own xc.exC xc.ty, q1 d (I1.hok.fresh M.dbig)⟩
    · by_cases hb : b = e
      · have q' : G'.get? b = some o := q
        rw [hb, ge] at q'; cases q'
      · exact (gk b hb).symm.trans q
    · rw [upd_ne (Ne.symm M.dne)]
      exact I1.hok.fresh M.new
/-- raise C(e), C the class k, whose attribute e is -/
def sRaiseF (k : Nat) (f : M R) : M Fl := do
  let x ← f
  let d ← pure1 x
  raiseX ⟨k, d⟩
variable {e a : Expr} {f : M R} {p pos pos2 : Pos} {k kr : Nat}
theorem ss_raiseF (nm : Str) (hc : X.calm = true) (hK : X.K = c.K) (tk : Takes X W) (xs : Xcs c.K c.cls) (h1 : 100 ≤ k) (h2 : k ≤ 119) (T : XfF c.K c.cls k) (hr : Room (kr + 1) X.A) (gC : X.mg nm = some (.ref (c.cls k)))
    (he : PE X a (rdE c W f)) (hg : Gl X nm := by rfl) (hs : starEach [a] X.env = (false, eval a X.env) :: starEach [] X.env := by rfl) (hpl : (backTo pos (starEach [] X.env)).any (·.1) = false := by rfl) (hdb : (nm == ("__debug__" : Str)) = false := by decide) :
    PS X (.Raise (some (.Call (.Name nm p) [a] [] pos)) none pos2) (rdS c W (sRaiseF k f)) := by
  have xc := xs.x k h1 h2
  refine ss_of (ps_raise hc tk (pmk_fld (cls := c.cls) (k := k) (by rw [hK]; exact xc) (by rw [hK]; exact T) gC hr (pa_cons he pa_nil hs) hg hdb hs hpl)) fun E σ H q => ?_
  obtain ⟨Γ, S, F, P⟩ := q
  refine ⟨Γ, S, F, (PostS.bindE P).imp fun x S1 Γ1 H1 e1 F1 ⟨_, P1⟩ v hv => ?_⟩
  obtain ⟨d, Γ2, S2, e2, F2, hd, _, P2⟩ := pure1_ok F1 hv (PostS.bindE P1)
  refine ⟨v, rfl, fun dx hdx => ?_⟩
  have hG : Γ2.G dx = none := Ext.none F2.s.g hdx
  have ex : Ext Γ2.G (upd Γ2.G dx (.xd [(fldN k, v)])) := Ext.upd hG
  have le : Γ2.le { Γ2 with G := upd Γ2.G dx (.xd [(fldN k, v)]) } := ⟨ex, rfl, [], by simp⟩
  have F3 := F2.of le (F2.s.newG (o := .xd [(fldN k, v)]) hdx)
  exact P2 _ σ _ _ (some dx) le F3 ⟨rfl, .inr ⟨dx, v, rfl, by show upd Γ2.G dx _ dx = _; rw [upd_same], hd.mono ex⟩⟩
/-- f(), a def without parameters -/
theorem callM0_read {F : Fn} {σ : L2.St} {H : Hp} {Q : VK} (q : rdE c W (callM F 0 aN) σ H Q) : spF c 0 F [] H Q (WE W σ) := by
  obtain ⟨Γ, S, Fo, P⟩ := q
  have P1 := Post.bind P
  have z : Post c W σ Γ (Res.ok ([] : List R) S) _ := P1
  obtain ⟨_, P2⟩ := Post.ok (c := c) (W := W) z Gh.le.refl Fo
  rw [if_pos (show ([] : List R).length = 0 from rfl)] at P2
  exact ⟨[], Γ, S.st, rfl, rfl, Fo.s, applyF_ok Fo P2⟩
theorem se_call0 {F : Fn} {fA : Addr} {fd : FuncData} {x : Str} (Fk : FnG X.prog X.w X.K X.mg X.base k fA fd [] (spF c 0 F)) (hG : X.A.guards = some []) (hr : Room k X.A) (hg : Gl X x) (hm : X.mg x = some (.ref fA)) (hk : PySem.W.keepIn X.K (.ref fA) = true) (hb : Binds X.K fd [] []) (tk : Takes X W)
    (hdb : (x == ("__debug__" : Str)) = false := by decide) : PE X (.Call (.Name x p) [] [] pos) (rdE c W (callM F 0 aN)) :=
  ⟨fun pins s σ H Q I h => wpAny_Call_Name_kw (ld_glob I hg hm (PySem.W.callWith_K0 I.kIn hk (run_fnG (us := []) Fk hG hr hb (passAt tk σ) I .nil (callM0_read h))) hdb)⟩
/-- e.n of an own exception -/
def attX (n : Str) (f : M R) : M R := do
  let x ← f
  fun S => match x with
    | .p (.exn k y) => if 101 ≤ k ∧ k ≤ 107 ∧ fldN k = n then .ok (.p y) S else .bad
    | _ => .bad
theorem se_attX {n : Str} (hK : X.K = c.K) (xs : Xcs c.K c.cls) (T : ∀ k, 101 ≤ k → k ≤ 107 → XfF c.K c.cls k) (he : PE X e (rdE c W f)) (hb : attributeBase e n X.env (eval e X.env) = eval e X.env := by rfl) : PE X (.Attribute e n pos) (rdE c W (attX n f)) := by
  refine ⟨fun pins s σ H Q I h => ?_⟩
  refine attr_of hb (thn (he.run pins s σ H (fun v H1 => ∃ a k d u, v = .ref a ∧ 101 ≤ k ∧ k ≤ 107 ∧ fldN k = n ∧ H1 a = some (ExV (.ref (c.cls k)) (some d) a) ∧ H1 d = some (.xd [(fldN k, u)]) ∧ Q u H1) I ?_) fun u s1 hh => ?_)
  · obtain ⟨Γ, S, F, P⟩ := h
    refine ⟨Γ, S, F, (Post.bind P).imp fun x S1 Γ1 H1 e1 F1 ⟨_, P1⟩ v hv => ?_⟩
    cases x with
    | r n => exact P1.elim
    | p d =>
      cases d with
      | exn k y =>
        by_cases hx : 101 ≤ k ∧ k ≤ 107 ∧ fldN k = n
        · simp only [if_pos hx] at P1
          obtain ⟨a', d', rfl, g1, g2⟩ := Rep.exn_iff.mp (RepR.pure.mp hv)
          rcases g2 with ⟨_, _, z⟩ | ⟨dx, u, z1, z2, z3⟩
          · omega
          · subst z1
            exact ⟨a', k, dx, u, rfl, hx.1, hx.2.1, hx.2.2, F1.s.g _ _ g1, F1.s.g _ _ z2, Post.ok (c := c) (W := W) P1 Gh.le.refl F1 _ z3⟩
        · simp only [if_neg hx] at P1; exact P1.elim
      | _ => exact P1.elim
  · obtain ⟨x, H1, I1, rx, a, k, d, w, rfl, h1, h2, rfl, ha, hd, q⟩ := hh
    obtain rfl : u = Value.ref a := rx
    have xc := xs.x k (by omega) (by omega)
    have xf := T k h1 h2
    rw [← hK] at xc xf
    obtain ⟨o, fs, e1, e2, e3, e4⟩ := ExV_at I1.hok ha
    have hx : ObjOk X.prog X.w H1 s1.heap d (.xd [(fldN k, w)]) := I1.hok d _ hd
    obtain ⟨mA, hns, hr⟩ := hx
    obtain ⟨od, ho, hl⟩ := lookIn_ns hns
    have l : List.lookup (fldN k) [(fldN k, w)] = some w := by simp [List.lookup]
    obtain ⟨u, hu, ru⟩ := RelO.some_of (v := w) (o := mA (fldN k)) (by rw [← l]; exact hr (fldN k))
    have J : PySem.W.InstAt s1.heap a o (c.cls k) (some od) := ⟨e1, e2, by unfold PySem.W.notCls; rw [e4] <;> rfl, by rw [e3]; exact ho⟩
    exact HandSPX.exc_get I1.kIn J xc.ga xc.gg xc.exC (PySem.W.findObj_own xf.hd xf.no rfl (by rw [hl, hu])) (handed_of ru) ⟨w, H1, I1.tok _, ru, q⟩
/-! the script and a list put together -/
/-! an own exception as a value -/
/-! repr of what may be the empty dict or a text, too -/
def rReprE (K : PySem.W.Frag) : List V → Hp → VK → Prop := fun xs H Q => rReprD K xs H Q ∨ (∃ a, xs = [.ref a] ∧ H a = some (.dK []) ∧ Q (.str "{}") H) ∨ ∃ z, xs = [.str z] ∧ (reprText z).length ≤ sizeLine ∧ Q (.str (reprText z)) H
def opReprE : R → M R := fun x S => match x with
  | .p .edct => .ok (.p (.str "{}")) S
  | .p (.str z) => if (reprText z).length ≤ sizeLine then .ok (.p (.str (reprText z))) S else .bad
  | x => opRepr x S
theorem reads_edct {H : Hp} {pins : List (Addr × Obj)} {σ : L2.St} {s : Shared} {a : Addr} (I : L2.Inv X pins σ H s) (h : H a = some (.dK [])) : Reads s.heap (.ref a) (.dict []) [a] ∧ (a == sysModules) = false := by
  have ob : ObjOk X.prog X.w H s.heap a (.dK []) := I.hok a _ h
  obtain ⟨_, hne, vs, hkv, o, es, ep, h1, hx, hd, _, hp, _⟩ := ob
  have e0 : vs = [] := by
    cases vs with
    | nil => rfl
    | cons y ys => have hkv : Paired _ [] (y :: ys) := hkv; cases hkv
  subst e0
  have e1 : es.toList = [] := by
    cases q : es.toList with
    | nil => rfl
    | cons y ys => rw [q] at hp; cases hp
  have r := Reads.dict (kvs := []) (as := []) (bs := []) h1 hx.1 hd (by rw [e1]; exact ReadsAll.nil) (by rw [e1]; exact ReadsAll.nil)
  exact ⟨r, hne⟩
theorem call_reprE (hG : X.A.guards = some []) (hu : X.A.units + 66 < cLine) : CallR X (.builtin "repr") (rReprE X.K) := by
  intro pins s σ H xs us Q I r h
  rcases h with h | ⟨a, rfl, ha, q⟩ | ⟨z, rfl, hz, q⟩
  · exact call_reprD hG hu pins s σ H xs us Q I r h
  · obtain ⟨u, rfl, rv⟩ := vals1 r
    obtain rfl : u = Value.ref a := rv
    obtain ⟨rd, hne⟩ := reads_edct I ha
    refine repr_of_reads' rd (by decide) (fun _ hm => ?_) hG (by show X.A.units + ((PyData.dict []).depth + 1) < cLine; rw [show (PyData.dict []).depth = 1 from by decide]; omega) (fun _ _ e => e) (fun h' u tk kp => ?_) (by rw [show (PyData.dict []).shown.length = 2 from by decide +kernel, sizeLine_eq]; decide)
    · rw [List.mem_singleton.mp hm] at hne
      simp at hne
    · exact ⟨.str _, H, I.kept (t' := tk) kp, ⟨_, rfl⟩, q⟩
  · obtain ⟨u, rfl, t, rfl⟩ := vals1 r
    exact PySem.P.repr_of_str ⟨.str _, H, I.tok _, ⟨_, rfl⟩, q⟩ hz
theorem cd_reprE (hK : X.K = c.K) : CallD c W (op1 opReprE) (rReprE X.K) :=
  cd_one (r := fun v H Q => rReprE X.K [v] H Q) (by
    intro Γ S σ H x v Q F hv P
    have gen : Post c W σ Γ (op1 opRepr [x] S) (fun z S' Γ' H' => ∀ u, RepR c Γ' z u → Q u H') → rReprE X.K [v] H Q := fun P =>
      .inl (cd_repr hK Γ S σ H [x] [v] Q F ⟨v, [], rfl, hv, rfl⟩ P)
    cases x with
    | r n => exact gen P
    | p d =>
      cases d with
      | edct =>
        obtain ⟨a, rfl, h⟩ := Rep.edct_iff.mp (RepR.pure.mp hv)
        exact .inr (.inl ⟨a, rfl, F.s.g _ _ h, Post.ok (c := c) (W := W) P Gh.le.refl F _ RepR.mkS⟩)
      | str z =>
        have P : Post c W σ Γ (if (reprText z).length ≤ sizeLine then Res.ok (R.p (.str (reprText z))) S else .bad) (fun z S' Γ' H' => ∀ u, RepR c Γ' z u → Q u H') := P
        by_cases h : (reprText z).length ≤ sizeLine
        · rw [if_pos h] at P
          exact .inr (.inr ⟨z, congrArg (fun y => [y]) (RepR.str hv), h, Post.ok (c := c) (W := W) P Gh.le.refl F _ RepR.mkS⟩)
        · rw [if_neg h] at P; exact P.elim
      | _ => exact gen P) (fun v H Q h => h)
theorem e_reprE {a : Expr} (hK : X.K = c.K) (hG : X.A.guards = some []) (hr : Room k X.A) (hm : X.mg "repr" = none) (ha : PE X a (rdE c W f)) (hg : Gl X "repr" := by rfl) (he : starEach [a] X.env = (false, eval a X.env) :: starEach [] X.env := by rfl) (hpl : (backTo pos (starEach [] X.env)).any (·.1) = false := by rfl) :
    PE X (.Call (.Name "repr" p) [a] [] pos) (rdE c W (opA (op1 opReprE) (aC f aN))) := se_callB (call_reprE hG (hu66 hr)) (cd_reprE hK) hg hm (by decide +kernel) (sa_cons ha sa_nil he) (by decide) (by decide) he hpl
/-! repr of a list display of data, among it the empty dict -/
inductive AtE (H : Hp) : V → PyData → Prop where
  | non : AtE H .non .none
  | bl (b : Bool) : AtE H (.bl b) (.bool b)
  | int (i : Int) : AtE H (.int i) (.int i)
  | str (z : Str) : AtE H (.str z) (.str z)
  | ed {a : Addr} : H a = some (.dK []) → AtE H (.ref a) (.dict [])
end
end Dd

set_option Elab.async false
set_option linter.all false
set_option maxRecDepth 100000
set_option maxHeartbeats 4000000
namespace Lib
open PySem PySem.Spec PyProof.Rows L2 Dd
noncomputable def b_is_int : M Fl :=
    (sRt (eAnd (isB "int" (vr 0)) (eNot (isB "bool" (vr 0)))))
noncomputable def s_is_int : Fn := runF 1 b_is_int

noncomputable def b_is_level : M Fl :=
    (sSq (sIf (mOr (mNot (tst (isB "tuple" (vr 0)))) (mOr (tst (bin opNeD (opA (op1 opLen) (aC (vr 0) aN)) (ci 4))) (mNot (tst (opA (op1 opAll) (aC (lcE [1] [1] unp1 (itL (vr 0)) tYesM (callM s_is_int 1 (aC (vr 1) aN))) aN)))))) (sRt (cb false)) sNx)
    (sRt (bin opEqD (opA (op1 opSort) (aC (vr 0) aN)) (lstE (aC (ci 0) (aC (ci 1) (aC (ci 2) (aC (ci 3) aN))))))))
noncomputable def s_is_level : Fn := runF 2 b_is_level

noncomputable def b_Screen___init : M Fl :=
    (sSq (sIf (mOr (mNot (tst (isB "list" (vr 1)))) (mNot (tst (eChain opLe opLe (ci 1) (opA (op1 opLen) (aC (vr 1) aN)) (cd (.int 50)))))) (sRaiseF 101 cn) sNx)
    (sSq (sFor (itE (vr 1)) (gsC (gN 2) (gsC (gN 3) gsN)) (sIf (mNot (tst (callM s_is_level 1 (aC (vr 3) aN)))) (sRaiseF 101 (vr 2)) sNx))
    (sFld 0 "own_levels" (vr 0) (opA (op1 opTuple) (aC (vr 1) aN)))))
noncomputable def s_Screen___init : Fn := runF 4 b_Screen___init

noncomputable def b_is_whole : M Fl :=
    (sRt (eAnd (callM s_is_int 1 (aC (vr 0) aN)) (eChain opLe opLe (vr 1) (vr 0) (vr 2))))
noncomputable def s_is_whole : Fn := runF 3 b_is_whole

noncomputable def b_z_law_bag : M Fl :=
    (sRt (lstE (aC (opA opMax2 (aC (ci 0) (aC (bin opSub (vr 0) (bin opPow (ci 10) (ci 18))) aN))) (aC (vr 0) (aC (ci 0) aN)))))
noncomputable def s_z_law_bag : Fn := runF 1 b_z_law_bag

noncomputable def b_z_law_pick : M Fl :=
    (sSq (sSub (bin opAdd (bin opIx (vr 0) (ci 2)) (ci 1)) (vr 0) (ci 2))
    (sSq (sIf (tst (bin opGt (bin opIx (vr 0) (ci 0)) (ci 0))) (sSq (sSet 2 (bin opMod (opA (op1 opInt) (aC (bin opIx (vr 0) (ci 0)) aN)) (vr 1)))
    (sSq (sSub (bin opDiv (opA (op1 opInt) (aC (bin opIx (vr 0) (ci 0)) aN)) (vr 1)) (vr 0) (ci 0))
    (sRt (vr 2)))) sNx)
    (sSq (sPar 3 4 (aC (opA (op1 opInt) (aC (bin opIx (vr 0) (ci 1)) aN)) (aC (opA (op1 opInt) (aC (bin opIx (vr 0) (ci 2)) aN)) aN)))
    (sSq (sSet 5 (bin opMod (opA (op1 opInt) (aC (bin opAdd (bin opAdd (bin opMul (bin opMod (vr 3) (ci 2147483629)) (ci 48271)) (bin opMul (vr 4) (ci 69621))) (ci 12345)) aN)) (ci 2147483647)))
    (sSq (sSet 6 (bin opMod (opA (op1 opInt) (aC (bin opAdd (bin opMul (vr 5) (vr 5)) (bin opMul (vr 4) (ci 40692))) aN)) (ci 2147483587)))
    (sSq (sSet 7 (bin opDiv (opA (op1 opInt) (aC (bin opAdd (bin opMul (vr 5) (ci 2147483587)) (vr 6)) aN)) (ci 32)))
    (sSq (sIf (tst (bin opGt (vr 1) (bin opPow (ci 10) (ci 15)))) (sSet 7 (bin opAdd (bin opPow (vr 7) (ci 8)) (vr 6))) sNx)
    (sRt (bin opMod (opA (op1 opInt) (aC (vr 7) aN)) (vr 1))))))))))
noncomputable def s_z_law_pick : Fn := runF 8 b_z_law_pick

noncomputable def b_Screen_levels : M Fl :=
    (sRt (opA (op1 opList) (aC (attrU 0 "own_levels" (vr 0)) aN)))
noncomputable def s_Screen_levels : Fn := runF 1 b_Screen_levels

noncomputable def b_Screen_depth : M Fl :=
    (sRt (opA (op1 opLen) (aC (attrU 0 "own_levels" (vr 0)) aN)))
noncomputable def s_Screen_depth : Fn := runF 1 b_Screen_depth

noncomputable def b_Screen_shades : M Fl :=
    (sRt (bin opShl (ci 1) (bin opMul (ci 2) (opA (op1 opLen) (aC (attrU 0 "own_levels" (vr 0)) aN)))))
noncomputable def s_Screen_shades : Fn := runF 1 b_Screen_shades

noncomputable def b_is_shade : M Fl :=
    (sRt (callM s_is_whole 3 (aC (vr 1) (aC (ci 0) (aC (bin opShl (ci 1) (bin opMul (ci 2) (opA (op1 opLen) (aC (attrU 0 "own_levels" (vr 0)) aN)))) aN)))))
noncomputable def s_is_shade : Fn := runF 2 b_is_shade

noncomputable def b_is_window : M Fl :=
    (sSq (sIf (mOr (mNot (tst (isB "tuple" (vr 0)))) (tst (bin opNeD (opA (op1 opLen) (aC (vr 0) aN)) (ci 4)))) (sRt (cb false)) sNx)
    (sSq (sAsg (vr 0) (gT 4 (gsC (gN 1) (gsC (gN 2) (gsC (gN 3) (gsC (gN 4) gsN))))))
    (sSq (sIf (mOr (mNot (tst (callM s_is_whole 3 (aC (vr 1) (aC (bin opSub (ci 0) (cd (.int 1000000000000000000000000000000))) (aC (cd (.int 1000000000000000000000000000000)) aN)))))) (mNot (tst (callM s_is_whole 3 (aC (vr 2) (aC (bin opSub (ci 0) (cd (.int 1000000000000000000000000000000))) (aC (cd (.int 1000000000000000000000000000000)) aN))))))) (sRt (cb false)) sNx)
    (sRt (eAnd (callM s_is_whole 3 (aC (vr 3) (aC (ci 1) (aC (cd (.int 1000000000000000000000000000000)) aN)))) (callM s_is_whole 3 (aC (vr 4) (aC (ci 1) (aC (cd (.int 1000000000000000000000000000000)) aN)))))))))
noncomputable def s_is_window : Fn := runF 5 b_is_window

noncomputable def b_require_window : M Fl :=
    (sIf (mNot (tst (callM s_is_window 1 (aC (vr 0) aN)))) (sRaise 110) sNx)
noncomputable def s_require_window : Fn := runF 1 b_require_window

noncomputable def b_is_coordinate : M Fl :=
    (sRt (callM s_is_whole 3 (aC (vr 0) (aC (bin opSub (ci 0) (cd (.int 1000000000000000000000000000000))) (aC (cd (.int 1000000000000000000000000000000)) aN)))))
noncomputable def s_is_coordinate : Fn := runF 1 b_is_coordinate

noncomputable def b_is_plate : M Fl :=
    (sSq (sIf (mOr (mNot (tst (isB "tuple" (vr 0)))) (mOr (tst (bin opNeD (opA (op1 opLen) (aC (vr 0) aN)) (ci 4))) (mNot (tst (isC 0 (bin opIx (vr 0) (ci 0))))))) (sRt (cb false)) sNx)
    (sRt (eAnd (callM s_is_shade 2 (aC (bin opIx (vr 0) (ci 0)) (aC (bin opIx (vr 0) (ci 1)) aN))) (eAnd (callM s_is_coordinate 1 (aC (bin opIx (vr 0) (ci 2)) aN)) (callM s_is_coordinate 1 (aC (bin opIx (vr 0) (ci 3)) aN))))))
noncomputable def s_is_plate : Fn := runF 1 b_is_plate

noncomputable def b_require_plates : M Fl :=
    (sSq (sIf (mOr (mNot (tst (isB "list" (vr 0)))) (mNot (tst (eChain opLe opLe (ci 1) (opA (op1 opLen) (aC (vr 0) aN)) (vr 1))))) (sRaiseF 102 cn) sNx)
    (sFor (itE (vr 0)) (gsC (gN 2) (gsC (gN 3) gsN)) (sIf (mNot (tst (callM s_is_plate 1 (aC (vr 3) aN)))) (sRaiseF 102 (vr 2)) sNx)))
noncomputable def s_require_plates : Fn := runF 4 b_require_plates

noncomputable def b_looks_of : M Fl :=
    (sSq (sSet 2 (lstE aN))
    (sSq (sFor (itL (vr 1)) (gT 4 (gsC (gN 3) (gsC (gN 4) (gsC (gN 5) (gsC (gN 6) gsN))))) (sSq (sAsg (bin opIx (vr 0) (vr 3)) (gT 4 (gsC (gN 7) (gsC (gN 8) (gsC (gN 9) (gsC (gN 10) gsN))))))
    (sSq (sSet 11 (propU 0 s_Screen_depth (vr 7)))
    (sSq (sSet 12 (bin opEqD (vr 8) (propU 0 s_Screen_shades (vr 7))))
    (sSq (sSq (sSet 13 (lcE [14] [14] unp1 (itR1 (aC (vr 11) aN)) tYesM (eIf (tst (vr 12)) (ci 4) (bin opBand (bin opShr (vr 8) (bin opMul (ci 2) (bin opSub (bin opSub (vr 11) (ci 1)) (vr 14)))) (ci 3))))) (sPur 13))
    (sEx (methM isLst opApp (vr 2) (aC (tupE (aC (attrU 0 "own_levels" (vr 7)) (aC (vr 13) (aC (bin opSub (vr 4) (vr 9)) (aC (bin opSub (vr 5) (vr 10)) aN))))) aN))))))))
    (sRt (vr 2))))
noncomputable def s_looks_of : Fn := runF 15 b_looks_of

noncomputable def b_bit_of : M Fl :=
    (sRt (bin opBand (bin opShr (vr 0) (vr 1)) (ci 1)))
noncomputable def s_bit_of : Fn := runF 2 b_bit_of

noncomputable def b_less_so_far : M Fl :=
    (sRt (eIf (tst (bin opEqD (vr 0) (vr 1))) (vr 2) (bin opLt (vr 0) (vr 1))))
noncomputable def s_less_so_far : Fn := runF 3 b_less_so_far

noncomputable def b_z_law_levels_v1 : M Fl :=
    (sSq (sSet 2 (lstE aN))
    (sSq (sFor (itR1 (aC (bin opAdd (ci 1) (callM s_z_law_pick 2 (aC (vr 0) (aC (vr 1) aN)))) aN)) (gN 3) (sSq (sPar 4 5 (aC (lstE (aC (ci 0) (aC (ci 1) (aC (ci 2) (aC (ci 3) aN))))) (aC (lstE aN) aN)))
    (sSq (sWhile (tst (bin opNeD (vr 4) (lstE aN))) (sEx (methM isLst opApp (vr 5) (aC (methM isLst opPopAt (vr 4) (aC (callM s_z_law_pick 2 (aC (vr 0) (aC (opA (op1 opLen) (aC (vr 4) aN)) aN))) aN)) aN))))
    (sEx (methM isLst opApp (vr 2) (aC (opA (op1 opTuple) (aC (vr 5) aN)) aN))))))
    (sRt (vr 2))))
noncomputable def s_z_law_levels_v1 : Fn := runF 6 b_z_law_levels_v1

noncomputable def b_z_law_shade_v1 : M Fl :=
    (sSq (sSet 2 (bin opShl (ci 1) (bin opMul (ci 2) (opA (op1 opLen) (aC (vr 1) aN)))))
    (sSq (sSet 3 (bin opShl (ci 1) (bin opMul (ci 2) (callM s_z_law_pick 2 (aC (vr 0) (aC (bin opAdd (opA (op1 opLen) (aC (vr 1) aN)) (ci 1)) aN))))))
    (sSq (sSet 4 (callM s_z_law_pick 2 (aC (vr 0) (aC (bin opAdd (vr 2) (ci 1)) aN))))
    (sRt (bin opIx (lstE (aC (vr 4) (aC (bin opMul (bin opDiv (vr 4) (vr 3)) (vr 3)) (aC (ci 0) (aC (vr 2) (aC (vr 4) aN)))))) (callM s_z_law_pick 2 (aC (vr 0) (aC (ci 5) aN))))))))
noncomputable def s_z_law_shade_v1 : Fn := runF 5 b_z_law_shade_v1

noncomputable def b_z_law_bad_windows : M Fl :=
    (sSq (sSet 0 (pur (lstE (aC cn (aC (ci 0) (aC (cb true) (aC (cs "") (aC (cs "0 0 1 1") (aC (tupE aN) (aC (lstE aN) (aC edE (aC (tupE (aC (ci 0) (aC (ci 0) (aC (ci 1) aN)))) (aC (tupE (aC (ci 0) (aC (ci 0) (aC (ci 1) (aC (ci 1) (aC (ci 1) aN)))))) (aC (lstE (aC (ci 0) (aC (ci 0) (aC (ci 1) (aC (ci 1) aN))))) (aC (bin opPow (ci 10) (ci 40)) aN)))))))))))))))
    (sSq (sFor (itL (tupE (aC cn (aC (cb true) (aC (cs "1") (aC (lstE (aC (ci 1) aN)) (aC (bin opAdd (bin opPow (ci 10) (ci 30)) (ci 1)) (aC (bin opPow (ci 10) (ci 60)) aN)))))))) (gN 1) (sSet 0 (pur (bin opAdd (vr 0) (lstE (aC (tupE (aC (vr 1) (aC (ci 0) (aC (ci 1) (aC (ci 1) aN))))) (aC (tupE (aC (ci 0) (aC (vr 1) (aC (ci 1) (aC (ci 1) aN))))) (aC (tupE (aC (ci 0) (aC (ci 0) (aC (vr 1) (aC (ci 1) aN))))) (aC (tupE (aC (ci 0) (aC (ci 0) (aC (ci 1) (aC (vr 1) aN))))) aN)))))))))
    (sSq (sSet 2 (bin opSub (bin opSub (ci 0) (bin opPow (ci 10) (ci 30))) (ci 1)))
    (sRt (bin opAdd (vr 0) (lstE (aC (tupE (aC (vr 2) (aC (ci 0) (aC (ci 1) (aC (ci 1) aN))))) (aC (tupE (aC (ci 0) (aC (vr 2) (aC (ci 1) (aC (ci 1) aN))))) (aC (tupE (aC (ci 0) (aC (ci 0) (aC (ci 0) (aC (ci 1) aN))))) (aC (tupE (aC (ci 0) (aC (ci 0) (aC (ci 1) (aC (ci 0) aN))))) (aC (tupE (aC (ci 0) (aC (ci 0) (aC (uNeg (ci 1)) (aC (ci 1) aN))))) (aC (tupE (aC (ci 0) (aC (ci 0) (aC (ci 1) (aC (uNeg (ci 1)) aN))))) aN))))))))))))
noncomputable def s_z_law_bad_windows : Fn := runF 3 b_z_law_bad_windows

end Lib

set_option Elab.async false
set_option linter.all false
set_option maxRecDepth 100000
set_option maxHeartbeats 4000000
namespace Lib
open PySem PySem.Spec PyProof.Rows L2 Dd
noncomputable def b_step_of : M Fl :=
    (sSq (sAsg (vr 2) (gT 3 (gsC (gN 5) (gsC (gN 6) (gsC (gN 7) gsN)))))
    (sSq (sPar3 8 9 10 (aC (lstE aN) (aC (lstE aN) (aC (lstE aN) aN))))
    (sSq (sFor (itZn 4 (aC (vr 0) (aC (vr 5) (aC (vr 6) (aC (vr 7) aN))))) (gsC (gN 11) (gsC (gN 12) (gsC (gN 13) (gsC (gN 14) gsN)))) (sSq (sAsg (vr 11) (gT 4 (gsC (gN 15) (gsC (gN 16) (gsC (gN 17) (gsC (gN 18) gsN))))))
    (sSq (sPar 19 20 (aC (bin opAdd (bin opAdd (vr 3) (callM s_bit_of 2 (aC (vr 17) (aC (vr 1) aN)))) (vr 12)) (aC (bin opAdd (bin opAdd (vr 4) (callM s_bit_of 2 (aC (vr 18) (aC (vr 1) aN)))) (vr 13)) aN)))
    (sSq (sEx (methM isLst opApp (vr 8) (aC (bin opShr (vr 19) (ci 1)) aN)))
    (sSq (sEx (methM isLst opApp (vr 9) (aC (bin opShr (vr 20) (ci 1)) aN)))
    (sIf (mAnd (tst (bin opEqD (vr 14) (ci 2))) (tst (bin opLt (vr 1) (opA (op1 opLen) (aC (vr 15) aN))))) (sSq (sSet 21 (bin opIx (bin opIx (vr 15) (vr 1)) (bin opAdd (bin opBand (vr 19) (ci 1)) (bin opMul (ci 2) (bin opBand (vr 20) (ci 1))))))
    (sEx (methM isLst opApp (vr 10) (aC (eIf (tst (bin opEqD (vr 21) (bin opIx (vr 16) (vr 1)))) (ci 2) (opA (op1 opInt) (aC (bin opLt (vr 21) (bin opIx (vr 16) (vr 1))) aN))) aN)))) (sEx (methM isLst opApp (vr 10) (aC (vr 14) aN)))))))))
    (sRt (tupE (aC (opA (op1 opTuple) (aC (vr 8) aN)) (aC (opA (op1 opTuple) (aC (vr 9) aN)) (aC (opA (op1 opTuple) (aC (vr 10) aN)) aN))))))))
noncomputable def s_step_of : Fn := runF 22 b_step_of

noncomputable def b_may_be : M Fl :=
    (sRt (eOr (isN (vr 1)) (opA (op1 opAll) (aC (lcE [2, 3] [2, 3] unpW (itZn 2 (aC (vr 0) (aC (vr 1) aN))) tYesM (bin opIn (vr 2) (tupE (aC (ci 2) (aC (vr 3) aN))))) aN))))
noncomputable def s_may_be : Fn := runF 4 b_may_be

noncomputable def b_tally : M Fl :=
    (sSq (sAsg (vr 2) (gT 4 (gsC (gN 3) (gsC (gN 4) (gsC (gN 5) (gsC (gN 6) gsN))))))
    (sSq (sSq (sSet 7 (lcE [27, 28, 29, 30] [27, 28, 29, 30] unpT (itL (vr 0)) tYesM (tupE (aC (vr 27) (aC (vr 28) (aC (bin opAdd (vr 29) (vr 3)) (aC (bin opAdd (vr 30) (vr 4)) aN))))))) (sPur 7))
    (sSq (sSet 8 (opA (op1 opMaxL) (aC (lcE [31] [31] unp1 (itL (vr 0)) tYesM (opA (op1 opLen) (aC (bin opIx (vr 31) (ci 0)) aN))) aN)))
    (sSq (sSet 9 (opA (op1 opLen) (aC (vr 0) aN)))
    (sSq (sSet 10 (tupE (aC (opA (op1 opTuple) (aC (bin opMul (lstE (aC (ci 0) aN)) (vr 9)) aN)) (aC (opA (op1 opTuple) (aC (bin opMul (lstE (aC (ci 0) aN)) (vr 9)) aN)) (aC (opA (op1 opTuple) (aC (bin opMul (lstE (aC (ci 2) aN)) (vr 9)) aN)) aN)))))
    (sSq (sSet 11 (dt1E (tupE (aC (vr 10) (aC (cb false) (aC (cb false) aN)))) (ci 1)))
    (sSq (sFor (itR1 (aC (vr 8) aN)) (gN 12) (sSq (sSet 13 dtE)
    (sSq (sPar 14 15 (aC (callM s_bit_of 2 (aC (vr 5) (aC (vr 12) aN))) (aC (callM s_bit_of 2 (aC (vr 6) (aC (vr 12) aN))) aN)))
    (sSq (sFor (ditE (vr 11)) (gsC (gT 3 (gsC (gN 16) (gsC (gN 17) (gsC (gN 18) gsN)))) (gsC (gN 19) gsN)) (sFor (itL (tupE (aC (ci 0) (aC (ci 1) aN)))) (gN 20) (sFor (itL (tupE (aC (ci 0) (aC (ci 1) aN)))) (gN 21) (sSq (sSet 22 (callM s_step_of 5 (aC (vr 7) (aC (vr 12) (aC (vr 16) (aC (vr 20) (aC (vr 21) aN)))))))
    (sIf (tst (callM s_may_be 2 (aC (bin opIx (vr 22) (ci 2)) (aC (vr 1) aN)))) (sSq (sSet 23 (tupE (aC (vr 22) (aC (callM s_less_so_far 3 (aC (vr 20) (aC (vr 14) (aC (vr 17) aN)))) (aC (callM s_less_so_far 3 (aC (vr 21) (aC (vr 15) (aC (vr 18) aN)))) aN)))))
    (sDset (bin opAdd (dgetE (vr 13) (vr 23) (ci 0)) (vr 19)) (vr 13) (vr 23))) sNx)))))
    (sSet 11 (vr 13))))))
    (sSq (sSet 24 dtE)
    (sSq (sFor (ditE (vr 11)) (gsC (gT 3 (gsC (gN 16) (gsC (gN 17) (gsC (gN 18) gsN)))) (gsC (gN 19) gsN)) (sSq (sSet 25 (pur (opA (op1 opTuple) (aC (lcE [32] [32] unp1 (itL (bin opIx (vr 16) (ci 2))) tYesM (bin opEqD (vr 32) (ci 1))) aN))))
    (sSq (sSet 26 (bin opMul (bin opMul (vr 19) (bin opAdd (bin opShr (vr 5) (vr 8)) (opA (op1 opInt) (aC (vr 17) aN)))) (bin opAdd (bin opShr (vr 6) (vr 8)) (opA (op1 opInt) (aC (vr 18) aN)))))
    (sDset (bin opAdd (dgetE (vr 24) (vr 25) (ci 0)) (vr 26)) (vr 24) (vr 25)))))
    (sRt (vr 24)))))))))))
noncomputable def s_tally : Fn := runF 33 b_tally

noncomputable def b_ink_list : M Fl :=
    (sSq (sSet 2 (pur (callM s_looks_of 2 (aC (vr 0) (aC (pur (lcE [7] [7] unp1 (itR1 (aC (opA (op1 opLen) (aC (vr 0) aN)) aN)) tYesM (tupE (aC (vr 7) (aC (ci 0) (aC (ci 0) (aC (cb true) aN))))))) aN)))))
    (sSq (sPar 3 4 (aC (callM s_tally 3 (aC (vr 2) (aC cn (aC (vr 1) aN)))) (aC (bin opMul (lstE (aC (ci 0) aN)) (bin opShl (ci 1) (opA (op1 opLen) (aC (vr 0) aN)))) aN)))
    (sSq (sFor (ditE (vr 3)) (gsC (gN 5) (gsC (gN 6) gsN)) (sAugS (fun i j => i + j) (vr 4) (opA (op1 opSum) (aC (lcE [7, 8] [7, 8] unpW (itE (vr 5)) (tst (vr 8)) (bin opShl (ci 1) (vr 7))) aN)) (vr 6)))
    (sRt (vr 4)))))
noncomputable def s_ink_list : Fn := runF 9 b_ink_list

noncomputable def b_ink_counts : M Fl :=
    (sSq (sEx (callM s_require_plates 2 (aC (vr 0) (aC (cd (.int 3)) aN))))
    (sSq (sEx (callM s_require_window 1 (aC (vr 1) aN)))
    (sRt (callM s_ink_list 2 (aC (vr 0) (aC (vr 1) aN))))))
noncomputable def s_ink_counts : Fn := runF 2 b_ink_counts

noncomputable def b_covered : M Fl :=
    (sSq (sEx (callM s_require_plates 2 (aC (vr 0) (aC (cd (.int 3)) aN))))
    (sSq (sEx (callM s_require_window 1 (aC (vr 1) aN)))
    (sRt (opA (op1 opSum) (aC (slE (callM s_ink_list 2 (aC (vr 0) (aC (vr 1) aN))) (opt1 (ci 1)) opt0) aN)))))
noncomputable def s_covered : Fn := runF 2 b_covered

noncomputable def b_z_law_plates_v1 : M Fl :=
    (sSq (sSet 3 (lstE aN))
    (sSq (sFor (itR1 (aC (vr 1) aN)) (gN 4) (sSq (sSet 5 (pur (callM s_z_law_levels_v1 2 (aC (vr 0) (aC (vr 2) aN)))))
    (sSq (sIf (mAnd (tst (bin opNeE (vr 3) (lstE aN))) (tst (bin opEqD (callM s_z_law_pick 2 (aC (vr 0) (aC (ci 3) aN))) (ci 0)))) (sSet 5 (bin opIx (bin opIx (vr 3) (ci 0)) (ci 0))) sNx)
    (sSq (sSet 6 (bin opIx (lstE (aC (bin opSub (callM s_z_law_pick 2 (aC (vr 0) (aC (ci 7) aN))) (ci 3)) (aC (bin opSub (callM s_z_law_pick 2 (aC (vr 0) (aC (bin opAdd (bin opMul (ci 2) (bin opPow (ci 10) (ci 30))) (ci 1)) aN))) (bin opPow (ci 10) (ci 30))) aN))) (opA (op1 opInt) (aC (bin opEqD (callM s_z_law_pick 2 (aC (vr 0) (aC (ci 4) aN))) (ci 0)) aN))))
    (sEx (methM isLst opApp (vr 3) (aC (tupE (aC (vr 5) (aC (callM s_z_law_shade_v1 2 (aC (vr 0) (aC (vr 5) aN))) (aC (vr 6) (aC (bin opSub (callM s_z_law_pick 2 (aC (vr 0) (aC (ci 7) aN))) (ci 3)) aN))))) aN)))))))
    (sRt (vr 3))))
noncomputable def s_z_law_plates_v1 : Fn := runF 7 b_z_law_plates_v1

noncomputable def b_z_law_made_v1 : M Fl :=
    (sSq (sPar 1 2 (aC (lstE aN) (aC (lstE aN) aN)))
    (sSq (sFor (itL (vr 0)) (gT 4 (gsC (gN 3) (gsC (gN 4) (gsC (gN 5) (gsC (gN 6) gsN))))) (sSq (sSq (sSet 7 (lcE [8] [8] unp1 (itL (vr 1)) (tst (bin opEqD (propU 0 s_Screen_levels (vr 8)) (vr 3))) (vr 8))) (sPur 7))
    (sSq (sEx (methM isLst opApp (vr 1) (aC (eIf (tst (bin opNeE (vr 7) (lstE aN))) (bin opIx (vr 7) (ci 0)) (makeU 0 s_Screen___init 2 (aC (vr 3) aN))) aN)))
    (sEx (methM isLst opApp (vr 2) (aC (tupE (aC (bin opIx (vr 1) (uNeg (ci 1))) (aC (vr 4) (aC (vr 5) (aC (vr 6) aN))))) aN))))))
    (sRt (vr 2))))
noncomputable def s_z_law_made_v1 : Fn := runF 9 b_z_law_made_v1

noncomputable def b_z_law_class_v2 : M Fl :=
    (sSq (sSet 1 (pur (lstE (aC (tupE (aC (cs "InvalidLevels") (aC (isX 101 (vr 0)) aN))) (aC (tupE (aC (cs "InvalidPlates") (aC (isX 102 (vr 0)) aN))) aN)))))
    (sSq (sSet 1 (pur (bin opAdd (vr 1) (lstE (aC (tupE (aC (cs "InvalidConditions") (aC (isX 103 (vr 0)) aN))) aN)))))
    (sSq (sSet 1 (pur (bin opAdd (vr 1) (lstE (aC (tupE (aC (cs "InvalidSeen") (aC (isX 104 (vr 0)) aN))) (aC (tupE (aC (cs "InvalidText") (aC (isX 105 (vr 0)) aN))) aN))))))
    (sSq (sSet 1 (pur (bin opAdd (vr 1) (lstE (aC (tupE (aC (cs "TooDeep") (aC (isX 106 (vr 0)) aN))) (aC (tupE (aC (cs "OverInk") (aC (isX 107 (vr 0)) aN))) aN))))))
    (sSq (sSet 1 (pur (bin opAdd (vr 1) (lstE (aC (tupE (aC (cs "InvalidScreen") (aC (isX 108 (vr 0)) aN))) aN)))))
    (sSq (sSet 1 (pur (bin opAdd (vr 1) (lstE (aC (tupE (aC (cs "InvalidShade") (aC (isX 109 (vr 0)) aN))) (aC (tupE (aC (cs "Nothing") (aC (isX 118 (vr 0)) aN))) aN))))))
    (sSq (sSet 1 (pur (bin opAdd (vr 1) (lstE (aC (tupE (aC (cs "InvalidWindow") (aC (isX 110 (vr 0)) aN))) aN)))))
    (sSq (sSet 1 (pur (bin opAdd (vr 1) (lstE (aC (tupE (aC (cs "InvalidPlace") (aC (isX 111 (vr 0)) aN))) (aC (tupE (aC (cs "InvalidSide") (aC (isX 112 (vr 0)) aN))) aN))))))
    (sSq (sSet 1 (pur (bin opAdd (vr 1) (lstE (aC (tupE (aC (cs "InvalidKind") (aC (isX 113 (vr 0)) aN))) (aC (tupE (aC (cs "InvalidRows") (aC (isX 115 (vr 0)) aN))) aN))))))
    (sSq (sSet 1 (pur (bin opAdd (vr 1) (lstE (aC (tupE (aC (cs "InvalidNumber") (aC (isX 114 (vr 0)) aN))) aN)))))
    (sSq (sSet 1 (pur (bin opAdd (vr 1) (lstE (aC (tupE (aC (cs "InvalidLimit") (aC (isX 116 (vr 0)) aN))) aN)))))
    (sSq (sSet 1 (pur (bin opAdd (vr 1) (lstE (aC (tupE (aC (cs "InvalidOperation") (aC (isX 117 (vr 0)) aN))) aN)))))
    (sSq (sSet 1 (pur (bin opAdd (vr 1) (lstE (aC (tupE (aC (cs "InvalidCommand") (aC (isX 119 (vr 0)) aN))) aN)))))
    (sSq (sSq (sSet 2 (lcE [3, 4] [3, 4] unpT (itL (vr 1)) (tst (vr 4)) (vr 3))) (sPur 2))
    (sSq (sIf (mOr (tst (bin opNeD (opA (op1 opLen) (aC (vr 2) aN)) (ci 1))) (mNot (tst (isVE (vr 0))))) (sRt (cs "odd")) sNx)
    (sRt (bin opAdd (bin opIx (vr 2) (ci 0)) (eIf (tst (bin opIn (bin opIx (vr 2) (ci 0)) (tupE (aC (cs "InvalidPlates") (aC (cs "InvalidSeen") aN))))) (bin opAdd (cs " ") (opA (op1 opRepr) (aC (attX "item" (vr 0)) aN))) (cs "")))))))))))))))))))
noncomputable def s_z_law_class_v2 : Fn := runF 5 b_z_law_class_v2

end Lib

set_option Elab.async false
set_option linter.all false
set_option maxRecDepth 100000
namespace Lib
open PySem PySem.Spec PyProof.Rows L2 Dd
theorem is_int_i (i : Int) (st : Store) : s_is_int [.p (.int i)] st = .ok (.val (.bl true)) st := by
  unfold s_is_int b_is_int
  simp! []
theorem is_whole_i (i a b : Int) (st : Store) : s_is_whole [.p (.int i), .p (.int a), .p (.int b)] st = .ok (.val (.bl (decide (a ≤ i ∧ i ≤ b)))) st := by
  unfold s_is_whole b_is_whole
  simp! [is_int_i]
  by_cases h : a ≤ i <;> simp [h]
/-- a level: the four digits in some order -/
def Lv (d : D) : Prop := ∃ a b c e : Int, d = .tup [.int a, .int b, .int c, .int e] ∧ sortI [a, b, c, e] = [0, 1, 2, 3]
theorem is_level_ok {d : D} (st : Store) (h : Lv d) : s_is_level [.p d] st = .ok (.val (.bl true)) st := by
  obtain ⟨a, b, c, e, rfl, h⟩ := h
  unfold s_is_level b_is_level
  simp! []
  rw [lcL_map (g := fun _ => D.bl true) trivial _ _ (fun d hd => by
    simp only [List.mem_cons, List.not_mem_nil, or_false] at hd
    rcases hd with rfl | rfl | rfl | rfl <;> simp! [is_int_i]) (by simp)]
  simp! [lcFin_ok, allK, blsOf, List.all_cons, List.all_nil, id]
  have hs : intsOf [D.int a, D.int b, D.int c, D.int e] = some [a, b, c, e] := rfl
  simp! [sortK, hs, h]
  rw [opEqD_li (ns := [0, 1, 2, 3]) (ms := [0, 1, 2, 3]) (by rw [dataR_r]; simp! []; rfl) (by rw [dataR_r]; simp! []; rfl)]
  simp! []
theorem lv_of {l : List Int} (h : l.Perm [0, 1, 2, 3]) : Lv (.tup (l.map .int)) := by
  have hl := h.length_eq
  match l, hl with
  | [a, b, c, e], _ => exact ⟨a, b, c, e, rfl, (sortI_eq h.symm (by decide)).symm⟩
/-- levels as data -/
def lvD (ls : List (List Int)) : List D := ls.map fun l => .tup (l.map .int)
def LvOk (ls : List (List Int)) : Prop := 1 ≤ ls.length ∧ ls.length ≤ 50 ∧ ∀ l ∈ ls, l.Perm [0, 1, 2, 3]
theorem screen_init (ls : List (List Int)) (h : LvOk ls) (st : Store) :
    s_Screen___init [.r st.length, .p (.lst (lvD ls))] (st ++ [.mu (.obj 0 [])]) = .ok (.val .non) (st ++ [.mu (.obj 0 [("own_levels", .tup (lvD ls))])]) := by
  obtain ⟨h1, h2, h3⟩ := h
  have hl : (lvD ls).length = ls.length := List.length_map ..
  unfold s_Screen___init b_Screen___init
  have e1 : decide (1 ≤ ((ls.length : Nat) : Int)) = true := by simp; omega
  have e2 : decide (((ls.length : Nat) : Int) ≤ 50) = true := by simp; omega
  simp! [hl, e1, e2]
  obtain ⟨S', e, x, y, rfl⟩ := loop_inv (ok := fun _ => True) (body := fun d => (gsC (gN 2) (gsC (gN 3) gsN) d >>= fun _ => sIf (mNot (tst (callM s_is_level 1 (aC (vr 3) aN)))) (sRaiseF 101 (vr 2)) sNx : M Fl))
    (I := fun _ S => ∃ x y, S = ⟨[some (R.r st.length), some (R.p (D.lst (lvD ls))), x, y], st ++ [Cell.mu (Con.obj 0 [])]⟩) (numbered 0 (lvD ls)) 0 _ ⟨none, none, rfl⟩ (fun _ _ _ => trivial) (fun j d S hj ⟨x, y, hS⟩ => by
      subst hS
      obtain ⟨d', rfl, hd⟩ := numbered_at hj
      obtain ⟨l, hl, rfl⟩ := List.mem_map.mp (List.mem_of_getElem? hd)
      refine ⟨_, .inl (by rw [bind_bnd]; simp! [is_level_ok _ (lv_of (h3 l hl))]; rfl), _, _, rfl⟩)
  rw [e]
  simp! [fldK, putD]
theorem screen_make (ls : List (List Int)) (h : LvOk ls) (S : Sg) : makeK 0 s_Screen___init 2 [.p (.lst (lvD ls))] S = .ok (.r S.st.length) ⟨S.sl, S.st ++ [.mu (.obj 0 [("own_levels", .tup (lvD ls))])]⟩ := by
  unfold makeK
  simp only [List.length_cons, List.length_nil]
  rw [if_pos trivial, screen_init ls h]
theorem objD_scr {l : List D} : objD 0 [("own_levels", .tup l)] = some (.scr l) := rfl
theorem two_len {n : Nat} (h : n ≤ 50) : CMulW 2 (n : Int) := cmulw (n := 2) (m := 10) (Bt.of (by omega)) (Bt.of (by omega))
theorem shl_four (n : Nat) : (1 : Int) * 2 ^ (2 * (n : Int)).toNat = 4 ^ n := by
  rw [Int.one_mul, show (2 * (n : Int)).toNat = 2 * n by omega, Int.pow_mul]; rfl
theorem is_shade_i (ls : List (List Int)) (h : ls.length ≤ 50) (v : Int) (st : Store) : s_is_shade [.p (.scr (lvD ls)), .p (.int v)] st = .ok (.val (.bl (decide (0 ≤ v ∧ v ≤ 4 ^ ls.length)))) st := by
  have hl : (lvD ls).length = ls.length := List.length_map ..
  unfold s_is_shade b_is_shade
  simp! [hl, opMul_i (two_len h), opShl_i (cshl1 (j := 2 * (ls.length : Int)) (by omega) (by omega)), is_whole_i, shl_four]
/-- a window -/
def WinOk (l t w h : Int) : Prop := -(1000000000000000000000000000000 : Int) ≤ l ∧ l ≤ (1000000000000000000000000000000 : Int) ∧ -(1000000000000000000000000000000 : Int) ≤ t ∧ t ≤ (1000000000000000000000000000000 : Int) ∧ 1 ≤ w ∧ w ≤ (1000000000000000000000000000000 : Int) ∧ 1 ≤ h ∧ h ≤ (1000000000000000000000000000000 : Int)
def winD (l t w h : Int) : D := .tup [.int l, .int t, .int w, .int h]
theorem is_window_ok {l t w h : Int} (k : WinOk l t w h) (st : Store) : s_is_window [.p (winD l t w h)] st = .ok (.val (.bl true)) st := by
  obtain ⟨k1, k2, k3, k4, k5, k6, k7, k8⟩ := k
  unfold s_is_window b_is_window winD
  simp! [is_whole_i, k1, k2, k3, k4, k5, k6, k7, k8]
theorem require_window_ok {l t w h : Int} (k : WinOk l t w h) (st : Store) : s_require_window [.p (winD l t w h)] st = .ok (.val .non) st := by
  unfold s_require_window b_require_window
  simp! [is_window_ok k]
/-- how many of the coordinates leave the residue -/
def resi (f m r : Int) (s : Nat) : Int := (f + m - 1 - r) / 2 ^ s - (f - 1 - r) / 2 ^ s
end Lib

set_option Elab.async false
set_option linter.all false
set_option maxRecDepth 100000
namespace Dd
open PySem PySem.Spec PyProof.Rows L2
/-! how an own exception goes through a meaning -/
theorem sRaise_ap (k : Nat) (S : Sg) : sRaise k S = .exc ⟨k, .non⟩ S := Eq.trans rfl rfl
theorem finish_exc {b : Nat} {x : Xn} {S : Sg} : finish b (.exc x S) = .exc x (S.st.take b) := Eq.trans rfl rfl
theorem applyF_exc {S : Sg} {x : Xn} {st : Store} : applyF S (.exc x st) = .exc x ⟨S.sl, st⟩ := Eq.trans rfl rfl
def tryG (i : Nat) : Res Fl → Res Fl
  | .ok .nx S2 => .ok .nx { S2 with sl := S2.sl.set i none }
  | _ => .bad
def tryR (i : Nat) (g : M Fl) : Res Fl → Res Fl
  | .exc x S' => if 100 ≤ x.k ∧ x.k ≤ 119 then tryG i (g { S' with sl := S'.sl.set i (some (.p (.exn x.k x.f))) }) else .bad
  | r => r
theorem sTry_ap (i : Nat) (h g : M Fl) (S : Sg) : sTry i h g S = tryR i g (h S) := by
  unfold sTry tryR
  cases h S with
  | bad => rfl
  | ok a S => rfl
  | exc x S' =>
    show (if _ then _ else _) = (if _ then _ else _)
    split
    · cases g { S' with sl := S'.sl.set i (some (.p (.exn x.k x.f))) } with
      | bad => rfl
      | exc y S => rfl
      | ok b S => cases b <;> rfl
    · rfl
theorem tryR_ok {i : Nat} {g : M Fl} {a : Fl} {S : Sg} : tryR i g (.ok a S) = .ok a S := Eq.trans rfl rfl
theorem tryR_exc {i k : Nat} {f : D} {g : M Fl} {S : Sg} (h : 100 ≤ k ∧ k ≤ 119) : tryR i g (.exc ⟨k, f⟩ S) = tryG i (g ⟨S.sl.set i (some (.p (.exn k f))), S.st⟩) := if_pos h
theorem tryG_nx {i : Nat} {S : Sg} : tryG i (.ok .nx S) = .ok .nx ⟨S.sl.set i none, S.st⟩ := Eq.trans rfl rfl
def isXK (j : Nat) (x : R) (S : Sg) : Res R := match x with
  | .p (.exn k _) => if 100 ≤ k ∧ k ≤ 119 then .ok (.p (.bl (xsub k j))) S else .bad
  | _ => .bad
theorem isX_ap (j : Nat) (f : M R) (S : Sg) : isX j f S = (f S).bnd (isXK j) := by
  refine (bind_bnd _ _ _).trans (bnd_ext fun x S1 => ?_)
  cases x with
  | r n => rfl
  | p d => cases d <;> rfl
theorem isXK_n {j k : Nat} {y : D} {S : Sg} (h : 100 ≤ k ∧ k ≤ 119) : isXK j (.p (.exn k y)) S = .ok (.p (.bl (xsub k j))) S := if_pos h
def isVK (x : R) (S : Sg) : Res R := match x with
  | .p (.exn k _) => if 100 ≤ k ∧ k ≤ 119 then .ok (.p (.bl true)) S else .bad
  | _ => .bad
theorem isVE_ap (f : M R) (S : Sg) : isVE f S = (f S).bnd isVK := by
  refine (bind_bnd _ _ _).trans (bnd_ext fun x S1 => ?_)
  cases x with
  | r n => rfl
  | p d => cases d <;> rfl
theorem isVK_n {k : Nat} {y : D} {S : Sg} (h : 100 ≤ k ∧ k ≤ 119) : isVK (.p (.exn k y)) S = .ok (.p (.bl true)) S := if_pos h
/-- data of the kinds that isinstance is asked of -/
def okD : D → Bool
  | .non => true | .bl _ => true | .int _ => true | .str _ => true | .tup _ => true | .lst _ => true | .edct => true | .scr _ => true | _ => false
def isaD (n : String) (d : D) : Bool := match kindD d with | some t => subTy t n | none => false
theorem isK_okD {n : String} {d : D} {S : Sg} (h : okD d = true) : isK n (.p d) S = .ok (.p (.bl (isaD n d))) S := by
  cases d <;> first | (cases h; done) | rfl
theorem isaD_int {d : D} : isaD "int" d = (match d with | .int _ => true | .bl _ => true | _ => false) := by cases d <;> first | rfl | (show subTy _ _ = _; decide)
theorem isaD_bool {d : D} : isaD "bool" d = (match d with | .bl _ => true | _ => false) := by cases d <;> first | rfl | (show subTy _ _ = _; decide)
theorem isaD_tuple {d : D} : isaD "tuple" d = (match d with | .tup _ => true | _ => false) := by cases d <;> first | rfl | (show subTy _ _ = _; decide)
theorem isaD_list {d : D} : isaD "list" d = (match d with | .lst _ => true | _ => false) := by cases d <;> first | rfl | (show subTy _ _ = _; decide)
def isScr : D → Bool
  | .scr _ => true | _ => false
theorem isCK_okD {d : D} {S : Sg} (h : okD d = true) : isCK 0 (.p d) S = .ok (.p (.bl (isScr d))) S := by
  cases d <;> first | (cases h; done) | rfl
end Dd
namespace Lib
open PySem PySem.Spec PyProof.Rows L2 Dd
/-- is a value an integer of a range -/
def wholeD (d : D) (a b : Int) : Bool := match d with
  | .int i => decide (a ≤ i ∧ i ≤ b)
  | _ => false
theorem is_int_d {d : D} (h : okD d = true) (st : Store) : s_is_int [.p d] st = .ok (.val (.bl (match d with | .int _ => true | _ => false))) st := by
  unfold s_is_int b_is_int
  cases d <;> first | (cases h; done) | simp! [isK_okD h, isaD_int, isaD_bool]
theorem is_whole_d {d : D} (h : okD d = true) (a b : Int) (st : Store) : s_is_whole [.p d, .p (.int a), .p (.int b)] st = .ok (.val (.bl (wholeD d a b))) st := by
  cases d with
  | int i => exact is_whole_i i a b st
  | _ => first | (cases h; done) | (unfold s_is_whole b_is_whole; simp! [is_int_d h, wholeD])
theorem is_shade_d {ls : List (List Int)} (h50 : ls.length ≤ 50) {d : D} (h : okD d = true) (st : Store) : s_is_shade [.p (.scr (lvD ls)), .p d] st = .ok (.val (.bl (wholeD d 0 (4 ^ ls.length)))) st := by
  have hl : (lvD ls).length = ls.length := List.length_map ..
  unfold s_is_shade b_is_shade
  simp! [hl, opMul_i (two_len h50), opShl_i (cshl1 (j := 2 * (ls.length : Int)) (by omega) (by omega)), is_whole_d h, shl_four]
/-- is a value a window -/
def wndD (d : D) : Bool := match d with
  | .tup [a, b, c, e] => wholeD a (-(1000000000000000000000000000000 : Int)) (1000000000000000000000000000000 : Int) && wholeD b (-(1000000000000000000000000000000 : Int)) (1000000000000000000000000000000 : Int) && wholeD c 1 (1000000000000000000000000000000 : Int) && wholeD e 1 (1000000000000000000000000000000 : Int)
  | _ => false
def okT (d : D) : Bool := match d with | .tup l => l.all okD | _ => true
theorem is_window_d {d : D} (h : okD d = true) (ht : okT d = true) (st : Store) : s_is_window [.p d] st = .ok (.val (.bl (wndD d))) st := by
  cases d with
  | tup l =>
    unfold s_is_window b_is_window
    by_cases hl : l.length = 4
    · match l, hl, ht with
      | [a, b, c, e], _, ht =>
        have ht : ([a, b, c, e]).all okD = true := ht
        simp only [List.all_cons, List.all_nil, Bool.and_true, Bool.and_eq_true] at ht
        obtain ⟨h1, h2, h3, h4⟩ := ht
        cases e1 : wholeD a (-(1000000000000000000000000000000 : Int)) (1000000000000000000000000000000 : Int) <;> cases e2 : wholeD b (-(1000000000000000000000000000000 : Int)) (1000000000000000000000000000000 : Int) <;> cases e3 : wholeD c 1 (1000000000000000000000000000000 : Int) <;> cases e4 : wholeD e 1 (1000000000000000000000000000000 : Int) <;> simp! [isK_okD h, isaD_tuple, is_whole_d h1, is_whole_d h2, is_whole_d h3, is_whole_d h4, e1, e2, e3, e4, wndD, Bool.and_true, Bool.and_false, Bool.true_and, Bool.false_and]
    · have n4 : decide (((l.length : Nat) : Int) = 4) = false := by simp; omega
      simp! [isK_okD h, isaD_tuple]
      have w : wndD (.tup l) = false := by
        unfold wndD
        match l, hl with
        | [], _ => rfl
        | [_], _ => rfl
        | [_, _], _ => rfl
        | [_, _, _], _ => rfl
        | [a, b, c, e], hl => exact absurd rfl hl
        | _ :: _ :: _ :: _ :: _ :: _, _ => rfl
      have n5 : ¬ ((l.length : Nat) : Int) = 4 := by omega
      simp! [w, n4, if_neg n5]
  | _ => first | (cases h; done) | (unfold s_is_window b_is_window; simp! [isK_okD h, isaD_tuple, wndD])
theorem require_window_x {d : D} (h : okD d = true) (ht : okT d = true) (st : Store) : s_require_window [.p d] st = if wndD d = true then .ok (.val .non) st else .exc ⟨110, .non⟩ st := by
  unfold s_require_window b_require_window
  simp! [is_window_d h ht, sRaise_ap]
  cases wndD d <;> simp! [sRaise_ap, finish_exc]
end Lib

set_option Elab.async false
set_option linter.all false
set_option maxRecDepth 100000
namespace Lib
open PySem PySem.Spec PyProof.Rows L2 Dd
theorem band1 (i : Int) : Builtin.bitAnd i 1 = i % 2 := PySem.W.kbt_mask i 1
theorem band3 (i : Int) : Builtin.bitAnd i 3 = i % 4 := PySem.W.kbt_mask i 2
/-- the cells below a shade: left of the digit at each level -/
def pl (c : Nat) (x y : Int) (s : Nat) : Int × Int := (x + ((c : Int) % 2) * 2 ^ s, y + ((c : Int) / 2) * 2 ^ s)
def below (g x y : Int) (s : Nat) : Nat → List Int → List (Int × Int × Nat)
  | _, [] => []
  | c, n :: r => if n < g then ((pl c x y s).1, (pl c x y s).2, s + 1) :: below g x y s (c + 1) r else below g x y s (c + 1) r
def furth (g x y : Int) (s : Nat) : Nat → List Int → Option (Int × Int) → Option (Int × Int)
  | _, [], o => o
  | c, n :: r, o => furth g x y s (c + 1) r (if n = g then some (pl c x y s) else o)
def cells (k : Int) : List (List Int) → Int → Int → Nat → List (Int × Int × Nat)
  | [], _, _, _ => []
  | lv :: r, x, y, s => below (k / 4 ^ r.length % 4) x y s 0 lv ++ match furth (k / 4 ^ r.length % 4) x y s 0 lv none with
    | some p => cells k r p.1 p.2 (s + 1)
    | none => []
theorem shr_four (k : Int) (n : Nat) : k / 2 ^ (2 * (n : Int)).toNat = k / 4 ^ n := by
  rw [show (2 * (n : Int)).toNat = 2 * n by omega, Int.pow_mul]; rfl
def cellsOf (k : Int) (ls : List (List Int)) : List (Int × Int × Nat) := if k = 4 ^ ls.length then [(0, 0, 0)] else cells k ls 0 0 0
/-- how many places of a window a cell holds -/
def pwi (l t w h : Int) (c : Int × Int × Nat) : Int := resi l w c.1 c.2.2 * resi t h c.2.1 c.2.2
end Lib

set_option Elab.async false
set_option linter.all false
set_option maxRecDepth 100000
set_option exponentiation.threshold 2000
namespace Lib
open PySem PySem.Spec PyProof.Rows L2 Dd
theorem pow_bd {s n : Nat} (h : s ≤ n) : (2 : Int) ^ s ≤ 2 ^ n := by
  have : (2 : Nat) ^ s ≤ 2 ^ n := Nat.pow_le_pow_right (by decide) h
  exact_mod_cast this
def CellOk' (n : Nat) (c : Int × Int × Nat) : Prop := 0 ≤ c.1 ∧ c.1 < 2 ^ n ∧ 0 ≤ c.2.1 ∧ c.2.1 < 2 ^ n ∧ c.2.2 ≤ n
theorem CellOk'.mono {n m : Nat} {c : Int × Int × Nat} (h : CellOk' n c) (hm : n ≤ m) : CellOk' m c := by
  obtain ⟨h1, h2, h3, h4, h5⟩ := h
  have := pow_bd hm
  exact ⟨h1, by omega, h3, by omega, by omega⟩
/-- THE COUNT -/
def cnt (ls : List (List Int)) (k l t w h : Int) : Int := ((cellsOf k ls).map (pwi l t w h)).sum
end Lib


set_option Elab.async false
set_option linter.all false
set_option maxRecDepth 100000
set_option exponentiation.threshold 2000
namespace Lib
open PySem PySem.Spec PyProof.Rows L2 Dd
/-- the bag of a script's cell: at n, no more than C draws out of it -/
def Bag (st : Store) (n C : Nat) : Prop := ∃ a b c : Int, st[n]? = some (.mu (.lst [.int a, .int b, .int c])) ∧ 0 ≤ c ∧ c ≤ C
theorem Bag.lt {st : Store} {n C : Nat} (h : Bag st n C) : n < st.length := by obtain ⟨a, b, c, e, _⟩ := h; exact (List.getElem?_eq_some_iff.mp e).1
theorem Bag.mono {st : Store} {n C C' : Nat} (h : Bag st n C) (k : C ≤ C') : Bag st n C' := by obtain ⟨a, b, c, e, k1, k2⟩ := h; exact ⟨a, b, c, e, k1, by omega⟩
theorem bag_i (i : Int) (st : Store) : s_z_law_bag [.p (.int i)] st = .ok (.new (.lst [.int (max 0 (i - 1000000000000000000)), .int i, .int 0])) st := by
  unfold s_z_law_bag b_z_law_bag
  simp! [opPow_i (i := 10) (j := 18) (by decide)]
  rw [finishR_mu (o := .lst [.int (max 0 (i - 1000000000000000000)), .int i, .int 0]) get_app0 (Nat.le_refl _), take_app]
theorem pick_ok {st : Store} {n C : Nat} {m : Int} (hb : Bag st n C) (hC : C ≤ 1000000) (h0 : 0 < m) (h1 : m < 2 ^ 200) :
    ∃ v cell, s_z_law_pick [.r n, .p (.int m)] st = .ok (.val (.int v)) (st.set n cell) ∧ 0 ≤ v ∧ v < m ∧ Bag (st.set n cell) n (C + 1) := by
  obtain ⟨a, b, c, e, c0, c1⟩ := hb
  have hn := (List.getElem?_eq_some_iff.mp e).1
  have hs : ∀ x : Cell, (st.set n x)[n]? = some x := fun x => List.getElem?_set_self hn
  have dm : CDivW a m := cdivw h0 (Int.lt_of_lt_of_le h1 (by decide))
  by_cases ha : 0 < a
  · refine ⟨a % m, .mu (.lst [.int (a / m), .int b, .int (c + 1)]), ?_, Int.emod_nonneg _ (by omega), Int.emod_lt_of_pos _ h0, ⟨a / m, b, c + 1, hs _, by omega, by omega⟩⟩
    unfold s_z_law_pick b_z_law_pick
    simp! [e, hs, ha, opMod_i h0, opDiv_i dm, List.set_set]
  · have f1 : 0 < (2147483629 : Int) := by decide
    have x0 := Int.emod_nonneg b (b := 2147483629) (by decide)
    have x1 := Int.emod_lt_of_pos b f1
    have m1 : CMulW (b % 2147483629) 48271 := cmulw (Bt.of (n := 40) (by omega)) (Bt.of (n := 40) (by omega))
    have m2 : CMulW (c + 1) 69621 := cmulw (Bt.of (n := 40) (by omega)) (Bt.of (n := 40) (by omega))
    generalize hf : (b % 2147483629 * 48271 + (c + 1) * 69621 + 12345) % 2147483647 = f
    have f0 : 0 ≤ f := hf ▸ Int.emod_nonneg _ (by decide)
    have f2 : f < 2147483647 := hf ▸ Int.emod_lt_of_pos _ (by decide)
    have m3 : CMulW f f := cmulw (Bt.of (n := 40) (by omega)) (Bt.of (n := 40) (by omega))
    have m4 : CMulW (c + 1) 40692 := cmulw (Bt.of (n := 40) (by omega)) (Bt.of (n := 40) (by omega))
    generalize hg : (f * f + (c + 1) * 40692) % 2147483587 = g
    have g0 : 0 ≤ g := hg ▸ Int.emod_nonneg _ (by decide)
    have g1 : g < 2147483587 := hg ▸ Int.emod_lt_of_pos _ (by decide)
    have m5 : CMulW f 2147483587 := cmulw (Bt.of (n := 40) (by omega)) (Bt.of (n := 40) (by omega))
    generalize hd : (f * 2147483587 + g) / 32 = d
    have d0 : 0 ≤ d ∧ d < 2 ^ 60 := by omega
    have m6 : CPowW d 8 := cpoww (Bt.of (n := 60) (by omega)) (by decide) (by decide)
    refine ⟨(if 1000000000000000 < m then d ^ 8 + g else d) % m, .mu (.lst [.int a, .int b, .int (c + 1)]), ?_, Int.emod_nonneg _ (by omega), Int.emod_lt_of_pos _ h0, ⟨a, b, c + 1, hs _, by omega, by omega⟩⟩
    unfold s_z_law_pick b_z_law_pick
    simp! [e, hs, ha, opMod_i h0, opMul_i m1, opMul_i m2, opMul_i m3, opMul_i m4, opMul_i m5, hf, hg, hd, opDiv_i (cdivw (i := f * 2147483587 + g) (j := 32) (by decide) (by decide)), opPow_i (i := 10) (j := 15) (by decide), opPow_i m6]
    split <;> rfl
/-- a bag's cell -/
def BagC (c : Cell) (C : Nat) : Prop := ∃ a b k : Int, c = .mu (.lst [.int a, .int b, .int k]) ∧ 0 ≤ k ∧ k ≤ C
/-- F draws from the bag at n and answers a value of P -/
def Dr (B : Cell → Nat → Prop) (F : Fn) (xs : Nat → List R) (P : D → Prop) (k : Nat) : Prop := ∀ (st : Store) (n : Nat) (c : Cell) (C : Nat), n < st.length → B c C → C + k ≤ 1000000 → ∃ v c', F (xs n) (st.set n c) = .ok (.val v) (st.set n c') ∧ P v ∧ B c' (C + k)
def DrL (B : Cell → Nat → Prop) (F : Fn) (xs : Nat → List R) (P : List D → Prop) (k : Nat) : Prop := ∀ (st : Store) (n : Nat) (c : Cell) (C : Nat), n < st.length → B c C → C + k ≤ 1000000 → ∃ v c', F (xs n) (st.set n c) = .ok (.new (.lst v)) (st.set n c') ∧ P v ∧ B c' (C + k)
abbrev Draws := Dr BagC
abbrev DrawsL := DrL BagC
theorem Dr.a {BagC : Cell → Nat → Prop} {F : Fn} {xs : Nat → List R} {P : D → Prop} {k : Nat} (h : Dr BagC F xs P k) (l : Store) {st : Store} {n : Nat} {c : Cell} {C : Nat} (hn : n < st.length) (hb : BagC c C) (hC : C + k ≤ 1000000) :
    ∃ v c', F (xs n) (st.set n c ++ l) = .ok (.val v) (st.set n c' ++ l) ∧ P v ∧ BagC c' (C + k) := by
  obtain ⟨v, c', e, p, b⟩ := h (st ++ l) n c C (by rw [List.length_append]; omega) hb hC
  rw [set_old hn, set_old hn] at e
  exact ⟨v, c', e, p, b⟩
theorem DrL.a {BagC : Cell → Nat → Prop} {F : Fn} {xs : Nat → List R} {P : List D → Prop} {k : Nat} (h : DrL BagC F xs P k) (l : Store) {st : Store} {n : Nat} {c : Cell} {C : Nat} (hn : n < st.length) (hb : BagC c C) (hC : C + k ≤ 1000000) :
    ∃ v c', F (xs n) (st.set n c ++ l) = .ok (.new (.lst v)) (st.set n c' ++ l) ∧ P v ∧ BagC c' (C + k) := by
  obtain ⟨v, c', e, p, b⟩ := h (st ++ l) n c C (by rw [List.length_append]; omega) hb hC
  rw [set_old hn, set_old hn] at e
  exact ⟨v, c', e, p, b⟩
theorem Dr.mono {B : Cell → Nat → Prop} {F : Fn} {xs : Nat → List R} {P Q : D → Prop} {k k' : Nat} (h : Dr B F xs P k) (hB : ∀ c n m, n ≤ m → B c n → B c m) (hk : k ≤ k') (hP : ∀ v, P v → Q v) : Dr B F xs Q k' := by
  intro st n c C hn hb hC
  obtain ⟨v, c', e, p, b⟩ := h st n c C hn hb (by omega)
  exact ⟨v, c', e, hP v p, hB _ _ _ (by omega) b⟩
/-- a draw, behind it -/
theorem wp_draw {B : Cell → Nat → Prop} {F : Fn} {xs : Nat → List R} {P : D → Prop} {k : Nat} (h : Dr B F xs P k) {sl : List (Option R)} {st l : Store} {n : Nat} {c : Cell} {C : Nat} {Q : R → Sg → Prop} (hn : n < st.length) (hb : B c C) (hC : C + k ≤ 1000000)
    (q : ∀ v c', P v → B c' (C + k) → Q (.p v) ⟨sl, st.set n c' ++ l⟩) : Wp (applyF ⟨sl, st.set n c ++ l⟩ (F (xs n) (st.set n c ++ l))) Q := by
  obtain ⟨v, c', e, p, b⟩ := h.a l hn hb hC
  rw [e]; exact ⟨_, _, rfl, q v c' p b⟩
theorem wp_draw0 {B : Cell → Nat → Prop} {F : Fn} {xs : Nat → List R} {P : D → Prop} {k : Nat} (h : Dr B F xs P k) {sl : List (Option R)} {st : Store} {n : Nat} {c : Cell} {C : Nat} {Q : R → Sg → Prop} (hn : n < st.length) (hb : B c C) (hC : C + k ≤ 1000000)
    (q : ∀ v c', P v → B c' (C + k) → Q (.p v) ⟨sl, st.set n c'⟩) : Wp (applyF ⟨sl, st.set n c⟩ (F (xs n) (st.set n c))) Q := by
  obtain ⟨v, c', e, p, b⟩ := h st n c C hn hb hC
  rw [e]; exact ⟨_, _, rfl, q v c' p b⟩
theorem wp_drawL {B : Cell → Nat → Prop} {F : Fn} {xs : Nat → List R} {P : List D → Prop} {k : Nat} (h : DrL B F xs P k) {sl : List (Option R)} {st l : Store} {n : Nat} {c : Cell} {C : Nat} {Q : R → Sg → Prop} (hn : n < st.length) (hb : B c C) (hC : C + k ≤ 1000000)
    (q : ∀ v c', P v → B c' (C + k) → Q (.r (st.length + l.length)) ⟨sl, st.set n c' ++ (l ++ [.mu (.lst v)])⟩) : Wp (applyF ⟨sl, st.set n c ++ l⟩ (F (xs n) (st.set n c ++ l))) Q := by
  obtain ⟨v, c', e, p, b⟩ := h.a l hn hb hC
  rw [e]
  refine ⟨_, _, rfl, ?_⟩
  have := q v c' p b
  rw [show (st.set n c' ++ l).length = st.length + l.length by simp, List.append_assoc]
  exact this
theorem wp_drawL0 {B : Cell → Nat → Prop} {F : Fn} {xs : Nat → List R} {P : List D → Prop} {k : Nat} (h : DrL B F xs P k) {sl : List (Option R)} {st : Store} {n : Nat} {c : Cell} {C : Nat} {Q : R → Sg → Prop} (hn : n < st.length) (hb : B c C) (hC : C + k ≤ 1000000)
    (q : ∀ v c', P v → B c' (C + k) → Q (.r st.length) ⟨sl, st.set n c' ++ [.mu (.lst v)]⟩) : Wp (applyF ⟨sl, st.set n c⟩ (F (xs n) (st.set n c))) Q := by
  obtain ⟨v, c', e, p, b⟩ := h st n c C hn hb hC
  rw [e]
  refine ⟨_, _, rfl, ?_⟩
  have := q v c' p b
  rw [show (st.set n c').length = st.length by simp]
  exact this
theorem dr_of {B : Cell → Nat → Prop} {F : Fn} {xs : Nat → List R} {P : D → Prop} {k : Nat} (h : ∀ (st : Store) (n : Nat) (c : Cell) (C : Nat), n < st.length → B c C → C + k ≤ 1000000 → WpF (F (xs n) (st.set n c)) fun a st' => ∃ v c', a = .val v ∧ st' = st.set n c' ∧ P v ∧ B c' (C + k)) : Dr B F xs P k := by
  intro st n c C hn hb hC
  obtain ⟨_, _, e, v, c', rfl, rfl, p, b⟩ := h st n c C hn hb hC
  exact ⟨v, c', e, p, b⟩
theorem drL_of {B : Cell → Nat → Prop} {F : Fn} {xs : Nat → List R} {P : List D → Prop} {k : Nat} (h : ∀ (st : Store) (n : Nat) (c : Cell) (C : Nat), n < st.length → B c C → C + k ≤ 1000000 → WpF (F (xs n) (st.set n c)) fun a st' => ∃ v c', a = .new (.lst v) ∧ st' = st.set n c' ∧ P v ∧ B c' (C + k)) : DrL B F xs P k := by
  intro st n c C hn hb hC
  obtain ⟨_, _, e, v, c', rfl, rfl, p, b⟩ := h st n c C hn hb hC
  exact ⟨v, c', e, p, b⟩
def InR (lo hi : Int) : D → Prop := fun v => ∃ z, v = .int z ∧ lo ≤ z ∧ z < hi
theorem pick_d {m : Int} (h0 : 0 < m) (h1 : m < 2 ^ 200) : Draws s_z_law_pick (fun n => [.r n, .p (.int m)]) (InR 0 m) 1 := by
  intro st n c C hn hb hC
  obtain ⟨a, b, k, rfl, k0, k1⟩ := hb
  obtain ⟨v, cell, e, v0, v1, a', b', k', e', q0, q1⟩ := pick_ok (st := st.set n (.mu (.lst [.int a, .int b, .int k]))) (n := n) (C := C) (m := m) ⟨a, b, k, List.getElem?_set_self hn, k0, k1⟩ (by omega) h0 h1
  rw [List.set_set] at e e'
  rw [List.getElem?_set_self hn] at e'
  cases e'
  exact ⟨_, _, e, ⟨v, rfl, v0, v1⟩, a', b', k', rfl, q0, q1⟩
theorem four_bd {d : Nat} (h : d ≤ 50) : 1 ≤ (4 : Int) ^ d ∧ (4 : Int) ^ d ≤ 2 ^ 100 := by
  refine ⟨Int.pow_pos (by decide), ?_⟩
  have : (4 : Nat) ^ d ≤ 4 ^ 50 := Nat.pow_le_pow_right (by decide) h
  exact_mod_cast this
theorem map_erase {l : List Int} {k : Nat} : (l.map D.int).eraseIdx k = (l.eraseIdx k).map D.int := by
  induction l generalizing k with
  | nil => rfl
  | cons a l ih => cases k with
    | zero => rfl
    | succ k => simp only [List.map_cons, List.eraseIdx_cons_succ, ih]
theorem perm_getE : ∀ {l : List Int} {k : Nat} (h : k < l.length), (l[k] :: l.eraseIdx k).Perm l
  | [], k, h => absurd h (by simp)
  | a :: l, 0, h => List.Perm.refl _
  | a :: l, k + 1, h => by
    have h' : k < l.length := by simpa using h
    show (l[k] :: a :: l.eraseIdx k).Perm (a :: l)
    exact (List.Perm.swap _ _ _).trans ((perm_getE h').cons a)
end Lib

set_option Elab.async false
set_option linter.all false
set_option maxRecDepth 100000
namespace Lib
open PySem PySem.Spec PyProof.Rows L2 Dd
def fs (g x y : Int) (s : Nat) (F : Int × Int → Int) : Nat → List Int → Int
  | _, [] => 0
  | c, n :: r => (if n = g then F (pl c x y s) else 0) + fs g x y s F (c + 1) r
def bs (g x y : Int) (s : Nat) (F : Int × Int → Int) : Nat → List Int → Int
  | _, [] => 0
  | c, n :: r => (if n < g then F (pl c x y s) else 0) + bs g x y s F (c + 1) r
theorem four_pos (n : Nat) : (0 : Int) < 4 ^ n := Int.pow_pos (by decide)
/-! one bit further -/
def LO (f r : Int) (s : Nat) : Int := (f - 1 - r) / 2 ^ s + 1
theorem two_pos (s : Nat) : (0 : Int) < 2 ^ s := Int.pow_pos (by decide)
end Lib

set_option Elab.async false
set_option linter.all false
set_option maxRecDepth 100000
set_option exponentiation.threshold 2000
namespace Lib
open PySem PySem.Spec PyProof.Rows L2 Dd
def lo (f b : Int) : Int := 0 - (b - f) / 2
def ct (f m b : Int) : Int := (f + m - 1 - b) / 2 - lo f b + 1
theorem slE_ap (f : M R) (l h : M (Option Int)) (S : Sg) : slE f l h S = (f S).bnd fun x S => (l S).bnd fun lo S => (h S).bnd fun hi S => opSl x lo hi S := by unfold slE; simp only [bind_bnd]; rfl
theorem opt0_ap (S : Sg) : opt0 S = .ok none S := Eq.trans rfl rfl
theorem opt1_ci (i : Int) (S : Sg) : opt1 (ci i) S = .ok (some i) S := Eq.trans rfl rfl
def lvP (ls : List (List Int)) : List PyData := ls.map fun l => .tuple (l.map .int)
theorem toPyL_lv : ∀ ls : List (List Int), toPyL (lvD ls) = some (lvP ls)
  | [] => rfl
  | l :: ls => by
    show toPyL (D.tup (l.map D.int) :: lvD ls) = _
    unfold toPyL
    rw [toPyL_lv ls]
    simp only [toPy, toPyL_ints]
    rfl
theorem canLay_lv : ∀ ls : List (List Int), PyData.canLayAll0 (lvP ls) = true
  | [] => rfl
  | l :: ls => by
    show (PyData.canLayAll0 (l.map PyData.int) && PyData.canLayAll0 (lvP ls)) = true
    rw [canLay_ints, canLay_lv ls]; rfl
theorem depth_lv : ∀ ls : List (List Int), PyData.depthAll (lvP ls) ≤ 1
  | [] => Nat.zero_le _
  | l :: ls => by
    show max (PyData.depthAll (l.map PyData.int) + 1) (PyData.depthAll (lvP ls)) ≤ 1
    rw [depth_ints]
    have := depth_lv ls
    omega
theorem shaped_lv (ls : List (List Int)) : SeqAt.shaped (.list (lvP ls)) = true := by
  show (PyData.canLayAll0 (lvP ls) && decide (PyData.depthAll (lvP ls) + 1 ≤ 64)) = true
  rw [canLay_lv, decide_eq_true (by have := depth_lv ls; omega)]; rfl
end Lib

set_option Elab.async false
set_option linter.all false
set_option maxRecDepth 100000
namespace Lib
open PySem PySem.Spec PyProof.Rows L2 Dd
/-! the count of parts, of moved windows, of whole periods -/
/-- how many places of a period a cell holds -/
def par (n : Nat) (c : Int × Int × Nat) : Int := 2 ^ (n - c.2.2) * 2 ^ (n - c.2.2)
end Lib

set_option Elab.async false
set_option linter.all false
set_option maxRecDepth 100000
set_option exponentiation.threshold 2000
namespace Lib
open PySem PySem.Spec PyProof.Rows L2 Dd
theorem eqv_str (a b : Str) : PyData.eqv (.str a) (.str b) = decide (a = b) := by
  first | rfl | (show (a == b) = _; exact Bool.eq_iff_iff.mpr (by simp))
theorem opRepr_i {i : Int} {S : Sg} (h : Bt 1900 i) : opRepr (.p (.int i)) S = .ok (.p (.str (Str.ofString (toString i)))) S := by
  have := h.log2
  unfold opRepr dataR
  simp only [toPy]
  rw [if_pos (by omega)]
theorem shl_two (n : Nat) : (1 : Int) * 2 ^ ((n : Int)).toNat = 2 ^ n := by rw [Int.one_mul, Int.toNat_natCast]
theorem opSl_scp {l : List D} {lo hi : Option Int} {S : Sg} (h : l.length ≤ 1000) : opSl (.p (.scp l)) lo hi S = .ok (.r S.st.length) ⟨S.sl, S.st ++ [.mu (.lst (Dd.cutD l lo hi))]⟩ := if_pos (Nat.le_trans h (by rw [sizeLine_eq]; decide))
theorem cutD_to {α : Type} {l : List α} {n : Nat} : Dd.cutD l none (some (n : Int)) = l.take n := by
  unfold Dd.cutD HT.sIx
  simp only [List.drop_zero, Nat.sub_zero]
  rw [if_neg (show ¬ ((n : Int) < 0) by omega), Int.toNat_natCast]
  by_cases h : n ≤ l.length
  · rw [Nat.min_eq_left h]
  · rw [Nat.min_eq_right (show l.length ≤ n by omega), List.take_of_length_le (show l.length ≤ n by omega), List.take_of_length_le (show l.length ≤ l.length by omega)]
def catK : Option (List D) → Option (List D) → Sg → Res R
  | some a, some b, S => if a.length + b.length ≤ sizeLine then .ok (.r S.st.length) ⟨S.sl, S.st ++ [.mu (.lst (a ++ b))]⟩ else .bad
  | _, _, _ => .bad
theorem opAdd_rr {n m : Nat} {S : Sg} : opAdd (.r n) (.r m) S = catK (getLK S.st[n]?) (getLK S.st[m]?) S := by
  unfold opAdd
  simp only [asI, getM_r]
  cases getLK S.st[n]? <;> cases getLK S.st[m]? <;> rfl
theorem catK_ap {a b : List D} {S : Sg} (h : a.length + b.length ≤ 1000) : catK (some a) (some b) S = .ok (.r S.st.length) ⟨S.sl, S.st ++ [.mu (.lst (a ++ b))]⟩ := if_pos (Nat.le_trans h (by rw [sizeLine_eq]; decide))
def mulK (j : Int) (S : Sg) : Option (List D) → Res R
  | some l => if -(2 ^ 63) ≤ j ∧ j < 2 ^ 63 ∧ l.length * j.toNat ≤ sizeLine then .ok (.r S.st.length) ⟨S.sl, S.st ++ [.mu (.lst (List.replicate j.toNat l).flatten)]⟩ else .bad
  | none => .bad
theorem opMul_r {n : Nat} {j : Int} {S : Sg} : opMul (.r n) (.p (.int j)) S = mulK j S (getLK S.st[n]?) := by
  unfold opMul
  simp only [asI, getM_r]
  cases getLK S.st[n]? <;> rfl
end Lib

set_option Elab.async false
set_option linter.all false
set_option maxRecDepth 100000
set_option exponentiation.threshold 2000
namespace Lib
open PySem PySem.Spec PyProof.Rows L2 Dd
/-- the digit of a level at a place -/
def dg (lv : List Int) (x y : Int) : Int := lv.getD (x % 2 + 2 * (y % 2)).toNat 0
def thr : List (List Int) → Int → Int → Int
  | [], _, _ => 0
  | lv :: r, x, y => dg lv x y * 4 ^ r.length + thr r (x / 2) (y / 2)
def Lvs (ls : List (List Int)) : Prop := ∀ l ∈ ls, l.Perm [0, 1, 2, 3]
theorem Lvs.tail {l : List Int} {ls : List (List Int)} (h : Lvs (l :: ls)) : Lvs ls := fun z hz => h z (List.mem_cons_of_mem _ hz)
theorem cellix (x y : Int) : 0 ≤ x % 2 + 2 * (y % 2) ∧ x % 2 + 2 * (y % 2) < 4 := by omega
theorem dg_get {lv : List Int} (h : lv.Perm [0, 1, 2, 3]) (x y : Int) : lv[(x % 2 + 2 * (y % 2)).toNat]? = some (dg lv x y) := by
  have := cellix x y
  have hl : lv.length = 4 := h.length_eq
  unfold dg
  rw [List.getD_eq_getElem?_getD, List.getElem?_eq_getElem (by omega)]
  rfl
theorem dg_bd {lv : List Int} (h : lv.Perm [0, 1, 2, 3]) (x y : Int) : 0 ≤ dg lv x y ∧ dg lv x y < 4 := by
  have hm := h.mem_iff.mp (List.mem_of_getElem? (dg_get h x y))
  simp only [List.mem_cons, List.not_mem_nil, or_false] at hm
  omega
theorem thr_bd : ∀ {ls : List (List Int)} (x y : Int), Lvs ls → 0 ≤ thr ls x y ∧ thr ls x y < 4 ^ ls.length
  | [], x, y, h => by simp [thr]
  | lv :: r, x, y, h => by
    obtain ⟨a, b⟩ := thr_bd (x / 2) (y / 2) h.tail
    obtain ⟨c, d⟩ := dg_bd (h lv List.mem_cons_self) x y
    unfold thr
    rw [List.length_cons, Int.pow_succ]
    have p := four_pos r.length
    have e : dg lv x y = 0 ∨ dg lv x y = 1 ∨ dg lv x y = 2 ∨ dg lv x y = 3 := by omega
    rcases e with e | e | e | e <;> rw [e] <;> omega
theorem lvD_len (ls : List (List Int)) : (lvD ls).length = ls.length := List.length_map ..
theorem fin_eq {r : FRes} {a : FR} {st : Store} (h : WpF r fun a' st' => a' = a ∧ st' = st) : r = .ok a st := by
  obtain ⟨_, _, e, rfl, rfl⟩ := h
  exact e
theorem Lvs.take {ls : List (List Int)} (h : Lvs ls) (i : Nat) : Lvs (ls.take i) := fun z hz => h z (List.mem_of_mem_take hz)
end Lib

set_option Elab.async false
set_option linter.all false
set_option maxRecDepth 100000
set_option exponentiation.threshold 2000
namespace Lib
open PySem PySem.Spec PyProof.Rows L2 Dd
theorem intsFrom_at {a : Int} {n j : Nat} {d : D} (h : (Dd.intsFrom a n)[j]? = some d) : d = .int (a + (j : Int)) ∧ j < n := intsFrom_get h
theorem BagC.mono {c : Cell} {C C' : Nat} (h : BagC c C) (k : C ≤ C') : BagC c C' := by
  obtain ⟨a, b, i, e, h0, h1⟩ := h
  exact ⟨a, b, i, e, h0, by omega⟩
/-- a draw, the bag the last but l -/
theorem wp_drawE {B : Cell → Nat → Prop} {F : Fn} {xs : Nat → List R} {P : D → Prop} {k : Nat} (h : Dr B F xs P k) {sl : List (Option R)} {X l : Store} {c : Cell} {C : Nat} {Q : R → Sg → Prop} (hb : B c C) (hC : C + k ≤ 1000000)
    (q : ∀ v c', P v → B c' (C + k) → Q (.p v) ⟨sl, X ++ (c' :: l)⟩) : Wp (applyF ⟨sl, X ++ (c :: l)⟩ (F (xs X.length) (X ++ (c :: l)))) Q := by
  have e : ∀ c', X ++ (c' :: l) = (X ++ [c]).set X.length c' ++ l := fun c' => by rw [set_app0]; simp
  rw [e c]
  refine wp_draw h (by simp) hb hC fun v c' p b => ?_
  rw [← e c']
  exact q v c' p b
theorem cutD_6 {ns : List Int} : Dd.cutD (ns.map D.int) none (some 6) = (ns.take 6).map D.int := by rw [List.map_take]; exact cutD_to (n := 6)
/-- script[:6] + [0] -/
theorem cells_len6 {ns : List Int} : ((ns.take 6).map D.int).length + [D.int 0].length ≤ 1000 := by
  rw [List.length_map, List.length_take, List.length_singleton]; omega
theorem cells_map {ns : List Int} : (ns.take 6).map D.int ++ [D.int 0] = (ns.take 6 ++ [0]).map D.int := by rw [List.map_append]; rfl
theorem cell_at {ns : List Int} {j : Nat} {d : D} (h : ((ns.take 6).map D.int ++ [D.int 0])[j]? = some d) : ∃ i : Int, d = .int i := by
  rw [cells_map, List.getElem?_map] at h
  cases q : (ns.take 6 ++ [0])[j]? with
  | none => rw [q] at h; cases h
  | some i => rw [q] at h; cases h; exact ⟨i, rfl⟩
theorem bag0 (i : Int) : BagC (.mu (.lst [.int (max 0 (i - 1000000000000000000)), .int i, .int 0])) 0 := ⟨_, _, _, rfl, by decide, by decide⟩
/-- the well-known screen of two levels -/
def four : List (List Int) := [[0, 2, 3, 1], [0, 2, 3, 1]]
theorem sPur_ap (i : Nat) (S : Sg) : sPur i S = (getK S.sl[i]? S).bnd fun x S => (pure1 x S).bnd fun d S => .ok .nx ⟨S.sl.set i (some (.p d)), S.st⟩ := by
  unfold sPur
  rw [bind_bnd, vr_ap]
  refine bnd_ext fun x S1 => ?_
  rw [bind_bnd]
  rfl
end Lib

set_option Elab.async false
set_option linter.all false
set_option maxRecDepth 100000
set_option exponentiation.threshold 2000
namespace Lib
open PySem PySem.Spec PyProof.Rows L2 Dd
/-- where a digit stands in a level -/
def ci4 (lv : List Int) (d : Int) : Nat := (Dd.idxOf lv d).getD 0
section
variable {l t w h : Int}
end
end Lib

set_option Elab.async false
set_option linter.all false
set_option maxRecDepth 100000
set_option exponentiation.threshold 2000
namespace Lib
open PySem PySem.Spec PyProof.Rows L2 Dd
/-- the threshold with a number -/
def IsNth (ls : List (List Int)) (l t w h n T : Int) : Prop := 0 ≤ T ∧ T < 4 ^ ls.length ∧ cnt ls T l t w h ≤ n ∧ n < cnt ls (T + 1) l t w h
open Classical in
noncomputable def nthT (ls : List (List Int)) (l t w h n : Int) : Int := if q : ∃ T, IsNth ls l t w h n T then q.choose else 0
end Lib

set_option Elab.async false
set_option linter.all false
set_option maxRecDepth 100000
set_option exponentiation.threshold 2000
namespace Lib
open PySem PySem.Spec PyProof.Rows L2 Dd
theorem shades_i (ls : List (List Int)) (h : ls.length ≤ 50) (st : Store) : s_Screen_shades [.p (.scr (lvD ls))] st = .ok (.val (.int (4 ^ ls.length))) st := by
  unfold s_Screen_shades b_Screen_shades
  simp! [lvD_len, opMul_i (two_len h), opShl_i (cshl1 (j := 2 * (ls.length : Int)) (by omega) (by omega)), shl_four]
theorem shades_p (ls : List (List Int)) (h : ls.length ≤ 50) (S : Sg) : propK 0 s_Screen_shades (.p (.scr (lvD ls))) S = .ok (.p (.int (4 ^ ls.length))) S := propK_scr (shades_i ls h S.st)
theorem depth_i (ls : List (List Int)) (st : Store) : s_Screen_depth [.p (.scr (lvD ls))] st = .ok (.val (.int (ls.length : Nat))) st := by
  unfold s_Screen_depth b_Screen_depth
  simp! [lvD_len]
theorem depth_p (ls : List (List Int)) (S : Sg) : propK 0 s_Screen_depth (.p (.scr (lvD ls))) S = .ok (.p (.int (ls.length : Nat))) S := propK_scr (depth_i ls S.st)
theorem shr_four' (k : Int) (n : Nat) (S : Sg) : opShr (.p (.int k)) (.p (.int (2 * (n : Int)))) S = .ok (.p (.int (k / 4 ^ n))) S := by
  rw [opShr_i (by omega), shr_four]
/-- the place with a threshold, told by the digits -/
def plcD : List (List Int) → Int → Int → Int → Nat → Int × Int
  | [], _, x, y, _ => (x, y)
  | lv :: r, k, x, y, s => plcD r k (pl (ci4 lv (k / 4 ^ r.length % 4)) x y s).1 (pl (ci4 lv (k / 4 ^ r.length % 4)) x y s).2 (s + 1)
section
variable {ls : List (List Int)} {l t w h : Int}
/-- the least shade with so many dots -/
noncomputable def lst (ls : List (List Int)) (l t w h n : Int) : Int := if n = 0 then 0 else nthT ls l t w h (n - 1) + 1
end
end Lib

set_option Elab.async false
set_option linter.all false
set_option maxRecDepth 100000
set_option exponentiation.threshold 2000
namespace Lib
open PySem PySem.Spec PyProof.Rows L2 Dd
/-- whether the square at a place has a dot more -/
def full (ls : List (List Int)) (k : Int) (j : Nat) (x y : Int) : Prop := k % 4 ^ (ls.length - j) ≠ 0 ∧
  thr ls ((plcD (ls.take j) (k / 4 ^ (ls.length - j)) 0 0 0).1 + LO x (plcD (ls.take j) (k / 4 ^ (ls.length - j)) 0 0 0).1 j * 2 ^ j) ((plcD (ls.take j) (k / 4 ^ (ls.length - j)) 0 0 0).2 + LO y (plcD (ls.take j) (k / 4 ^ (ls.length - j)) 0 0 0).2 j * 2 ^ j) < k
instance (ls : List (List Int)) (k : Int) (j : Nat) (x y : Int) : Decidable (full ls k j x y) := inferInstanceAs (Decidable (_ ∧ _))
end Lib

set_option Elab.async false
set_option linter.all false
set_option maxRecDepth 100000
set_option exponentiation.threshold 2000
namespace Lib
open PySem PySem.Spec PyProof.Rows L2 Dd
/-- the other laws' bag -/
def ReelC (c : Cell) (C : Nat) : Prop := ∃ a b k : Int, c = .mu (.lst [.int a, .int b, .int k]) ∧ 0 ≤ b ∧ b < 2 ^ 150 ∧ 0 ≤ k ∧ k ≤ C
theorem ReelC.mono {c : Cell} {C C' : Nat} (h : ReelC c C) (k : C ≤ C') : ReelC c C' := by
  obtain ⟨a, b, i, e, h2, h3, h0, h1⟩ := h
  exact ⟨a, b, i, e, h2, h3, h0, by omega⟩
theorem opNeD_ints {k m : Nat} {S : Sg} {l : List Int} (hk : S.st[k]? = some (.mu (.lst (l.map .int)))) (hm : S.st[m]? = some (.mu (.lst []))) : opNeD (.r k) (.r m) S = .ok (.p (.bl (!decide (l = [])))) S := by
  rw [opNeD_of (d := .list (l.map .int)) (e := .list ([].map PyData.int)) (by rw [dataR_r, hk, dataK_ints]) (by rw [dataR_r, hm]; rfl) (shaped_li _) (shaped_li _)]
  show Res.ok (R.p (.bl (!PyData.eqvAll (l.map PyData.int) ([].map PyData.int)))) S = _
  rw [eqvAll_ints]
end Lib

set_option Elab.async false
set_option linter.all false
set_option maxRecDepth 100000
set_option exponentiation.threshold 2000
namespace Lib
open PySem PySem.Spec PyProof.Rows L2 Dd
def isNK : R → Sg → Res R := fun x S => match x with
  | .p .non => .ok (.p (.bl true)) S
  | _ => .ok (.p (.bl false)) S
theorem isN_ap (f : M R) (S : Sg) : isN f S = (f S).bnd isNK := by unfold isN; rw [bind_bnd]; rfl
section
variable {S : Sg}
theorem isNK_n : isNK (.p .non) S = .ok (.p (.bl true)) S := Eq.trans rfl rfl
end
section
variable {ls : List (List Int)} {l t w h : Int}
end
theorem mulK_rep {d : D} {k : Nat} {S : Sg} (h : k ≤ 1000) : mulK (k : Int) S (some [d]) = .ok (.r S.st.length) ⟨S.sl, S.st ++ [.mu (.lst (List.replicate k d))]⟩ := by
  unfold mulK
  simp only
  rw [if_pos ⟨by omega, by omega, Nat.le_trans (show [d].length * (k : Int).toNat ≤ 1000 by simp; omega) (by rw [sizeLine_eq]; decide)⟩, Int.toNat_natCast]
  congr
  induction k with
  | zero => rfl
  | succ k ih => rw [List.replicate_succ, List.replicate_succ, List.flatten_cons, ih (by omega)]; rfl
end Lib

set_option Elab.async false
set_option linter.all false
set_option maxRecDepth 100000
set_option exponentiation.threshold 2000
namespace Lib
open PySem PySem.Spec PyProof.Rows L2 Dd
section
variable {ls : List (List Int)} {k : Int} {j : Nat}
def opt1K : R → Sg → Res (Option Int) := fun x S => match asI x with
  | some i => .ok (some i) S
  | none => .bad
theorem opt1_ap (f : M R) (S : Sg) : opt1 f S = (f S).bnd opt1K := by unfold opt1; rw [bind_bnd]; rfl
theorem opt1K_i {i : Int} {S : Sg} : opt1K (.p (.int i)) S = .ok (some i) S := Eq.trans rfl rfl
end
/-! comprehensions with a test -/
def lcbK (own : List Nat) (f : M R) (b : Bool) (S : Sg) : Res (Option D) := if b = true then (f S).bnd fun x S => (pure1 x S).bnd fun y S => .ok (some y) (wipeS S own) else .ok none (wipeS S own)
theorem lcbK_t {own : List Nat} {f : M R} {S : Sg} : lcbK own f true S = (f S).bnd fun x S => (pure1 x S).bnd fun y S => .ok (some y) (wipeS S own) := Eq.trans rfl rfl
theorem lcbK_f {own : List Nat} {f : M R} {S : Sg} : lcbK own f false S = .ok none (wipeS S own) := Eq.trans rfl rfl
theorem lcB_body (own : List Nat) (tt : M Bool) (f : M R) (S : Sg) : (do
      let b ← tt
      if b = true then do
        let x ← f
        let y ← pure1 x
        fun S => .ok (some y) (wipeS S own)
      else fun S => .ok none (wipeS S own) : M (Option D)) S = (tt S).bnd (lcbK own f) := by
  rw [bind_bnd]
  refine bnd_ext fun b S1 => ?_
  cases b with
  | false => rfl
  | true =>
    show (f >>= fun x => pure1 x >>= fun y => fun S => .ok (some y) (wipeS S own)) S1 = _
    rw [bind_bnd]
    rfl
theorem lcBT_t {own ks : List Nat} {tt : M Bool} {f : M R} {ds : List D} {S : Sg} (h : ds.length = ks.length) : lcB own ks unpT tt f (.tup ds) S = (tt (setS S ks ds)).bnd (lcbK own f) := by
  show (if ds.length = ks.length then _ else _ : Res (Option D)) = _
  rw [if_pos h]
  exact lcB_body own tt f _
theorem lcBW_t {own ks : List Nat} {tt : M Bool} {f : M R} {ds : List D} {S : Sg} (h : ds.length = ks.length) : lcB own ks unpW tt f ds S = (tt (setS S ks ds)).bnd (lcbK own f) := by
  show (if ds.length = ks.length then _ else _ : Res (Option D)) = _
  rw [if_pos h]
  exact lcB_body own tt f _
theorem lcB1_t {own : List Nat} {k : Nat} {tt : M Bool} {f : M R} {x : D} {S : Sg} : lcB own [k] unp1 tt f x S = (tt ⟨S.sl.set k (some (.p x)), S.st⟩).bnd (lcbK own f) := by
  exact lcB_body own tt f ⟨S.sl.set k (some (.p x)), S.st⟩
theorem lcL_filter {α : Type} {ok : Sg → Prop} {body : α → M (Option D)} {p : α → Bool} {g : α → D} {S : Sg} (hok : ok S) : ∀ (l : List α) (acc : List D), (∀ d ∈ l, body d S = .ok (if p d = true then some (g d) else none) S) → acc.length + l.length ≤ 1000000 → lcL ok body l acc S = .ok (acc ++ (l.filter p).map g) S
  | [], acc, h, hl => by rw [lcL_nil' hok]; simp
  | d :: ds, acc, h, hl => by
    rw [lcL_cons hok (h d List.mem_cons_self)]
    rw [List.length_cons] at hl
    by_cases e : p d = true
    · rw [if_pos e]
      show (if acc.length < sizeLine then lcL ok body ds (acc ++ [g d]) S else .bad) = _
      rw [if_pos (Nat.lt_of_lt_of_le (by omega : acc.length < 1000000) (by rw [sizeLine_eq]; decide))]
      rw [lcL_filter hok ds (acc ++ [g d]) (fun x hx => h x (List.mem_cons_of_mem _ hx)) (by rw [List.length_append]; simp only [List.length_cons, List.length_nil]; omega)]
      rw [List.filter_cons_of_pos e, List.map_cons, List.append_assoc]; rfl
    · rw [if_neg e]
      show lcL ok body ds acc S = _
      rw [lcL_filter hok ds acc (fun x hx => h x (List.mem_cons_of_mem _ hx)) (by omega), List.filter_cons_of_neg e]
end Lib

set_option Elab.async false
set_option linter.all false
set_option maxRecDepth 100000
set_option exponentiation.threshold 2000
namespace Lib
open PySem PySem.Spec PyProof.Rows L2 Dd
/-- the thresholds of a row, of rows -/
def rowT (ls : List (List Int)) (y : Int) : Int → Nat → List Int
  | _, 0 => []
  | l, n + 1 => thr ls l y :: rowT ls y (l + 1) n
def listed (ls : List (List Int)) (l t : Int) (w : Nat) : Nat → List Int
  | 0 => []
  | n + 1 => listed ls l t w n ++ rowT ls (t + (n : Int)) l w
theorem opAdd_pr {a : List D} {m : Nat} {S : Sg} : opAdd (.p (.lst a)) (.r m) S = catK (some a) (getLK S.st[m]?) S := by
  unfold opAdd
  simp only [asI, getM_r, getM_lst]
  cases getLK S.st[m]? <;> rfl
end Lib

set_option Elab.async false
set_option linter.all false
set_option maxRecDepth 100000
set_option exponentiation.threshold 2000
namespace Lib
open PySem PySem.Spec PyProof.Rows L2 Dd
section
variable {ls : List (List Int)} {l t W H : Int}
/-- the stretches -/
noncomputable def bg (ls : List (List Int)) (l t w h n : Int) : Int := if n ≤ w * h then lst ls l t w h n else 4 ^ ls.length + 1
end
end Lib

set_option Elab.async false
set_option linter.all false
set_option maxRecDepth 100000
set_option exponentiation.threshold 2000
namespace Lib
open PySem PySem.Spec PyProof.Rows L2 Dd
/-! texts of data of ints, truths and nothing -/
mutual
def sml : PyData → Bool
  | .none => true
  | .bool _ => true
  | .int i => decide (i.natAbs.log2 < 250)
  | .list xs => smlAll xs
  | .tuple xs => smlAll xs
  | .str _ => false
  | .dict _ => false
def smlAll : List PyData → Bool
  | [] => true
  | x :: xs => sml x && smlAll xs
end
mutual
theorem sml_showable : ∀ d : PyData, sml d = true → d.showable = true
  | .none, _ => by simp only [PyData.showable]
  | .bool _, _ => by simp only [PyData.showable]
  | .int i, h => by
    simp only [sml, decide_eq_true_eq] at h
    simp only [PyData.showable, decide_eq_true_eq]; omega
  | .list xs, h => by simp only [PyData.showable]; exact sml_showableAll xs (by simpa only [sml] using h)
  | .tuple xs, h => by simp only [PyData.showable]; exact sml_showableAll xs (by simpa only [sml] using h)
  | .str _, h => by simp [sml] at h
  | .dict _, h => by simp [sml] at h
theorem sml_showableAll : ∀ xs : List PyData, smlAll xs = true → PyData.showableAll xs = true
  | [], _ => by simp only [PyData.showableAll]
  | x :: xs, h => by
    have h' : sml x = true ∧ smlAll xs = true := by simpa only [smlAll, Bool.and_eq_true] using h
    simp only [PyData.showableAll, sml_showable x h'.1, sml_showableAll xs h'.2, Bool.and_self]
end
mutual
theorem sml_noDict : ∀ d : PyData, sml d = true → d.hasDict = false
  | .none, _ => by simp only [PyData.hasDict]
  | .bool _, _ => by simp only [PyData.hasDict]
  | .int i, h => by simp only [PyData.hasDict]
  | .list xs, h => by simp only [PyData.hasDict]; exact sml_noDictAll xs (by simpa only [sml] using h)
  | .tuple xs, h => by simp only [PyData.hasDict]; exact sml_noDictAll xs (by simpa only [sml] using h)
  | .str _, h => by simp [sml] at h
  | .dict _, h => by simp [sml] at h
theorem sml_noDictAll : ∀ xs : List PyData, smlAll xs = true → PyData.hasDictAll xs = false
  | [], _ => by simp only [PyData.hasDictAll]
  | x :: xs, h => by
    have h' : sml x = true ∧ smlAll xs = true := by simpa only [smlAll, Bool.and_eq_true] using h
    simp only [PyData.hasDictAll, sml_noDict x h'.1, sml_noDictAll xs h'.2, Bool.or_self]
end
theorem str_len (s : String) : (Str.ofString s).length = s.length := by
  show (Str.ofString s).cps.size = _
  have h := congrArg List.length (signs_ofString s)
  rw [List.length_map, String.length_toList] at h
  simpa using h
mutual
theorem sml_short : ∀ d : PyData, sml d = true → d.leavesShort 260 = true
  | .none, _ => by simp only [PyData.leavesShort]
  | .bool _, _ => by simp only [PyData.leavesShort]
  | .int i, h => by
    simp only [sml, decide_eq_true_eq] at h
    simp only [PyData.leavesShort, decide_eq_true_eq, PyData.shown_int]
    have := int_text_length_le (a := i) (k := 250) (by decide) h
    have e := str_len (toString i)
    have e' : ((toString i : String) : Str).length = (toString i).length := e
    omega
  | .list xs, h => by simp only [PyData.leavesShort]; exact sml_shortAll xs (by simpa only [sml] using h)
  | .tuple xs, h => by simp only [PyData.leavesShort]; exact sml_shortAll xs (by simpa only [sml] using h)
  | .str _, h => by simp [sml] at h
  | .dict _, h => by simp [sml] at h
theorem sml_shortAll : ∀ xs : List PyData, smlAll xs = true → PyData.leavesShortAll 260 xs = true
  | [], _ => by simp only [PyData.leavesShortAll]
  | x :: xs, h => by
    have h' : sml x = true ∧ smlAll xs = true := by simpa only [smlAll, Bool.and_eq_true] using h
    simp only [PyData.leavesShortAll, sml_short x h'.1, sml_shortAll xs h'.2, Bool.and_self]
end
theorem opNeD_t {a b : Str} {S : Sg} (ha : PyData.strOk a = true) (hb : PyData.strOk b = true) : opNeD (.p (.str a)) (.p (.str b)) S = .ok (.p (.bl (!decide (a = b)))) S := by
  have sh : ∀ {a : Str}, PyData.strOk a = true → SeqAt.shaped (.str a) = true := fun {a} h => by
    show (PyData.strOk a && decide (0 ≤ 64)) = true
    rw [h]; rfl
  rw [opNeD_of (d := .str a) (e := .str b) rfl rfl (sh ha) (sh hb), eqv_str]
/-- the text of data, as one word -/
def Sml (d : PyData) : Prop := sml d = true ∧ d.depth ≤ 64 ∧ d.weight ≤ 50000
theorem opRepr_t {x : R} {d : PyData} {S : Sg} (hx : dataR x S = some d) (h : Sml d) : opRepr x S = .ok (.p (.str d.shown)) S := by
  obtain ⟨h1, h2, h3⟩ := h
  have ln : d.shown.length ≤ sizeLine := by
    have := PyData.shown_le 260 (by decide) d (sml_short d h1)
    rw [sizeLine_eq]; omega
  unfold opRepr
  rw [hx]
  cases d with
  | int i =>
    simp only [sml, decide_eq_true_eq] at h1
    simp only
    rw [if_pos (by omega), PyData.shown_int]
  | list xs => exact if_pos ⟨sml_showable _ h1, sml_noDict _ h1, h2, ln⟩
  | tuple xs => exact if_pos ⟨sml_showable _ h1, sml_noDict _ h1, h2, ln⟩
  | bool b => simp only [PyData.shown_bool]
  | none => simp only [PyData.shown_none]
  | str z => simp [sml] at h1
  | dict z => simp [sml] at h1
theorem smlAll_ints : ∀ {ns : List Int}, (∀ n ∈ ns, Bt 240 n) → smlAll (ns.map .int) = true
  | [], _ => rfl
  | n :: ns, h => by
    have := (h n List.mem_cons_self).log2
    show (sml (.int n) && smlAll (ns.map .int)) = true
    rw [smlAll_ints fun m hm => h m (List.mem_cons_of_mem _ hm)]
    simp only [sml, Bool.and_true, decide_eq_true_eq]; omega
theorem weight_ints : ∀ {ns : List Int}, (∀ n ∈ ns, Bt 240 n) → PyData.weightAll (ns.map .int) ≤ 242 * ns.length
  | [], _ => Nat.zero_le _
  | n :: ns, h => by
    have := (h n List.mem_cons_self).log2
    have ih := weight_ints fun m hm => h m (List.mem_cons_of_mem n hm)
    show PyData.weight (.int n) + 1 + PyData.weightAll (ns.map .int) ≤ _
    have e : PyData.weight (.int n) ≤ 241 := by
      simp only [PyData.weight]; split <;> omega
    rw [List.length_cons]; omega
theorem depth_ints : ∀ {ns : List Int}, PyData.depthAll (ns.map .int) = 0
  | [] => rfl
  | n :: ns => by
    show max (PyData.depth (.int n)) (PyData.depthAll (ns.map .int)) = 0
    rw [depth_ints]; rfl
theorem Sml.ints {ns : List Int} (h : ∀ n ∈ ns, Bt 240 n) (hl : ns.length ≤ 200) : Sml (.list (ns.map .int)) := by
  refine ⟨by simpa only [sml] using smlAll_ints h, ?_, ?_⟩
  · simp only [PyData.depth, depth_ints]; omega
  · have := weight_ints h
    simp only [PyData.weight]; omega
theorem Sml.int {n : Int} (h : Bt 240 n) : Sml (.int n) := by
  have := h.log2
  refine ⟨by simp only [sml, decide_eq_true_eq]; omega, by simp only [PyData.depth]; omega, ?_⟩
  simp only [PyData.weight]; split <;> omega
theorem Sml.none : Sml .none := ⟨rfl, by simp only [PyData.depth]; omega, by simp only [PyData.weight]; omega⟩
theorem Sml.bool {b : Bool} : Sml (.bool b) := ⟨rfl, by simp only [PyData.depth]; omega, by simp only [PyData.weight]; omega⟩
end Lib

set_option Elab.async false
set_option linter.all false
set_option maxRecDepth 100000
set_option exponentiation.threshold 2000
namespace Lib
open PySem PySem.Spec PyProof.Rows L2 Dd
/-! thresholds in ascending sequence -/
section
variable {ls : List (List Int)} {l t : Int} {w h : Nat}
end
/-! the texts of lists, the places of lists -/
theorem ixK_nn {L : List Int} {i : Int} {v : Int} {S : Sg} (h0 : 0 ≤ i) (h : L[i.toNat]? = some v) : ixK (L.map .int) i S = .ok (.p (.int v)) S :=
  ixK_of (atI_of h0 (by rw [List.getElem?_map, h]; rfl))
theorem opRepr_n {S : Sg} : opRepr (.p .non) S = .ok (.p (.str (PyData.none).shown)) S := opRepr_t (by rw [dataR_p]; rfl) Sml.none
end Lib

set_option Elab.async false
set_option linter.all false
set_option maxRecDepth 100000
set_option exponentiation.threshold 2000
namespace Lib
open PySem PySem.Spec PyProof.Rows L2 Dd
section
variable {ls : List (List Int)} {l t w h j : Int}
end
def nP (q : Int → Bool) (ds : List D) : Bool := match ds with
  | [_, .int v] => q v
  | _ => false
end Lib

set_option Elab.async false
set_option linter.all false
set_option maxRecDepth 100000
set_option exponentiation.threshold 2000
namespace Lib
open PySem PySem.Spec PyProof.Rows L2 Dd
theorem opNeD_rr0 {i k : Nat} {S : Sg} {l : List Int} (hk : S.st[i]? = some (.mu (.lst (l.map .int)))) (hm : S.st[k]? = some (.mu (.lst []))) : opNeD (.r i) (.r k) S = .ok (.p (.bl (!decide (l = [])))) S := opNeD_ints hk hm
/-- one level, drawn in place -/
theorem levels1_d {most : Int} (h0 : 0 < most) (h1 : most ≤ 50) : DrawsL s_z_law_levels_v1 (fun n => [.r n, .p (.int most)]) (fun v => ∃ ls, v = lvD ls ∧ LvOk ls ∧ (ls.length : Int) ≤ most) 250 := by
  apply drL_of
  intro st n c C hn hb hC
  unfold s_z_law_levels_v1 b_z_law_levels_v1
  simp! [bnd_bnd]
  refine wpf_bnd (wp_draw (pick_d (m := most) h0 (by omega)) hn hb (by omega) fun v2 c2 ⟨v, e2, a2, b2⟩ B2 => ?_)
  subst e2
  obtain ⟨d, hd⟩ : ∃ d : Nat, 1 + v = (d : Int) := ⟨(1 + v).toNat, by omega⟩
  simp! [bnd_bnd, hd, rngK1_n (show d ≤ 1000000 by omega)]
  refine wpf_bnd (wp_loop (I := fun i S => ∃ (c' : Cell) (ls : List (List Int)) (rest : Store) (s3 s4 s5 : Option R), S = ⟨[some (.r n), some (.p (.int most)), some (.r st.length), s3, s4, s5], st.set n c' ++ (.mu (.lst (lvD ls)) :: rest)⟩ ∧ ls.length = i ∧ Lvs ls ∧ i ≤ d ∧ BagC c' (C + 1 + 4 * i)) ?_ ?_ ?_ ?_)
  · exact ⟨c2, [], [], none, none, none, rfl, rfl, fun _ h => by simp at h, Nat.zero_le _, B2⟩
  · intros; trivial
  · rintro j q S hj ⟨c', ls, rest, s3, s4, s5, rfl, hl, hp, hi, B⟩
    obtain ⟨rfl, hj'⟩ := intsFrom_at hj
    rw [bind_bnd]
    simp! [bnd_bnd]
    refine wp_bnd (wp_while (I := fun m S => ∃ (c' : Cell) (left lev : List Int) (rest2 : Store), S = ⟨[some (.r n), some (.p (.int most)), some (.r st.length), some (.p (.int (0 + (j : Int)))), some (.r (st.length + (rest.length + 1))), some (.r (st.length + (rest.length + 1 + 1)))], st.set n c' ++ (.mu (.lst (lvD ls)) :: (rest ++ (.mu (.lst (left.map .int)) :: .mu (.lst (lev.map .int)) :: rest2)))⟩ ∧ left.length = m ∧ lev.length = 4 - m ∧ (lev ++ left).Perm [0, 1, 2, 3] ∧ BagC c' (C + 1 + 4 * j + lev.length)) 4 ?_ ?_)
    · exact ⟨c', [0, 1, 2, 3], [], [], by simp, rfl, rfl, List.Perm.refl _, B⟩
    · rintro m S ⟨c', left, lev, rest2, rfl, hm, hlen, hp2, B⟩
      have ne := fun (i k : Nat) (S : Sg) (h1 : S.st[i]? = some (.mu (.lst (left.map .int)))) (h2 : S.st[k]? = some (.mu (.lst []))) => opNeD_rr0 h1 h2
      simp! [bnd_bnd]
      rw [ne]
      rotate_left
      · show (List.set st n c' ++ _)[_]? = _
        rw [get_set_app]; simp
      · show (List.set st n c' ++ _)[_]? = _
        rw [get_set_app]; simp
      cases left with
      | nil =>
        simp! []
        refine wp_ok ?_
        rw [if_neg (by decide)]
        have h4 : lev.length = 4 := by simp at hm; omega
        rw [h4] at B
        rw [List.append_nil] at hp2
        simp! [bnd_bnd, appK_ap (show (lvD ls).length < 1000000 by rw [lvD_len]; omega)]
        rw [show lvD ls ++ [D.tup (lev.map D.int)] = lvD (ls ++ [lev]) by unfold lvD; rw [List.map_append]; rfl]
        refine wp_ok ⟨c', ls ++ [lev], rest ++ (.mu (.lst []) :: .mu (.lst (lev.map .int)) :: (rest2 ++ [.mu (.lst [])])), _, _, _, rfl, ?_, ?_, hj', BagC.mono B (by omega)⟩
        · rw [List.length_append, hl]; rfl
        · intro z hz
          rcases List.mem_append.mp hz with hz | hz
          · exact hp z hz
          · rw [List.mem_singleton.mp hz]; exact hp2
      | cons z left =>
        simp! [List.cons_ne_nil]
        refine wp_ok ?_
        rw [if_pos rfl]
        simp! [bnd_bnd, List.length_map]
        have hm' : left.length + 1 = m := by simpa using hm
        have hl5 : left.length + 1 ≤ 4 := by
          have := hp2.length_eq
          simp at this
          omega
        refine wp_bnd (wp_draw (pick_d (m := ((left.length + 1 : Nat) : Int)) (by omega) (Int.lt_of_le_of_lt (show ((left.length + 1 : Nat) : Int) ≤ 4 by omega) (by decide))) hn B (by omega) fun v2 c2 ⟨v, e2, a2, b2⟩ B2 => ?_)
        subst e2
        have hk : v.toNat < (z :: left).length := by rw [List.length_cons]; omega
        have hd : (D.int z :: left.map D.int)[v.toNat]? = some (.int (z :: left)[v.toNat]) := by
          show ((z :: left).map D.int)[v.toNat]? = _
          rw [List.getElem?_map, List.getElem?_eq_getElem hk]; rfl
        simp! [bnd_bnd, popC_of a2 hd (show (D.int z :: left.map D.int).length < 1000000 by rw [List.length_cons, List.length_map]; omega), appK_ap (show (lev.map D.int).length < 1000000 by rw [List.length_map]; omega)]
        refine wp_ok ⟨left.length, by simp at hm; omega, c2, (z :: left).eraseIdx v.toNat, lev ++ [(z :: left)[v.toNat]], rest2 ++ [.mu (.lst [])], ?_, ?_, ?_, ?_, ?_⟩
        · rw [List.map_append]
          show _ = (⟨_, st.set n c2 ++ (.mu (.lst (lvD ls)) :: (rest ++ (.mu (.lst (((z :: left).eraseIdx v.toNat).map D.int)) :: _)))⟩ : Sg)
          rw [← map_erase]; rfl
        · rw [List.length_eraseIdx_of_lt hk]; rfl
        · rw [List.length_append]; simp at hm ⊢; omega
        · refine List.Perm.trans ?_ hp2
          rw [List.append_assoc]
          exact (perm_getE hk).append_left lev
        · rw [List.length_append]; exact B2
  · rintro S ⟨c', ls, rest, s3, s4, s5, rfl, hl, hp, hi, B⟩
    rw [Dd.intsFrom_length] at hl B
    simp! []
    rw [finishR_mu (o := .lst (lvD ls)) (by show (List.set st n c' ++ _)[_]? = _; rw [get_set_app0]; rfl) (Nat.le_refl _), take_set_app]
    exact wpf_ok ⟨_, c', rfl, rfl, ⟨ls, rfl, ⟨by omega, by omega, hp⟩, by omega⟩, BagC.mono B (by omega)⟩
theorem ix5 {a b c d e i : Int} (h0 : 0 ≤ i) (h1 : i < 5) : ∃ z, (∀ S, ixK [.int a, .int b, .int c, .int d, .int e] i S = .ok (.p (.int z)) S) ∧ (z = a ∨ z = b ∨ z = c ∨ z = d ∨ z = e) := by
  have h : i = 0 ∨ i = 1 ∨ i = 2 ∨ i = 3 ∨ i = 4 := by omega
  rcases h with rfl | rfl | rfl | rfl | rfl
  · exact ⟨a, fun S => ixK_0, .inl rfl⟩
  · exact ⟨b, fun S => ixK_1, .inr (.inl rfl)⟩
  · exact ⟨c, fun S => ixK_2, .inr (.inr (.inl rfl))⟩
  · exact ⟨d, fun S => ixK_3, .inr (.inr (.inr (.inl rfl)))⟩
  · exact ⟨e, fun S => ixK_of (atI_of (by decide) rfl), .inr (.inr (.inr (.inr rfl)))⟩
theorem shade1_d {ls : List (List Int)} (hl : ls.length ≤ 50) : Draws s_z_law_shade_v1 (fun n => [.r n, .p (.lst (lvD ls))]) (InR 0 (4 ^ ls.length + 1)) 3 := by
  apply dr_of
  intro st n c C hn hb hC
  obtain ⟨q1, q2⟩ := four_bd hl
  have q3 : (2 : Int) ^ 100 < 2 ^ 199 := by decide
  have q4 : (2 : Int) ^ 100 < ((2 ^ 110 : Nat) : Int) := by decide
  unfold s_z_law_shade_v1 b_z_law_shade_v1
  simp! [bnd_bnd, lvD_len, opMul_i (two_len hl), opShl_i (cshl1 (j := 2 * (ls.length : Int)) (by omega) (by omega)), shl_four]
  refine wpf_bnd (wp_draw0 (pick_d (m := (ls.length : Int) + 1) (by omega) (by omega)) hn hb (by omega) fun v1 c1 ⟨x, e1, a1, b1⟩ B1 => ?_); subst e1
  obtain ⟨j, rfl⟩ : ∃ j : Nat, x = (j : Int) := ⟨x.toNat, by omega⟩
  have hj : j ≤ 50 := by omega
  obtain ⟨r1, r2⟩ := four_bd hj
  simp! [bnd_bnd, opMul_i (two_len hj), opShl_i (cshl1 (j := 2 * (j : Int)) (by omega) (by omega)), shl_four]
  refine wpf_bnd (wp_draw0 (pick_d (m := 4 ^ ls.length + 1) (by omega) (by omega)) hn B1 (by omega) fun v2 c2 ⟨k, e2, a2, b2⟩ B2 => ?_); subst e2
  have cd := cdivw (i := k) (j := 4 ^ j) (by omega) (by omega)
  have g0 : 0 ≤ k / 4 ^ j := Int.ediv_nonneg a2 (by omega)
  have g1 : k / 4 ^ j ≤ k := Int.ediv_le_self _ a2
  have g2 : k / 4 ^ j * 4 ^ j ≤ k := Int.ediv_mul_le _ (by omega)
  have g3 : 0 ≤ k / 4 ^ j * 4 ^ j := Int.mul_nonneg g0 (by omega)
  have cm : CMulW (k / 4 ^ j) (4 ^ j) := cmulw (n := 110) (m := 110) (Bt.of (by omega)) (Bt.of (by omega))
  simp! [bnd_bnd, opDiv_i cd, opMul_i cm]
  refine wpf_bnd (wp_draw (pick_d (m := 5) (by decide) (by decide)) hn B2 (by omega) fun v3 c3 ⟨y, e3, a3, b3⟩ B3 => ?_); subst e3
  obtain ⟨z, hz, hz'⟩ := ix5 (a := k) (b := k / 4 ^ j * 4 ^ j) (c := 0) (d := 4 ^ ls.length) (e := k) a3 b3
  simp! [bnd_bnd, hz]
  exact wpf_ok ⟨_, c3, rfl, by simp! [], ⟨z, rfl, by omega, by omega⟩, B3⟩
end Lib

set_option Elab.async false
set_option linter.all false
set_option maxRecDepth 100000
set_option exponentiation.threshold 2000
namespace Lib
open PySem PySem.Spec PyProof.Rows L2 Dd
/-- windows with numbers of dots -/
abbrev Wn := (Int × Int × Int × Int) × Int
section
variable {ls : List (List Int)} {L : List Wn}
end
theorem is_coordinate_i (i : Int) (st : Store) : s_is_coordinate [.p (.int i)] st = .ok (.val (.bl (decide (-(1000000000000000000000000000000 : Int) ≤ i ∧ i ≤ (1000000000000000000000000000000 : Int))))) st := by
  unfold s_is_coordinate b_is_coordinate
  simp! [is_whole_i, Int.zero_sub]
/-- places that were seen -/
abbrev Sn := (Int × Int) × Bool
def SnOk (p : Sn) : Prop := -(1000000000000000000000000000000 : Int) ≤ p.1.1 ∧ p.1.1 ≤ (1000000000000000000000000000000 : Int) ∧ -(1000000000000000000000000000000 : Int) ≤ p.1.2 ∧ p.1.2 ≤ (1000000000000000000000000000000 : Int)
def stp (ls : List (List Int)) (ab : Int × Int) (p : Sn) : Int × Int := if p.2 = true then (max ab.1 (thr ls p.1.1 p.1.2 + 1), ab.2) else (ab.1, min ab.2 (thr ls p.1.1 p.1.2))
def bnds (ls : List (List Int)) (L : List Sn) : Int × Int := L.foldl (stp ls) (0, 4 ^ ls.length)
section
variable {ls : List (List Int)} {L : List Sn}
end
theorem ixK_snoc {l : List D} {d : D} {S : Sg} : ixK (l ++ [d]) (-1) S = .ok (.p d) S := by
  refine ixK_of ?_
  unfold L2.atI L2.ixN
  rw [if_neg (by omega), List.length_append, List.length_singleton, if_pos (by omega)]
  show (l ++ [d])[_]? = _
  rw [show ((-1 : Int) + ((l.length + 1 : Nat) : Int)).toNat = l.length by omega]
  simp
end Lib

set_option Elab.async false
set_option linter.all false
set_option maxRecDepth 100000
set_option exponentiation.threshold 2000
namespace Lib
open PySem PySem.Spec PyProof.Rows L2 Dd
/-- what was seen fits a shade -/
def Fit (ls : List (List Int)) (s : Int) (p : Sn) : Prop := decide (thr ls p.1.1 p.1.2 < s) = p.2
instance (ls : List (List Int)) (s : Int) (p : Sn) : Decidable (Fit ls s p) := inferInstanceAs (Decidable (_ = _))
theorem setK_at {n : Nat} {i : Int} {d : D} {l : List D} {S : Sg} (h0 : 0 ≤ i) (h1 : i < l.length) : setK n i d S (some (.mu (.lst l))) = .ok () ⟨S.sl, S.st.set n (.mu (.lst (l.set i.toNat d)))⟩ := by
  have e : L2.ixN l.length i = some i.toNat := by unfold L2.ixN; rw [if_pos h0, if_pos h1]
  unfold setK; simp only [e]
/-! the text of what was seen -/
def snP (p : Sn) : PyData := .tuple [.int p.1.1, .int p.1.2, .bool p.2]
theorem sn_bt {p : Sn} (h : SnOk p) : Bt 240 p.1.1 ∧ Bt 240 p.1.2 := by
  obtain ⟨a, b, c, d⟩ := h
  have : (1000000000000000000000000000000 : Int) < ((2 ^ 240 : Nat) : Int) := by decide
  exact ⟨Bt.of (by omega), Bt.of (by omega)⟩
theorem smlAll_sn : ∀ {L : List Sn}, (∀ p ∈ L, SnOk p) → smlAll (L.map snP) = true
  | [], _ => rfl
  | p :: L, h => by
    obtain ⟨a, b⟩ := sn_bt (h p List.mem_cons_self)
    have a := a.log2
    have b := b.log2
    show (sml (snP p) && smlAll (L.map snP)) = true
    rw [smlAll_sn fun q hq => h q (List.mem_cons_of_mem _ hq)]
    simp only [snP, sml, smlAll, Bool.and_true, Bool.and_eq_true, decide_eq_true_eq]
    omega
theorem weight_sn : ∀ {L : List Sn}, (∀ p ∈ L, SnOk p) → PyData.weightAll (L.map snP) ≤ 490 * L.length
  | [], _ => Nat.zero_le _
  | p :: L, h => by
    obtain ⟨a, b⟩ := sn_bt (h p List.mem_cons_self)
    have a := a.log2
    have b := b.log2
    have ih := weight_sn fun q hq => h q (List.mem_cons_of_mem p hq)
    show PyData.weight (snP p) + 1 + PyData.weightAll (L.map snP) ≤ _
    have e : PyData.weight (snP p) ≤ 485 := by
      simp only [snP, PyData.weight, PyData.weightAll]
      split <;> split <;> omega
    rw [List.length_cons]; omega
theorem depth_sn : ∀ L : List Sn, PyData.depthAll (L.map snP) ≤ 1
  | [] => Nat.zero_le _
  | p :: L => by
    show max (PyData.depth (snP p)) (PyData.depthAll (L.map snP)) ≤ 1
    have := depth_sn L
    have e : PyData.depth (snP p) = 1 := rfl
    omega
theorem Sml.sn {L : List Sn} (h : ∀ p ∈ L, SnOk p) (hl : L.length ≤ 100) : Sml (.list (L.map snP)) := by
  refine ⟨by simpa only [sml] using smlAll_sn h, ?_, ?_⟩
  · have := depth_sn L
    simp only [PyData.depth]; omega
  · have := weight_sn h
    simp only [PyData.weight]; omega
end Lib

set_option Elab.async false
set_option linter.all false
set_option maxRecDepth 100000
set_option exponentiation.threshold 2000
namespace Lib
open PySem PySem.Spec PyProof.Rows L2 Dd
/-! ### screens that are made of screens -/
theorem opList_t {l : List D} {S : Sg} : opList (.p (.tup l)) S = .ok (.r S.st.length) ⟨S.sl, S.st ++ [.mu (.lst l)]⟩ := Eq.trans rfl rfl
theorem levels_i (l : List D) (st : Store) : s_Screen_levels [.p (.scr l)] st = .ok (.new (.lst l)) st := by
  unfold s_Screen_levels b_Screen_levels
  simp! [opList_t]
  rw [finishR_mu (o := .lst l) (by simp) (by omega), List.take_append_of_le_length (by omega), List.take_length]
theorem levels_p (l : List D) (S : Sg) : propK 0 s_Screen_levels (.p (.scr l)) S = .ok (.r S.st.length) ⟨S.sl, S.st ++ [.mu (.lst l)]⟩ := by
  unfold propK
  show (if (0 : Nat) = 0 then (match s_Screen_levels [.p (.scr l)] S.st with | .exc _ _ => Res.bad | r => applyF S r) else Res.bad) = _
  rw [if_pos rfl, levels_i]
  rfl
def slK (lo hi : Option Int) (S : Sg) : Option (List D) → Res R
  | some l => if l.length ≤ sizeLine then .ok (.r S.st.length) { S with st := S.st ++ [.mu (.lst (Dd.cutD l lo hi))] } else .bad
  | none => .bad
theorem opSl_r {n : Nat} {lo hi : Option Int} {S : Sg} : opSl (.r n) lo hi S = slK lo hi S (getLst (.r n) S) := by
  unfold opSl slK
  rfl
theorem slK_ap {l : List D} {lo hi : Option Int} {S : Sg} (h : l.length ≤ 1000) : slK lo hi S (some l) = .ok (.r S.st.length) ⟨S.sl, S.st ++ [.mu (.lst (Dd.cutD l lo hi))]⟩ := if_pos (Nat.le_trans h (by rw [sizeLine_eq]; decide))
theorem opSl_l {l : List D} {lo hi : Option Int} {S : Sg} (h : l.length ≤ 1000) : opSl (.p (.lst l)) lo hi S = .ok (.r S.st.length) ⟨S.sl, S.st ++ [.mu (.lst (Dd.cutD l lo hi))]⟩ := if_pos (Nat.le_trans h (by rw [sizeLine_eq]; decide))
theorem eqv_tt (xs ys : List PyData) : PyData.eqv (.tuple xs) (.tuple ys) = PyData.eqvAll xs ys := rfl
theorem eqv_ll (xs ys : List PyData) : PyData.eqv (.list xs) (.list ys) = PyData.eqvAll xs ys := rfl
theorem eqvAll_lv : ∀ a b : List (List Int), PyData.eqvAll (lvP a) (lvP b) = decide (a = b)
  | [], [] => rfl
  | [], b :: bs => rfl
  | a :: as, [] => rfl
  | a :: as, b :: bs => by
    show (PyData.eqv (.tuple (a.map .int)) (.tuple (b.map .int)) && PyData.eqvAll (lvP as) (lvP bs)) = _
    rw [eqv_tt, eqvAll_ints, eqvAll_lv as bs]
    by_cases h : a = b <;> by_cases h2 : as = bs <;> simp [h, h2]
/-! == with the data looked at one by one -/
def eqDK : Option PyData → Option PyData → Sg → Res R
  | some d, some e, S => if SeqAt.shaped d = true ∧ SeqAt.shaped e = true then .ok (.p (.bl (PyData.eqv d e))) S else .bad
  | _, _, _ => .bad
theorem opEqD_K {x y : R} {S : Sg} : opEqD x y S = eqDK (dataR x S) (dataR y S) S := by
  unfold opEqD
  cases dataR x S with
  | none => rfl
  | some d => cases dataR y S <;> rfl
theorem toPy_lst_lv {ls : List (List Int)} : toPy (.lst (lvD ls)) = some (.list (lvP ls)) := by unfold toPy; rw [toPyL_lv]
theorem dataK_lv {ls : List (List Int)} : dataK (some (.mu (.lst (lvD ls)))) = some (.list (lvP ls)) := by
  rw [dataK_mu, toPyL_lv]; rfl
theorem eqDK_ll {a b : List (List Int)} {S : Sg} : eqDK (some (.list (lvP a))) (some (.list (lvP b))) S = .ok (.p (.bl (decide (a = b)))) S := by
  refine (if_pos ⟨shaped_lv a, shaped_lv b⟩).trans ?_
  rw [eqv_ll, eqvAll_lv]
/-! screens, looked at -/
/-! thresholds of turned screens -/
/-! == of a screen with what is none -/
/-! a screen made of a list in a cell -/
end Lib

set_option Elab.async false
set_option linter.all false
set_option maxRecDepth 100000
set_option exponentiation.threshold 2000
namespace Lib
open PySem PySem.Spec PyProof.Rows L2 Dd
/-! ### texts of screens -/
/-- the text of a level -/
def lvS (lv : List Int) : Str := ⟨(lv.map fun n => (48 + n).toNat).toArray⟩
/-- the text of a screen -/
def tx (ls : List (List Int)) : Str := Txt.join (Str.ofString " ") (ls.map lvS)
/-! ### reading -/
end Lib

set_option Elab.async false
set_option linter.all false
set_option maxRecDepth 100000
set_option exponentiation.threshold 2000
namespace Lib
open PySem PySem.Spec PyProof.Rows L2 Dd
end Lib

set_option Elab.async false
set_option linter.all false
set_option maxRecDepth 100000
set_option exponentiation.threshold 2000
namespace Lib
open PySem PySem.Spec PyProof.Rows L2 Dd
/-! ### longest runs: plain -/
/-- the longest run of an endless row of truths; none if it has no end -/
def LongR (Q : Int → Bool) : Option Int → Prop
  | none => ∀ x, Q x = true
  | some m => 0 ≤ m ∧ (∃ x, ∀ i : Int, 0 ≤ i → i < m → Q (x + i) = true) ∧ ∀ x, ∃ i : Int, 0 ≤ i ∧ i ≤ m ∧ Q (x + i) = false
section
variable {Q F : Int → Bool} {f : Option Int}
end
end Lib

set_option Elab.async false
set_option linter.all false
set_option maxRecDepth 100000
set_option exponentiation.threshold 2000
namespace Lib
open PySem PySem.Spec PyProof.Rows L2 Dd
/-! ### longest runs: the walk -/
def hS (a g : Int) : Str := if a = g then Str.ofString "on" else if a < g then Str.ofString "dot" else Str.ofString "blank"
/-! the lines -/
theorem intsFrom_range' : ∀ (n : Nat) (a : Int), Dd.intsFrom a n = (List.range n).map fun i : Nat => D.int (a + (i : Int))
  | 0, _ => rfl
  | n + 1, a => by
    rw [List.range_succ_eq_map, List.map_cons, List.map_map]
    show D.int a :: Dd.intsFrom (a + 1) n = _
    rw [intsFrom_range' n (a + 1), show a + ((0 : Nat) : Int) = a by omega]
    congr 1
    refine List.map_congr_left fun i _ => ?_
    show D.int (a + 1 + (i : Int)) = D.int (a + ((i + 1 : Nat) : Int))
    congr 1; omega
theorem intsFrom_range (n : Nat) : Dd.intsFrom 0 n = (List.range n).map fun i : Nat => D.int (i : Int) := by
  rw [intsFrom_range']
  exact List.map_congr_left fun i _ => by rw [Int.zero_add]
section
variable {ls : List (List Int)} {k : Int} (h50 : ls.length ≤ 50) (hp : Lvs ls) (k0 : 0 ≤ k) (k1 : k ≤ 4 ^ ls.length)
include h50 hp k0 k1
end
end Lib

set_option Elab.async false
set_option linter.all false
set_option maxRecDepth 100000
set_option exponentiation.threshold 2000
namespace Lib
open PySem PySem.Spec PyProof.Rows L2 Dd
/-! ### the law's own count of runs -/
/-- what is known of the runs that end within the first t places -/
structure RunI (Q : Int → Bool) (t now best : Int) : Prop where
  n0 : 0 ≤ now
  b0 : 0 ≤ best
  run : ∀ i : Int, 0 ≤ i → i < now → Q (t - 1 - i) = true
  top : now = t ∨ Q (t - 1 - now) = false
  got : ∃ x, ∀ i : Int, 0 ≤ i → i < best → Q (x + i) = true
  le : now ≤ t
  all : ∀ s m : Int, 0 ≤ s → s ≤ t → m ≤ s → (∀ i : Int, 0 ≤ i → i < m → Q (s - 1 - i) = true) → m ≤ best
theorem RunI.zero (Q : Int → Bool) : RunI Q 0 0 0 := ⟨Int.le_refl _, Int.le_refl _, fun i _ _ => by omega, .inl rfl, ⟨0, fun i _ _ => by omega⟩, Int.le_refl _, fun s m _ _ _ _ => by omega⟩
theorem RunI.step {Q : Int → Bool} {t now best : Int} (h : RunI Q t now best) (t0 : 0 ≤ t) : RunI Q (t + 1) (if Q t = true then now + 1 else 0) (max best (if Q t = true then now + 1 else 0)) := by
  obtain ⟨n0, b0, run, mx, got, le, all⟩ := h
  by_cases q : Q t = true
  · rw [if_pos q]
    have run' : ∀ i : Int, 0 ≤ i → i < now + 1 → Q (t + 1 - 1 - i) = true := fun i i0 i1 => by
      by_cases hi : i = 0
      · rw [hi, show t + 1 - 1 - 0 = t by omega]; exact q
      · rw [show t + 1 - 1 - i = t - 1 - (i - 1) by omega]; exact run _ (by omega) (by omega)
    refine ⟨by omega, by omega, run', ?_, ?_, by omega, fun s m s0 s1 ms hr => ?_⟩
    · rcases mx with h | h
      · left; omega
      · right; rw [show t + 1 - 1 - (now + 1) = t - 1 - now by omega]; exact h
    · by_cases hb : best ≤ now + 1
      · refine ⟨t - now, fun i i0 i1 => ?_⟩
        rw [show t - now + i = t + 1 - 1 - (now - i) by omega]
        exact run' _ (by omega) (by omega)
      · obtain ⟨x, hx⟩ := got
        exact ⟨x, fun i i0 i1 => hx i i0 (by omega)⟩
    · by_cases hs : s = t + 1
      · subst hs
        have : m ≤ now + 1 := by
          apply Classical.byContradiction
          intro hc
          rcases mx with h | h
          · omega
          · have := hr (now + 1) (by omega) (by omega)
            rw [show t + 1 - 1 - (now + 1) = t - 1 - now by omega, h] at this
            cases this
        omega
      · have := all s m s0 (by omega) ms hr
        omega
  · rw [if_neg q]
    have q' : Q t = false := by simpa using q
    refine ⟨Int.le_refl _, by omega, fun i _ _ => by omega, ?_, ?_, by omega, fun s m s0 s1 ms hr => ?_⟩
    · right; rw [show t + 1 - 1 - 0 = t by omega]; exact q'
    · obtain ⟨x, hx⟩ := got
      exact ⟨x, fun i i0 i1 => hx i i0 (by omega)⟩
    · by_cases hs : s = t + 1
      · subst hs
        have : m ≤ 0 := by
          apply Classical.byContradiction
          intro hc
          have := hr 0 (by omega) (by omega)
          rw [show t + 1 - 1 - 0 = t by omega, q'] at this
          cases this
        omega
      · have := all s m s0 (by omega) ms hr
        omega
theorem RunI.done {Q : Int → Bool} {N now best : Int} (N0 : 0 < N) (per : ∀ x q : Int, Q (x + q * N) = Q x) (h : RunI Q (2 * N) now best) (hn : ∃ x, Q x = false) : LongR Q (some best) := by
  refine ⟨h.b0, h.got, fun x => ?_⟩
  apply Classical.byContradiction
  intro hc
  have tr : ∀ i : Int, 0 ≤ i → i ≤ best → Q (x + i) = true := fun i i0 i1 => by
    cases e : Q (x + i) with
    | true => rfl
    | false => exact (hc ⟨i, i0, i1, e⟩).elim
  have e := Int.emod_add_mul_ediv x N
  have z0 := Int.emod_nonneg x (Int.ne_of_gt N0)
  have z1 := Int.emod_lt_of_pos x N0
  have tr' : ∀ i : Int, 0 ≤ i → i ≤ best → Q (x % N + i) = true := fun i i0 i1 => by
    rw [← tr i i0 i1, ← per (x % N + i) (x / N), Int.mul_comm]
    congr 1; omega
  by_cases hb : best < N
  · have := h.all (x % N + best + 1) (best + 1) (by have := h.b0; omega) (by omega) (by omega) fun i i0 i1 => by
      rw [show x % N + best + 1 - 1 - i = x % N + (best - i) by omega]
      exact tr' _ (by omega) (by omega)
    omega
  · obtain ⟨w, hw⟩ := hn
    have e2 := Int.emod_add_mul_ediv (w - x) N
    have w0 := Int.emod_nonneg (w - x) (Int.ne_of_gt N0)
    have w1 := Int.emod_lt_of_pos (w - x) N0
    have := tr ((w - x) % N) w0 (by omega)
    rw [← per _ ((w - x) / N), Int.mul_comm, show x + (w - x) % N + N * ((w - x) / N) = w by omega, hw] at this
    cases this
/-! periods -/
end Lib

set_option Elab.async false
set_option linter.all false
set_option maxRecDepth 100000
set_option exponentiation.threshold 2000
namespace Lib
open PySem PySem.Spec PyProof.Rows L2 Dd
section
variable {ls : List (List Int)} {k : Int}
end
end Lib

set_option Elab.async false
set_option linter.all false
set_option maxRecDepth 100000
set_option maxHeartbeats 2000000
namespace Lib
open PySem PySem.Spec PyProof.Rows L2 Dd
/-! the name of an exception, as the laws tell it -/
theorem lc_pairs {own ks : List Nat} {i j : Nat} {ok : Sg → Prop} {S : Sg} (hok : ok S) (ps : List (Str × Bool)) (hl : ps.length ≤ 1000)
    (h : ∀ p ∈ ps, lcB own ks unpT (tst (vr j)) (vr i) (.tup [.str p.1, .bl p.2]) S = .ok (if p.2 = true then some (D.str p.1) else none) S) :
    lcL ok (lcB own ks unpT (tst (vr j)) (vr i)) (ps.map fun p => D.tup [.str p.1, .bl p.2]) [] S = .ok ((ps.filter (·.2)).map fun p => D.str p.1) S := by
  have gen : ∀ (ps : List (Str × Bool)) (acc : List D), (∀ p ∈ ps, lcB own ks unpT (tst (vr j)) (vr i) (.tup [.str p.1, .bl p.2]) S = .ok (if p.2 = true then some (D.str p.1) else none) S) → acc.length + ps.length ≤ 1000000 →
      lcL ok (lcB own ks unpT (tst (vr j)) (vr i)) (ps.map fun p => D.tup [.str p.1, .bl p.2]) acc S = .ok (acc ++ (ps.filter (·.2)).map fun p => D.str p.1) S := by
    intro ps
    induction ps with
    | nil => intro acc _ _; rw [List.map_nil, lcL_nil' hok]; simp
    | cons p r ih =>
      intro acc h hl
      rw [List.length_cons] at hl
      rw [List.map_cons, lcL_cons hok (h p List.mem_cons_self)]
      cases e : p.2 with
      | true =>
        rw [if_pos rfl]
        show (if acc.length < sizeLine then lcL ok _ _ (acc ++ [D.str p.1]) S else .bad) = _
        rw [if_pos (Nat.lt_of_lt_of_le (by omega : acc.length < 1000000) (by rw [sizeLine_eq]; decide))]
        rw [ih (acc ++ [D.str p.1]) (fun x hx => h x (List.mem_cons_of_mem _ hx)) (by rw [List.length_append]; simp only [List.length_cons, List.length_nil]; omega)]
        rw [List.filter_cons_of_pos (by exact e), List.map_cons, List.append_assoc]; rfl
      | false =>
        rw [if_neg (by decide)]
        show lcL ok _ _ acc S = _
        rw [ih acc (fun x hx => h x (List.mem_cons_of_mem _ hx)) (by omega), List.filter_cons_of_neg (by rw [e]; decide)]
  have := gen ps [] h (by simp; omega)
  rw [List.nil_append] at this
  exact this
theorem ixK0 {d : D} {l : List D} {S : Sg} : opIx (.p (.lst (d :: l))) (.p (.int 0)) S = .ok (.p d) S := by rw [opIx_l, ixK_0]
theorem opAdd_sx {a b : Str} {S : Sg} (h : a.length + b.length ≤ 1000000) : opAdd (.p (.str a)) (.p (.str b)) S = .ok (.p (.str (a ++ b))) S := by
  have : a.length + b.length ≤ sizeLine := Nat.le_trans h (by rw [sizeLine_eq]; decide)
  show (if a.length + b.length ≤ sizeLine then Res.ok (R.p (.str (a ++ b))) S else .bad) = _
  rw [if_pos this]
end Lib

set_option Elab.async false
set_option linter.all false
set_option maxRecDepth 100000
set_option exponentiation.threshold 2000
set_option maxHeartbeats 2000000
namespace Lib
open PySem PySem.Spec PyProof.Rows L2 Dd
/-! what is shown, refused -/
section
variable {ls : List (List Int)} {k : Int}
end
theorem isN_x {k : Nat} {f : D} {S : Sg} : isNK (.p (.exn k f)) S = .ok (.p (.bl false)) S := Eq.trans rfl rfl
theorem toPyL_strs : ∀ l : List Str, toPyL (l.map D.str) = some (l.map PyData.str)
  | [] => rfl
  | a :: r => by
    show toPyL (D.str a :: r.map D.str) = _
    unfold toPyL
    rw [toPyL_strs r]
    simp only [toPy]
    rfl
theorem canLay_strs : ∀ l : List Str, (∀ s ∈ l, PyData.strOk s = true) → PyData.canLayAll0 (l.map PyData.str) = true
  | [], _ => rfl
  | a :: r, h => by
    show (PyData.strOk a && PyData.canLayAll0 (r.map PyData.str)) = true
    rw [h a List.mem_cons_self, canLay_strs r fun s hs => h s (List.mem_cons_of_mem _ hs)]; rfl
theorem depth_strs : ∀ l : List Str, PyData.depthAll (l.map PyData.str) = 0
  | [] => rfl
  | a :: r => by
    show max 0 (PyData.depthAll (r.map PyData.str)) = 0
    rw [depth_strs r]; rfl
theorem shaped_strs {l : List Str} (h : ∀ s ∈ l, PyData.strOk s = true) : SeqAt.shaped (.list (l.map PyData.str)) = true := by
  show (PyData.canLayAll0 (l.map PyData.str) && decide (PyData.depthAll (l.map PyData.str) + 1 ≤ 64)) = true
  rw [canLay_strs l h, depth_strs]; rfl
theorem eqvAll_strs : ∀ l m : List Str, PyData.eqvAll (l.map PyData.str) (m.map PyData.str) = decide (l = m)
  | [], [] => rfl
  | [], m :: ms => by simp [PyData.eqvAll]
  | n :: ns, [] => by simp [PyData.eqvAll]
  | n :: ns, m :: ms => by
    show (PyData.eqv (.str n) (.str m) && PyData.eqvAll (ns.map PyData.str) (ms.map PyData.str)) = _
    rw [eqvAll_strs ns ms, eqv_str]
    by_cases h1 : n = m <;> by_cases h2 : ns = ms <;> simp [h1, h2]
theorem dataK_strs {l : List Str} : dataK (some (.mu (.lst (l.map D.str)))) = some (.list (l.map PyData.str)) := by rw [dataK_mu, toPyL_strs]; rfl
theorem mulK_rp {j : Nat} {x : D} {S : Sg} (hj : j ≤ 100) : mulK (j : Int) S (some [x]) = .ok (.r S.st.length) ⟨S.sl, S.st ++ [.mu (.lst (List.replicate j x))]⟩ := by
  unfold mulK
  have h : -(2 ^ 63) ≤ (j : Int) ∧ (j : Int) < 2 ^ 63 ∧ [x].length * (j : Int).toNat ≤ sizeLine := ⟨by omega, by omega, by
    rw [Int.toNat_natCast]
    exact Nat.le_trans (show 1 * j ≤ 100 by omega) (by rw [sizeLine_eq]; decide)⟩
  simp only
  rw [if_pos h, Int.toNat_natCast]
  have e : ∀ j : Nat, (List.replicate j [x]).flatten = List.replicate j x := fun j => by
    induction j with
    | zero => rfl
    | succ j ih => rw [List.replicate_succ, List.flatten_cons, ih]; rfl
  rw [e]
end Lib

set_option Elab.async false
set_option linter.all false
set_option maxRecDepth 100000
set_option exponentiation.threshold 2000
namespace Lib
open PySem PySem.Spec PyProof.Rows L2 Dd
/-! ### sums over stretches and windows -/
def sm : Nat → (Int → Int) → Int → Int
  | 0, _, _ => 0
  | n + 1, F, a => F a + sm n F (a + 1)
theorem sm_add (F : Int → Int) : ∀ (n m : Nat) (a : Int), sm (n + m) F a = sm n F a + sm m F (a + n)
  | 0, m, a => by rw [Nat.zero_add, show a + ((0 : Nat) : Int) = a by omega]; show _ = 0 + _; omega
  | n + 1, m, a => by
    have ih := sm_add F n m (a + 1)
    rw [show n + 1 + m = (n + m) + 1 by omega]
    show F a + sm (n + m) F (a + 1) = F a + sm n F (a + 1) + _
    rw [ih, show a + ((n + 1 : Nat) : Int) = a + 1 + (n : Int) by omega]
    omega
theorem sm_congr {F G : Int → Int} : ∀ (n : Nat) (a : Int), (∀ i : Int, a ≤ i → i < a + n → F i = G i) → sm n F a = sm n G a
  | 0, a, h => rfl
  | n + 1, a, h => by
    show F a + _ = G a + _
    rw [h a (by omega) (by omega), sm_congr n (a + 1) fun i h0 h1 => h i (by omega) (by omega)]
theorem sm_const (c : Int) : ∀ (n : Nat) (a : Int), sm n (fun _ => c) a = n * c
  | 0, a => by show (0 : Int) = _; simp
  | n + 1, a => by
    show c + sm n _ (a + 1) = _
    rw [sm_const c n, show ((n + 1 : Nat) : Int) = (n : Int) + 1 by omega, Int.add_mul, Int.one_mul]
    omega
theorem sm_mul (c : Int) (F : Int → Int) : ∀ (n : Nat) (a : Int), sm n (fun x => c * F x) a = c * sm n F a
  | 0, a => by show (0 : Int) = c * 0; simp
  | n + 1, a => by
    show c * F a + sm n _ (a + 1) = c * (F a + sm n F (a + 1))
    rw [sm_mul c F n, Int.mul_add]
theorem sm_plus (F G : Int → Int) : ∀ (n : Nat) (a : Int), sm n (fun x => F x + G x) a = sm n F a + sm n G a
  | 0, a => rfl
  | n + 1, a => by
    show F a + G a + sm n _ (a + 1) = (F a + sm n F (a + 1)) + (G a + sm n G (a + 1))
    rw [sm_plus F G n]; omega
theorem sm_shift (F : Int → Int) (d : Int) : ∀ (n : Nat) (a : Int), sm n (fun x => F (x + d)) a = sm n F (a + d)
  | 0, a => rfl
  | n + 1, a => by
    show F (a + d) + sm n _ (a + 1) = F (a + d) + sm n F (a + d + 1)
    rw [sm_shift F d n, show a + 1 + d = a + d + 1 by omega]
def sm2 (F : Int → Int → Int) (l t : Int) (w h : Nat) : Int := sm h (fun y => sm w (fun x => F x y) l) t
/-- is there a dot -/
def dt (ls : List (List Int)) (k : Int) (x y : Int) : Int := if thr ls x y < k then 1 else 0
/-! ### the spots of squares -/
/-- the stretches of spots: first, number, corners of each -/
def parts (f m r : Int) (s : Nat) : List (Int × Int × Int) :=
  if LO f r s = LO (f + m - 1) r s then [(LO f r s, 1, m)]
  else if LO (f + m - 1) r s - LO f r s > 1 then [(LO f r s, 1, r + LO f r s * 2 ^ s - f + 1), (LO (f + m - 1) r s, 1, f + m - 1 - r - (LO (f + m - 1) r s - 1) * 2 ^ s), (LO f r s + 1, LO (f + m - 1) r s - LO f r s - 1, 2 ^ s)]
  else [(LO f r s, 1, r + LO f r s * 2 ^ s - f + 1), (LO (f + m - 1) r s, 1, f + m - 1 - r - (LO (f + m - 1) r s - 1) * 2 ^ s)]
end Lib

set_option Elab.async false
set_option linter.all false
set_option maxRecDepth 100000
set_option exponentiation.threshold 2000
namespace Lib
open PySem PySem.Spec PyProof.Rows L2 Dd
/-! ### windows of spots, further out -/
/-! ### fuller_count: the walk -/
section
variable {f m r : Int} {s : Nat} (f0 : -(1000000000000000000000000000000 : Int) ≤ f) (f1 : f ≤ (1000000000000000000000000000000 : Int)) (m0 : 1 ≤ m) (m1 : m ≤ (1000000000000000000000000000000 : Int)) (hs : s ≤ 50) (r0 : 0 ≤ r) (r1 : r < 2 ^ s)
include f0 f1 m0 m1 hs r0 r1
end
section
variable {ls : List (List Int)} {k : Int} {j : Nat}
end
end Lib

set_option Elab.async false
set_option linter.all false
set_option maxRecDepth 100000
set_option exponentiation.threshold 2000
namespace Lib
open PySem PySem.Spec PyProof.Rows L2 Dd
/-! ### runs of turned screens; the best of all lines -/
theorem LongR.congr {Q Q' : Int → Bool} {r : Option Int} (h : LongR Q r) (e : ∀ x, Q' x = Q x) : LongR Q' r := by
  have : Q' = Q := funext e
  rw [this]; exact h
section
variable {ls : List (List Int)} {k : Int} (hp : Lvs ls) (k0 : 0 ≤ k) (k1 : k ≤ 4 ^ ls.length) (kd : Bool) (y : Int)
include hp k0 k1
end
def leO : Option Int → Option Int → Prop
  | _, none => True
  | none, some _ => False
  | some m, some n => m ≤ n
theorem leO.refl : ∀ a : Option Int, leO a a
  | none => trivial
  | some m => Int.le_refl m
theorem leO.trans : ∀ {a b c : Option Int}, leO a b → leO b c → leO a c
  | _, _, none, _, _ => trivial
  | none, none, some _, _, h => h.elim
  | none, some _, some _, h, _ => h.elim
  | some _, none, some _, _, h => h.elim
  | some m, some n, some p, h, k => Int.le_trans h k
section
variable {ls : List (List Int)} {k : Int} (hp : Lvs ls) (k0 : 0 ≤ k) (k1 : k ≤ 4 ^ ls.length) (kd : Bool)
include hp k0 k1
end
/-! squares and ranks over the diagonal -/
section
variable {ls : List (List Int)} {k : Int} (h50 : ls.length ≤ 50) (hp : Lvs ls) (k0 : 0 ≤ k) (k1 : k ≤ 4 ^ ls.length)
include h50 hp k0 k1
end
end Lib

set_option Elab.async false
set_option linter.all false
set_option maxRecDepth 100000
set_option exponentiation.threshold 2000
namespace Lib
open PySem PySem.Spec PyProof.Rows L2 Dd
/-! ### negatives -/
def neg (ls : List (List Int)) : List (List Int) := ls.map fun lv => lv.map fun n => 3 - n
/-! ### evenness -/
section
variable {ls : List (List Int)} {k : Int} (h50 : ls.length ≤ 50) (hp : Lvs ls) (k0 : 0 ≤ k) (k1 : k ≤ 4 ^ ls.length) {j : Nat} (hj : j ≤ ls.length)
include h50 hp k0 k1 hj
end
/-! ### squares at all places of a period -/
end Lib

set_option Elab.async false
set_option linter.all false
set_option maxRecDepth 100000
set_option exponentiation.threshold 2000
namespace Lib
open PySem PySem.Spec PyProof.Rows L2 Dd
/-! ### unlike places: plain -/
abbrev Cl := Int × Int × Nat
/-- is a place in a set -/
def ind (X Y : Int) (c : Cl) : Int := if X % 2 ^ c.2.2 = c.1 ∧ Y % 2 ^ c.2.2 = c.2.1 then 1 else 0
/-- the cell of a place at a level -/
def cs (X Y : Int) (s : Nat) : Nat := (X / 2 ^ s % 2 + 2 * (Y / 2 ^ s % 2)).toNat
/-- the kind of a number: dots 1, blanks 0, either 2 -/
def kn (g r n : Int) : Int := if n ≠ g ∨ r = 0 then (if n < g then 1 else 0) else 2
/-- does a place have a dot, by levels of which all ahead are the shade's -/
def has (ls : List (List Int)) (k X Y : Int) (s : Nat) : Bool := decide (thr ls (X / 2 ^ s) (Y / 2 ^ s) < k % 4 ^ ls.length)
/-- the kinds of a level's cells; blanks behind the last level -/
def kinds : List (List Int) → Int → List Int
  | [], _ => [0, 0, 0, 0]
  | lv :: r, k => lv.map (kn (k / 4 ^ r.length % 4) (k % 4 ^ r.length))
def kd (ls : List (List Int)) (k : Int) (c : Nat) : Int := (kinds ls k).getD c 0
end Lib

set_option Elab.async false
set_option linter.all false
set_option maxRecDepth 100000
set_option exponentiation.threshold 2000
namespace Lib
open PySem PySem.Spec PyProof.Rows L2 Dd
/-! ### unlike places: the walk -/
/-! bounds -/
def CellIn (c : Cl) : Prop := 0 ≤ c.1 ∧ c.1 < 2 ^ c.2.2 ∧ 0 ≤ c.2.1 ∧ c.2.1 < 2 ^ c.2.2 ∧ c.2.2 ≤ 50
theorem CellIn.ok {c : Cl} (h : CellIn c) : CellOk' 50 c := by
  obtain ⟨a, b, d, e, f⟩ := h
  have := pow_bd f
  exact ⟨a, by omega, d, by omega, f⟩
theorem flatL_ii {a b : Int} : flatL [.int a, .int b] = some [V.int a, V.int b] := Eq.trans rfl rfl
theorem inV_ii {k a b : Int} : inV (.int k) [V.int a, V.int b] = (decide (a = k) || decide (b = k)) := by
  show (eqV (.int a) (.int k) || (eqV (.int b) (.int k) || false)) = _
  rw [Bool.or_false]; rfl
theorem inK_ii {neg : Bool} {k a b : Int} {S : Sg} : inK neg (.int k) (some [.int a, .int b]) S = .ok (.p (.bl (if neg then !(decide (a = k) || decide (b = k)) else (decide (a = k) || decide (b = k))))) S := by
  rw [inK_ap flatL_ii, inV_ii]
section
variable {A B : List (List Int)} (hA : LvOk A) (hB : LvOk B) {k m : Int} (k0 : 0 ≤ k) (k1 : k ≤ 4 ^ A.length) (m0 : 0 ≤ m) (m1 : m ≤ 4 ^ B.length)
include hA hB k0 k1 m0 m1
end
end Lib

set_option Elab.async false
set_option linter.all false
set_option maxRecDepth 100000
set_option exponentiation.threshold 2000
namespace Lib
open PySem PySem.Spec PyProof.Rows L2 Dd
/-! ### unlike_count -/
/-- is a place unlike -/
def un (A : List (List Int)) (k : Int) (B : List (List Int)) (m : Int) (X Y : Int) : Int := if decide (thr A X Y < k) = decide (thr B X Y < m) then 0 else 1
section
variable {A B : List (List Int)} (hA : LvOk A) (hB : LvOk B) {k m : Int} (k0 : 0 ≤ k) (k1 : k ≤ 4 ^ A.length) (m0 : 0 ≤ m) (m1 : m ≤ 4 ^ B.length)
include hA hB k0 k1 m0 m1
end
end Lib

set_option Elab.async false
set_option linter.all false
set_option maxRecDepth 100000
set_option exponentiation.threshold 2000
namespace Lib
open PySem PySem.Spec PyProof.Rows L2 Dd
/-! ### the law's own dots of a window; places; small windows -/
end Lib

set_option Elab.async false
set_option linter.all false
set_option maxRecDepth 100000
set_option exponentiation.threshold 2000
namespace Lib
open PySem PySem.Spec PyProof.Rows L2 Dd
end Lib

set_option Elab.async false
set_option linter.all false
set_option maxRecDepth 100000
set_option exponentiation.threshold 2000
namespace Lib
open PySem PySem.Spec PyProof.Rows L2 Dd
/-! ### first_unlike: plain -/
/-- the first place with a property in a window -/
def IsFst (U : Int → Int → Prop) (l t w h : Int) (o : Option (Int × Int)) : Prop := match o with
  | none => ∀ x y, l ≤ x → x < l + w → t ≤ y → y < t + h → ¬ U x y
  | some p => l ≤ p.1 ∧ p.1 < l + w ∧ t ≤ p.2 ∧ p.2 < t + h ∧ U p.1 p.2 ∧ ∀ x y, l ≤ x → x < l + w → t ≤ y → y < t + h → U x y → p.2 < y ∨ (p.2 = y ∧ p.1 ≤ x)
section
variable {A B : List (List Int)} (hA : LvOk A) (hB : LvOk B) {k m : Int} (k0 : 0 ≤ k) (k1 : k ≤ 4 ^ A.length) (m0 : 0 ≤ m) (m1 : m ≤ 4 ^ B.length)
include hA hB k0 k1 m0 m1
end
section
variable {A B : List (List Int)} (hA : LvOk A) (hB : LvOk B) {k m : Int} (k0 : 0 ≤ k) (k1 : k ≤ 4 ^ A.length) (m0 : 0 ≤ m) (m1 : m ≤ 4 ^ B.length)
include hA hB k0 k1 m0 m1
end
end Lib

set_option Elab.async false
set_option linter.all false
set_option maxRecDepth 100000
set_option exponentiation.threshold 2000
set_option maxHeartbeats 2000000
namespace Lib
open PySem PySem.Spec PyProof.Rows L2 Dd
/-! the names of exceptions, told in another sequence (_law_class of k34) -/
theorem class_w {k : Nat} (h1 : 108 ≤ k) (h2 : k ≤ 119) (st : Store) : s_z_law_class_v2 [.p (.exn k .non)] st = .ok (.val (.str (xnm k))) st := by
  have hk : 100 ≤ k ∧ k ≤ 119 := by omega
  unfold s_z_law_class_v2 b_z_law_class_v2
  simp! [isX_ap, isXK_n hk, opAdd_pr, catK_ap]
  obtain ⟨ps, hps⟩ : ∃ ps : List (Str × Bool), ps = [(Str.ofString "InvalidLevels", xsub k 101), (Str.ofString "InvalidPlates", xsub k 102), (Str.ofString "InvalidConditions", xsub k 103), (Str.ofString "InvalidSeen", xsub k 104), (Str.ofString "InvalidText", xsub k 105), (Str.ofString "TooDeep", xsub k 106), (Str.ofString "OverInk", xsub k 107),
    (Str.ofString "InvalidScreen", xsub k 108), (Str.ofString "InvalidShade", xsub k 109), (Str.ofString "Nothing", xsub k 118), (Str.ofString "InvalidWindow", xsub k 110), (Str.ofString "InvalidPlace", xsub k 111), (Str.ofString "InvalidSide", xsub k 112), (Str.ofString "InvalidKind", xsub k 113), (Str.ofString "InvalidRows", xsub k 115),
    (Str.ofString "InvalidNumber", xsub k 114), (Str.ofString "InvalidLimit", xsub k 116), (Str.ofString "InvalidOperation", xsub k 117), (Str.ofString "InvalidCommand", xsub k 119)] := ⟨_, rfl⟩
  have e1 : ([D.tup [.str (Str.ofString "InvalidLevels"), .bl (xsub k 101)], .tup [.str (Str.ofString "InvalidPlates"), .bl (xsub k 102)], .tup [.str (Str.ofString "InvalidConditions"), .bl (xsub k 103)], .tup [.str (Str.ofString "InvalidSeen"), .bl (xsub k 104)],
    .tup [.str (Str.ofString "InvalidText"), .bl (xsub k 105)], .tup [.str (Str.ofString "TooDeep"), .bl (xsub k 106)], .tup [.str (Str.ofString "OverInk"), .bl (xsub k 107)], .tup [.str (Str.ofString "InvalidScreen"), .bl (xsub k 108)], .tup [.str (Str.ofString "InvalidShade"), .bl (xsub k 109)],
    .tup [.str (Str.ofString "Nothing"), .bl (xsub k 118)], .tup [.str (Str.ofString "InvalidWindow"), .bl (xsub k 110)], .tup [.str (Str.ofString "InvalidPlace"), .bl (xsub k 111)], .tup [.str (Str.ofString "InvalidSide"), .bl (xsub k 112)], .tup [.str (Str.ofString "InvalidKind"), .bl (xsub k 113)], .tup [.str (Str.ofString "InvalidRows"), .bl (xsub k 115)],
    .tup [.str (Str.ofString "InvalidNumber"), .bl (xsub k 114)], .tup [.str (Str.ofString "InvalidLimit"), .bl (xsub k 116)], .tup [.str (Str.ofString "InvalidOperation"), .bl (xsub k 117)], .tup [.str (Str.ofString "InvalidCommand"), .bl (xsub k 119)]] : List D) = ps.map fun p => D.tup [.str p.1, .bl p.2] := by
    rw [hps]; rfl
  have e2 : ps.length ≤ 1000 := by rw [hps]; simp
  have e3 : ps.filter (·.2) = [(xnm k, true)] := by
    rw [hps]
    rcases (by omega : k = 108 ∨ k = 109 ∨ k = 110 ∨ k = 111 ∨ k = 112 ∨ k = 113 ∨ k = 114 ∨ k = 115 ∨ k = 116 ∨ k = 117 ∨ k = 118 ∨ k = 119) with rfl | rfl | rfl | rfl | rfl | rfl | rfl | rfl | rfl | rfl | rfl | rfl <;> decide +kernel
  have n6 : inV (.str (xnm k)) [.str (Str.ofString "InvalidPlates"), .str (Str.ofString "InvalidSeen")] = false := by
    rcases (by omega : k = 108 ∨ k = 109 ∨ k = 110 ∨ k = 111 ∨ k = 112 ∨ k = 113 ∨ k = 114 ∨ k = 115 ∨ k = 116 ∨ k = 117 ∨ k = 118 ∨ k = 119) with rfl | rfl | rfl | rfl | rfl | rfl | rfl | rfl | rfl | rfl | rfl | rfl <;> decide +kernel
  have n7 : ∀ S : Sg, inK false (.str (xnm k)) (some [D.str (Str.ofString "InvalidPlates"), D.str (Str.ofString "InvalidSeen")]) S = .ok (.p (.bl false)) S := fun S => by
    rw [inK_ap (vs := [.str (Str.ofString "InvalidPlates"), .str (Str.ofString "InvalidSeen")]) rfl, n6]; rfl
  have n8 : ∀ S : Sg, opAdd (.p (.str (xnm k))) (.p (.str (Str.ofString ""))) S = .ok (.p (.str (xnm k))) S := fun S => by
    have l : (xnm k).length + (Str.ofString "").length ≤ 1000000 := by
      rcases (by omega : k = 108 ∨ k = 109 ∨ k = 110 ∨ k = 111 ∨ k = 112 ∨ k = 113 ∨ k = 114 ∨ k = 115 ∨ k = 116 ∨ k = 117 ∨ k = 118 ∨ k = 119) with rfl | rfl | rfl | rfl | rfl | rfl | rfl | rfl | rfl | rfl | rfl | rfl <;> decide +kernel
    have a : xnm k ++ Str.ofString "" = xnm k := by
      rcases (by omega : k = 108 ∨ k = 109 ∨ k = 110 ∨ k = 111 ∨ k = 112 ∨ k = 113 ∨ k = 114 ∨ k = 115 ∨ k = 116 ∨ k = 117 ∨ k = 118 ∨ k = 119) with rfl | rfl | rfl | rfl | rfl | rfl | rfl | rfl | rfl | rfl | rfl | rfl <;> decide +kernel
    rw [opAdd_sx l, a]
  rw [e1]
  rw [lc_pairs (by first | trivial | simp! []) ps e2 (fun p _ => by
    rw [lcBT_t (by rfl)]
    cases hp : p.2 <;> simp! [setS, lcbK, hp])]
  simp! [lcFin_ok, e3, sPur_ap, isVE_ap, isVK_n hk, ixK0, n7, n8]
/-! values that are none, as the laws list them -/
theorem pw30 (S : Sg) : opPow (.p (.int 10)) (.p (.int 30)) S = .ok (.p (.int (1000000000000000000000000000000 : Int))) S := by rw [opPow_i (by decide)]; rfl
theorem pw40 (S : Sg) : opPow (.p (.int 10)) (.p (.int 40)) S = .ok (.p (.int 10000000000000000000000000000000000000000)) S := by rw [opPow_i (by decide)]; rfl
theorem pw60 (S : Sg) : opPow (.p (.int 10)) (.p (.int 60)) S = .ok (.p (.int 1000000000000000000000000000000000000000000000000000000000000)) S := by rw [opPow_i (by decide)]; rfl
theorem finR {st Z : Store} {k : Nat} {o : Con} (h : Z[k]? = some (.mu o)) : finishR st.length (st ++ Z) (.r (st.length + k)) = .ok (.new o) st := by
  rw [finishR_mu (o := o) (by rw [List.getElem?_append_right (by omega)]; rw [Nat.add_sub_cancel_left]; exact h) (by omega), List.take_left]
/-- .. no windows -/
def badW0 : List D := [.non, .int 0, .bl true, .str (Str.ofString ""), .str (Str.ofString "0 0 1 1"), .tup [], .lst [], .edct, .tup [.int 0, .int 0, .int 1], .tup [.int 0, .int 0, .int 1, .int 1, .int 1], .lst [.int 0, .int 0, .int 1, .int 1], .int 10000000000000000000000000000000000000000]
def badN : List D := [.non, .bl true, .str (Str.ofString "1"), .lst [.int 1], .int ((1000000000000000000000000000000 : Int) + 1), .int 1000000000000000000000000000000000000000000000000000000000000]
def badW1 (d : D) : List D := [.tup [d, .int 0, .int 1, .int 1], .tup [.int 0, d, .int 1, .int 1], .tup [.int 0, .int 0, d, .int 1], .tup [.int 0, .int 0, .int 1, d]]
def badW2 : List D := [.tup [.int (-((1000000000000000000000000000000 : Int) + 1)), .int 0, .int 1, .int 1], .tup [.int 0, .int (-((1000000000000000000000000000000 : Int) + 1)), .int 1, .int 1], .tup [.int 0, .int 0, .int 0, .int 1], .tup [.int 0, .int 0, .int 1, .int 0], .tup [.int 0, .int 0, .int (-1), .int 1], .tup [.int 0, .int 0, .int 1, .int (-1)]]
def badW : List D := badW0 ++ (badN.map badW1).flatten ++ badW2
theorem badW_ok {d : D} (hd : d ∈ badW) : okD d = true ∧ okT d = true ∧ wndD d = false := by
  have h : badW.all (fun d => okD d && okT d && !wndD d) = true := by decide +kernel
  have := List.all_eq_true.mp h d hd
  simp only [Bool.and_eq_true, Bool.not_eq_true'] at this
  exact ⟨this.1.1, this.1.2, this.2⟩
theorem bad_windows_i (st : Store) : s_z_law_bad_windows [] st = .ok (.new (.lst badW)) st := by
  refine fin_eq ?_
  unfold s_z_law_bad_windows b_z_law_bad_windows
  simp! [bnd_bnd, edE_ap, pureC_dct, pw40, pw30, pw60]
  refine wpf_bnd (wp_loop (I := fun j S => ∃ Z s1, S = ⟨[some (.p (.lst (badW0 ++ ((badN.take j).map badW1).flatten))), s1, none], st ++ Z⟩) ⟨_, _, rfl⟩ (fun _ _ _ => trivial) ?_ ?_)
  · rintro j d S hj ⟨Z, s1, rfl⟩
    have hl : j < 6 := (List.getElem?_eq_some_iff.mp hj).1
    have e : badN.take (j + 1) = badN.take j ++ [d] := by
      rw [List.take_add_one, show badN[j]? = some d from hj]; rfl
    have l : (badW0 ++ ((badN.take j).map badW1).flatten).length + (badW1 d).length ≤ 1000 := by
      have : ∀ j : Fin 6, (badW0 ++ ((badN.take j.1).map badW1).flatten).length ≤ 900 := by decide +kernel
      exact Nat.le_trans (Nat.add_le_add_right (this ⟨j, hl⟩) 4) (by decide)
    have ad : ∀ (m : Nat) (S : Sg), S.st[m]? = some (.mu (.lst [.tup [d, .int 0, .int 1, .int 1], .tup [.int 0, d, .int 1, .int 1], .tup [.int 0, .int 0, d, .int 1], .tup [.int 0, .int 0, .int 1, d]])) →
        opAdd (.p (.lst (badW0 ++ ((badN.take j).map badW1).flatten))) (.r m) S = .ok (.r S.st.length) ⟨S.sl, S.st ++ [.mu (.lst (badW0 ++ ((badN.take (j + 1)).map badW1).flatten))]⟩ := fun m S h => by
      rw [opAdd_pr, h]
      have := catK_ap (S := S) l
      rw [show getLK (some (Cell.mu (Con.lst [.tup [d, .int 0, .int 1, .int 1], .tup [.int 0, d, .int 1, .int 1], .tup [.int 0, .int 0, d, .int 1], .tup [.int 0, .int 0, .int 1, d]]))) = some (badW1 d) from rfl, this, e]
      simp only [List.map_append, List.flatten_append, List.append_assoc, List.map_cons, List.map_nil, List.flatten_cons, List.flatten_nil, List.append_nil]
    rw [bind_bnd]
    simp! [bnd_bnd, ad]
    exact wp_ok ⟨_, _, rfl⟩
  rintro S ⟨Z, s1, rfl⟩
  have ad : ∀ (m : Nat) (S : Sg), S.st[m]? = some (.mu (.lst badW2)) → opAdd (.p (.lst (badW0 ++ ((badN.take 6).map badW1).flatten))) (.r m) S = .ok (.r S.st.length) ⟨S.sl, S.st ++ [.mu (.lst badW)]⟩ := fun m S h => by
    rw [opAdd_pr, h, show getLK (some (Cell.mu (Con.lst badW2))) = some badW2 from rfl, catK_ap (by decide +kernel)]
    rfl
  have ad2 := ad
  unfold badW2 at ad2
  simp! [bnd_bnd, pw30, ad2]
  refine ⟨_, _, finishR_mu (o := .lst badW) (by simp) (by simp), rfl, by simp⟩
end Lib

set_option Elab.async false
set_option linter.all false
set_option maxRecDepth 100000
set_option maxHeartbeats 2000000
namespace Dd
open PySem PySem.Spec PyProof.Rows L2
theorem sRaiseF_ap (k : Nat) (f : M R) (S : Sg) : sRaiseF k f S = (f S).bnd fun x S => (pure1 x S).bnd fun d S => .exc ⟨k, d⟩ S :=
  (bind_bnd _ _ _).trans (bnd_ext fun x S1 => (bind_bnd _ _ _).trans (bnd_ext fun d S2 => rfl))
def attXK (n : Str) (x : R) (S : Sg) : Res R := match x with
  | .p (.exn k y) => if 101 ≤ k ∧ k ≤ 107 ∧ fldN k = n then .ok (.p y) S else .bad
  | _ => .bad
theorem attX_ap (n : Str) (f : M R) (S : Sg) : attX n f S = (f S).bnd (attXK n) :=
  (bind_bnd _ _ _).trans (bnd_ext fun x S1 => by
    cases x with
    | r n => rfl
    | p d => cases d <;> rfl)
theorem attXK_n {n : Str} {k : Nat} {y : D} {S : Sg} (h : 101 ≤ k ∧ k ≤ 107 ∧ fldN k = n) : attXK n (.p (.exn k y)) S = .ok (.p y) S := if_pos h
end Dd
namespace Lib
open PySem PySem.Spec PyProof.Rows L2 Dd
end Lib

set_option Elab.async false
set_option linter.all false
set_option maxRecDepth 100000
set_option exponentiation.threshold 2000
namespace Lib
open PySem PySem.Spec PyProof.Rows L2 Dd
/-! ### nth_of: the walk, two searches by halving -/
section
variable {ls : List (List Int)} {k : Int}
end
end Lib

set_option Elab.async false
set_option linter.all false
set_option maxRecDepth 100000
set_option exponentiation.threshold 2000
namespace Lib
open PySem PySem.Spec PyProof.Rows L2 Dd
/-! ### the first place of a listing -/
theorem IsFst.congr {U V : Int → Int → Prop} (e : ∀ x y, U x y ↔ V x y) {l t w h : Int} {o : Option (Int × Int)} (a : IsFst U l t w h o) : IsFst V l t w h o := by
  have : U = V := funext fun x => funext fun y => propext (e x y)
  rw [← this]; exact a
section
variable {A B : List (List Int)} (hA : LvOk A) (hB : LvOk B) {k m : Int} (k0 : 0 ≤ k) (k1 : k ≤ 4 ^ A.length) (m0 : 0 ≤ m) (m1 : m ≤ 4 ^ B.length)
include hA hB k0 k1 m0 m1
end
end Lib

set_option Elab.async false
set_option linter.all false
set_option maxRecDepth 100000
set_option exponentiation.threshold 2000
namespace Lib
open PySem PySem.Spec PyProof.Rows L2 Dd
section
variable {ls : List (List Int)} {k l t w h n : Int}
end
end Lib

set_option Elab.async false
set_option linter.all false
set_option maxRecDepth 100000
set_option exponentiation.threshold 2000
namespace Lib
open PySem PySem.Spec PyProof.Rows L2 Dd
/-! ### screens one upon the other -/
section
variable {a b : List (List Int)} (ha : LvOk a) (hb : LvOk b)
include ha hb
section
variable {k : Int} (k0 : 0 ≤ k) (k1 : k ≤ 4 ^ a.length)
include k0 k1
end
end
end Lib

set_option Elab.async false
set_option linter.all false
set_option maxRecDepth 100000
set_option exponentiation.threshold 2000
namespace Lib
open PySem PySem.Spec PyProof.Rows L2 Dd
theorem sm_zeroF {F : Int → Int} (n : Nat) (a : Int) (h : ∀ i : Int, a ≤ i → i < a + n → F i = 0) : sm n F a = 0 := by
  rw [sm_congr (G := fun _ => 0) n a h, sm_const, Int.mul_zero]
section
variable {ls : List (List Int)} {k : Int} {j : Nat} {l t w h : Int}
end
section
variable {ls : List (List Int)} {k : Int}
end
end Lib

set_option Elab.async false
set_option linter.all false
set_option maxRecDepth 100000
set_option exponentiation.threshold 2000
namespace Lib
open PySem PySem.Spec PyProof.Rows L2 Dd
/-! ### counting by digits: the plain law of tally -/
section
variable {K : Type} [DecidableEq K]
/-- d[k] = d.get(k, 0) + v -/
def tAdd : List (K × Int) → K → Int → List (K × Int)
  | [], k, v => [(k, v)]
  | (j, u) :: r, k, v => if j = k then (j, u + v) :: r else (j, u) :: tAdd r k v
/-- d.get(k, 0) -/
def tGet : List (K × Int) → K → Int
  | [], _ => 0
  | (j, u) :: r, k => if j = k then u else tGet r k
/-- a weighted sum over a dict -/
def tW (f : K → Int) : List (K × Int) → Int
  | [] => 0
  | (j, u) :: r => u * f j + tW f r
theorem tW_add (f : K → Int) (k : K) (v : Int) : ∀ d : List (K × Int), tW f (tAdd d k v) = tW f d + v * f k
  | [] => by show v * f k + 0 = 0 + v * f k; omega
  | (j, u) :: r => by
    unfold tAdd
    by_cases h : j = k
    · rw [if_pos h]
      subst h
      show (u + v) * f j + tW f r = u * f j + tW f r + v * f j
      rw [Int.add_mul]; omega
    · rw [if_neg h]
      show u * f j + tW f (tAdd r k v) = u * f j + tW f r + v * f k
      rw [tW_add f k v r]; omega
def tKeys (d : List (K × Int)) : List K := d.map Prod.fst
theorem tAdd_keys (k : K) (v : Int) : ∀ d : List (K × Int), tKeys (tAdd d k v) = if k ∈ tKeys d then tKeys d else tKeys d ++ [k]
  | [] => by simp [tAdd, tKeys]
  | (j, u) :: r => by
    unfold tAdd
    by_cases h : j = k
    · rw [if_pos h, if_pos (by subst h; simp [tKeys])]; rfl
    · rw [if_neg h]
      have ih := tAdd_keys k v r
      have ek : tKeys ((j, u) :: r) = j :: tKeys r := rfl
      rw [ek]
      show j :: tKeys (tAdd r k v) = _
      rw [ih]
      by_cases m : k ∈ tKeys r
      · rw [if_pos m, if_pos (List.mem_cons_of_mem _ m)]
      · rw [if_neg m, if_neg (fun z => by
          rcases List.mem_cons.mp z with z | z
          · exact h z.symm
          · exact m z)]; rfl
theorem tAdd_nodup {k : K} {v : Int} {d : List (K × Int)} (h : (tKeys d).Nodup) : (tKeys (tAdd d k v)).Nodup := by
  rw [tAdd_keys]
  split
  · exact h
  · rename_i m
    exact List.nodup_append.mpr ⟨h, by simp, fun a ha b hb e => by
      rw [List.mem_singleton.mp hb] at e
      exact m (e ▸ ha)⟩
end
/-! sums over digits -/
theorem sm_double (F : Int → Int) (s : Nat) : sm (2 ^ (s + 1)) F 0 = sm (2 ^ s) (fun x => F x + F (x + 2 ^ s)) 0 := by
  have a := sm_add F (2 ^ s) (2 ^ s) 0
  rw [Nat.pow_succ, Nat.mul_two, a, sm_plus, sm_shift F (2 ^ s)]
  simp
theorem sm_perN (F : Int → Int) (P : Nat) (hF : ∀ x, F (x + P) = F x) : ∀ (a : Nat) (l : Int), sm (a * P) F l = a * sm P F l
  | 0, l => by rw [Nat.zero_mul]; show (0 : Int) = _; simp
  | a + 1, l => by
    have e : ∀ b : Nat, ∀ x, F (x + ((b * P : Nat) : Int)) = F x := fun b => by
      induction b with
      | zero => intro x; rw [Nat.zero_mul, show x + ((0 : Nat) : Int) = x by omega]
      | succ b ih => intro x; rw [Nat.succ_mul, show x + ((b * P + P : Nat) : Int) = x + ((b * P : Nat) : Int) + P by omega, hF, ih]
    rw [Nat.succ_mul, sm_add, sm_perN F P hF a l, ← sm_shift F ((a * P : Nat) : Int), sm_congr (G := F) P l fun i _ _ => e a i, show ((a + 1 : Nat) : Int) = (a : Int) + 1 by omega, Int.add_mul, Int.one_mul]
theorem sm_cut (F : Int → Int) (r : Nat) : ∀ (P : Nat) (l : Int), r ≤ P → sm P (fun x => if x < l + r then F x else 0) l = sm r F l := fun P l h => by
  obtain ⟨d, rfl⟩ : ∃ d, P = r + d := ⟨P - r, by omega⟩
  rw [sm_add]
  have e1 : sm r (fun x => if x < l + r then F x else 0) l = sm r F l := sm_congr r l fun x _ h => if_pos h
  have e2 : sm d (fun x => if x < l + r then F x else 0) (l + r) = 0 := sm_zeroF d _ fun x h _ => if_neg (by omega)
  rw [e1, e2]; omega
/-- a window's places by their last digits -/
theorem sm_fold (F : Int → Int) (P : Nat) (hP : 0 < P) (hF : ∀ x, F (x + P) = F x) (w : Nat) : sm w F 0 = sm P (fun x => ((w / P : Nat) + (if x < ((w % P : Nat) : Int) then 1 else 0)) * F x) 0 := by
  have e : w = w / P * P + w % P := by rw [Nat.mul_comm]; exact (Nat.div_add_mod w P).symm
  have sh : ∀ b : Nat, ∀ x, F (x + ((b * P : Nat) : Int)) = F x := fun b => by
    induction b with
    | zero => intro x; rw [Nat.zero_mul, show x + ((0 : Nat) : Int) = x by omega]
    | succ b ih => intro x; rw [Nat.succ_mul, show x + ((b * P + P : Nat) : Int) = x + ((b * P : Nat) : Int) + P by omega, hF, ih]
  have t1 : sm w F 0 = (w / P : Nat) * sm P F 0 + sm (w % P) F 0 := by
    have := sm_add F (w / P * P) (w % P) 0
    rw [← e, sm_perN F P hF (w / P) 0] at this
    rw [this, ← sm_shift F, sm_congr (G := F) (w % P) 0 fun x _ _ => sh (w / P) x]
  have t2 : sm P (fun x => ((w / P : Nat) + (if x < ((w % P : Nat) : Int) then 1 else 0)) * F x) 0 = sm P (fun x => (w / P : Nat) * F x + (if x < 0 + ((w % P : Nat) : Int) then F x else 0)) 0 := sm_congr P 0 fun x _ _ => by
    rw [Int.add_mul, Int.zero_add]
    split <;> simp
  rw [t1, t2, sm_plus, sm_mul, sm_cut F (w % P) P 0 (Nat.le_of_lt (Nat.mod_lt w hP))]
/-! ### states by digits -/
section
variable {K : Type} [DecidableEq K]
/-- a value if there is a key -/
def oV (f : K → Int) : Option K → Int
  | some k => f k
  | none => 0
/-- later[key] = later.get(key, 0) + times, where the key may be -/
def tPut (d : List (K × Int)) (o : Option K) (v : Int) : List (K × Int) := match o with
  | some k => tAdd d k v
  | none => d
theorem tW_put (f : K → Int) (o : Option K) (v : Int) (d : List (K × Int)) : tW f (tPut d o v) = tW f d + v * oV f o := by
  cases o with
  | none => show tW f d = tW f d + v * 0; omega
  | some k => exact tW_add f k v d
theorem tPut_nodup {o : Option K} {v : Int} {d : List (K × Int)} (h : (tKeys d).Nodup) : (tKeys (tPut d o v)).Nodup := by
  cases o with
  | none => exact h
  | some k => exact tAdd_nodup h
/-- one more digit of x and of y -/
def tFour (st : K → Int → Int → Option K) (acc : List (K × Int)) (p : K × Int) : List (K × Int) :=
  tPut (tPut (tPut (tPut acc (st p.1 0 0) p.2) (st p.1 0 1) p.2) (st p.1 1 0) p.2) (st p.1 1 1) p.2
def tStep (st : K → Int → Int → Option K) (d : List (K × Int)) : List (K × Int) := d.foldl (tFour st) []
def oFour (f : K → Int) (st : K → Int → Int → Option K) (k : K) : Int := oV f (st k 0 0) + oV f (st k 0 1) + oV f (st k 1 0) + oV f (st k 1 1)
theorem tW_four (f : K → Int) (st : K → Int → Int → Option K) (acc : List (K × Int)) (p : K × Int) : tW f (tFour st acc p) = tW f acc + p.2 * oFour f st p.1 := by
  unfold tFour oFour
  rw [tW_put, tW_put, tW_put, tW_put, Int.mul_add, Int.mul_add, Int.mul_add]
  omega
theorem tW_fold (f : K → Int) (st : K → Int → Int → Option K) : ∀ (d acc : List (K × Int)), tW f (d.foldl (tFour st) acc) = tW f acc + tW (oFour f st) d
  | [], acc => by show tW f acc = tW f acc + 0; omega
  | p :: d, acc => by
    show tW f (d.foldl (tFour st) (tFour st acc p)) = _
    rw [tW_fold f st d, tW_four]
    show _ = tW f acc + (p.2 * oFour f st p.1 + tW (oFour f st) d)
    omega
theorem tW_step (f : K → Int) (st : K → Int → Int → Option K) (d : List (K × Int)) : tW f (tStep st d) = tW (oFour f st) d := by
  unfold tStep
  rw [tW_fold]
  show (0 : Int) + _ = _
  omega
/-- the states behind so many digits -/
def tRun (st : Nat → K → Int → Int → Option K) (k0 : K) : Nat → List (K × Int)
  | 0 => [(k0, 1)]
  | s + 1 => tStep (st s) (tRun st k0 s)
/-- the state of one place -/
def kRun (st : Nat → K → Int → Int → Option K) (k0 : K) : Nat → Int → Int → Option K
  | 0, _, _ => some k0
  | s + 1, x, y => match kRun st k0 s x y with
    | some k => st s k (x / 2 ^ s % 2) (y / 2 ^ s % 2)
    | none => none
def kNx (f : K → Int → Int → Option K) (o : Option K) (a b : Int) : Option K := match o with
  | some k => f k a b
  | none => none
theorem kRun_s (st : Nat → K → Int → Int → Option K) (k0 : K) (s : Nat) (x y : Int) : kRun st k0 (s + 1) x y = kNx (st s) (kRun st k0 s x y) (x / 2 ^ s % 2) (y / 2 ^ s % 2) := rfl
theorem bit_low {x a : Int} {i s : Nat} (h : i < s) : (x + a * 2 ^ s) / 2 ^ i % 2 = x / 2 ^ i % 2 := by
  obtain ⟨d, rfl⟩ : ∃ d, s = i + 1 + d := ⟨s - i - 1, by omega⟩
  have e : a * (2 : Int) ^ (i + 1 + d) = 2 * (a * 2 ^ d) * 2 ^ i := by
    rw [Int.pow_add, Int.pow_succ]
    simp only [Int.mul_assoc, Int.mul_comm, Int.mul_left_comm]
  have p := two_pos i
  rw [e, Int.add_mul_ediv_right _ _ (by omega)]
  omega
theorem kRun_low (st : Nat → K → Int → Int → Option K) (k0 : K) (x y a b : Int) (n : Nat) : ∀ s : Nat, s ≤ n → kRun st k0 s (x + a * 2 ^ n) (y + b * 2 ^ n) = kRun st k0 s x y
  | 0, _ => rfl
  | s + 1, h => by
    rw [kRun_s, kRun_s, kRun_low st k0 x y a b n s (by omega), bit_low (show s < n by omega), bit_low (show s < n by omega)]
theorem bit_top {x : Int} {s : Nat} (h0 : 0 ≤ x) (h1 : x < 2 ^ s) : x / 2 ^ s % 2 = 0 ∧ (x + 2 ^ s) / 2 ^ s % 2 = 1 := by
  have p := two_pos s
  have e := Int.add_mul_ediv_right x 1 (show (2 : Int) ^ s ≠ 0 by omega)
  rw [Int.one_mul] at e
  rw [e, Int.ediv_eq_zero_of_lt h0 h1]
  exact ⟨rfl, rfl⟩
/-- THE COUNT: a weighted sum over the states is one over the places -/
theorem tRun_W (st : Nat → K → Int → Int → Option K) (k0 : K) : ∀ (s : Nat) (f : K → Int), tW f (tRun st k0 s) = sm (2 ^ s) (fun y => sm (2 ^ s) (fun x => oV f (kRun st k0 s x y)) 0) 0
  | 0, f => by
    show 1 * f k0 + 0 = (f k0 + 0) + 0
    omega
  | s + 1, f => by
    show tW f (tStep (st s) (tRun st k0 s)) = _
    rw [tW_step, tRun_W st k0 s, sm_double]
    have c2 : ((2 ^ s : Nat) : Int) = 2 ^ s := by simp
    refine sm_congr _ _ fun y y0 y1 => ?_
    rw [sm_double, sm_double, ← sm_plus]
    refine sm_congr _ _ fun x x0 x1 => ?_
    rw [Int.zero_add, c2] at x1 y1
    obtain ⟨bx0, bx1⟩ := bit_top x0 x1
    obtain ⟨by0, by1⟩ := bit_top y0 y1
    have k1 := kRun_low st k0 x y 1 0 s s (Nat.le_refl _)
    have k2 := kRun_low st k0 x y 0 1 s s (Nat.le_refl _)
    have k3 := kRun_low st k0 x y 1 1 s s (Nat.le_refl _)
    rw [Int.one_mul, Int.zero_mul, Int.add_zero] at k1 k2
    rw [Int.one_mul] at k3
    simp only [kRun_s, k1, k2, k3, bx0, bx1, by0, by1]
    cases kRun st k0 s x y with
    | none => rfl
    | some k =>
      show oFour f (st s) k = _
      unfold oFour
      show _ = oV f (st s k 0 0) + oV f (st s k 1 0) + (oV f (st s k 0 1) + oV f (st s k 1 1))
      omega
end
end Lib

set_option Elab.async false
set_option linter.all false
set_option maxRecDepth 100000
set_option exponentiation.threshold 2000
namespace Lib
open PySem PySem.Spec PyProof.Rows L2 Dd
/-! ### one look: carries and the kind so far -/
def cmpD (n d : Int) : Int := if n = d then 2 else if n < d then 1 else 0
/-- 1 for a dot, 0 for none, 2 for the same -/
def kdL : List (List Int) → List Int → Int → Int → Int
  | lv :: ls, d :: ds, X, Y => if dg lv X Y = d then kdL ls ds (X / 2) (Y / 2) else cmpD (dg lv X Y) d
  | _, _, _, _ => 2
theorem kdL_app (lv : List Int) : ∀ (A : List (List Int)) (ds : List Int) (X Y : Int), A.length < ds.length → kdL (A ++ [lv]) ds X Y = if kdL A ds X Y = 2 then cmpD (dg lv (X / 2 ^ A.length) (Y / 2 ^ A.length)) (ds.getD A.length 0) else kdL A ds X Y
  | [], [], X, Y, h => by simp at h
  | [], d :: ds, X, Y, _ => by
    show (if dg lv X Y = d then 2 else cmpD (dg lv X Y) d) = if (2 : Int) = 2 then cmpD (dg lv (X / 2 ^ 0) (Y / 2 ^ 0)) d else 2
    rw [if_pos rfl, Int.pow_zero, Int.ediv_one, Int.ediv_one]
    unfold cmpD
    split <;> rfl
  | l :: A, [], X, Y, h => by simp at h
  | l :: A, d :: ds, X, Y, h => by
    have ih := kdL_app lv A ds (X / 2) (Y / 2) (by simpa using h)
    show (if dg l X Y = d then kdL (A ++ [lv]) ds (X / 2) (Y / 2) else cmpD (dg l X Y) d) = if (if dg l X Y = d then kdL A ds (X / 2) (Y / 2) else cmpD (dg l X Y) d) = 2 then cmpD (dg lv (X / 2 ^ (A.length + 1)) (Y / 2 ^ (A.length + 1))) (ds.getD A.length 0) else if dg l X Y = d then kdL A ds (X / 2) (Y / 2) else cmpD (dg l X Y) d
    have e : ∀ Z : Int, Z / 2 / 2 ^ A.length = Z / 2 ^ (A.length + 1) := fun Z => by
      rw [Int.ediv_ediv_of_nonneg (by decide), Int.pow_succ, Int.mul_comm]
    by_cases c : dg l X Y = d
    · rw [if_pos c, if_pos c, ih, e, e]
    · rw [if_neg c, if_neg c]
      have n2 : cmpD (dg l X Y) d ≠ 2 := by
        unfold cmpD; rw [if_neg c]; split <;> decide
      rw [if_neg n2]
def num4 : List Int → Int
  | [] => 0
  | d :: ds => d * 4 ^ ds.length + num4 ds
theorem num4_bd : ∀ {ds : List Int}, (∀ d ∈ ds, 0 ≤ d ∧ d < 4) → 0 ≤ num4 ds ∧ num4 ds < 4 ^ ds.length
  | [], _ => by show (0 : Int) ≤ 0 ∧ (0 : Int) < 4 ^ 0; decide
  | d :: ds, h => by
    obtain ⟨h1, h2⟩ := num4_bd (ds := ds) fun x hx => h x (by simp [hx])
    obtain ⟨d0, d1⟩ := h d (by simp)
    have p := four_pos ds.length
    have a : 0 ≤ d * 4 ^ ds.length := Int.mul_nonneg d0 (by omega)
    have b : d * 4 ^ ds.length ≤ 3 * 4 ^ ds.length := Int.mul_le_mul_of_nonneg_right (by omega) (by omega)
    show 0 ≤ d * 4 ^ ds.length + num4 ds ∧ d * 4 ^ ds.length + num4 ds < 4 ^ (ds.length + 1)
    rw [Int.pow_succ]; omega
theorem kdL_thr : ∀ (ls : List (List Int)) (ds : List Int) (X Y : Int), Lvs ls → ls.length = ds.length → (∀ d ∈ ds, 0 ≤ d ∧ d < 4) →
    (kdL ls ds X Y = 1 ↔ thr ls X Y < num4 ds) ∧ (kdL ls ds X Y = 2 ↔ thr ls X Y = num4 ds)
  | [], [], X, Y, _, _, _ => by
    show ((2 : Int) = 1 ↔ (0 : Int) < 0) ∧ ((2 : Int) = 2 ↔ (0 : Int) = 0)
    decide
  | [], _ :: _, _, _, _, h, _ => by simp at h
  | _ :: _, [], _, _, _, h, _ => by simp at h
  | lv :: ls, d :: ds, X, Y, hp, hl, hd => by
    have hp' : Lvs ls := fun z hz => hp z (by simp [hz])
    have hl' : ls.length = ds.length := by simpa using hl
    have hd' : ∀ x ∈ ds, 0 ≤ x ∧ x < 4 := fun x hx => hd x (by simp [hx])
    obtain ⟨i1, i2⟩ := kdL_thr ls ds (X / 2) (Y / 2) hp' hl' hd'
    obtain ⟨b0, b1⟩ := num4_bd hd'
    obtain ⟨t0, t1⟩ := thr_bd (X / 2) (Y / 2) hp'
    have p := four_pos ds.length
    have et : thr (lv :: ls) X Y = dg lv X Y * 4 ^ ls.length + thr ls (X / 2) (Y / 2) := rfl
    rw [et, hl']
    rw [hl'] at t1
    show ((if dg lv X Y = d then kdL ls ds (X / 2) (Y / 2) else cmpD (dg lv X Y) d) = 1 ↔ _ < d * 4 ^ ds.length + num4 ds) ∧ ((if dg lv X Y = d then kdL ls ds (X / 2) (Y / 2) else cmpD (dg lv X Y) d) = 2 ↔ _ = d * 4 ^ ds.length + num4 ds)
    generalize dg lv X Y = n at *
    by_cases c : n = d
    · rw [if_pos c, c]
      exact ⟨i1.trans (by omega), i2.trans (by omega)⟩
    · rw [if_neg c]
      unfold cmpD
      rw [if_neg c]
      by_cases lt : n < d
      · rw [if_pos lt]
        have : (n + 1) * 4 ^ ds.length ≤ d * 4 ^ ds.length := Int.mul_le_mul_of_nonneg_right (by omega) (by omega)
        rw [Int.add_mul, Int.one_mul] at this
        exact ⟨⟨fun _ => by omega, fun _ => rfl⟩, ⟨fun h => by omega, fun h => by omega⟩⟩
      · rw [if_neg lt]
        have : (d + 1) * 4 ^ ds.length ≤ n * 4 ^ ds.length := Int.mul_le_mul_of_nonneg_right (by omega) (by omega)
        rw [Int.add_mul, Int.one_mul] at this
        exact ⟨⟨fun h => by omega, fun h => by omega⟩, ⟨fun h => by omega, fun h => by omega⟩⟩
/-- the digits of a shade -/
def digs (k : Int) : Nat → List Int
  | 0 => []
  | n + 1 => (k / 4 ^ n % 4) :: digs k n
theorem digs_len (k : Int) : ∀ n, (digs k n).length = n
  | 0 => rfl
  | n + 1 => by show (digs k n).length + 1 = _; rw [digs_len]
theorem digs_bd (k : Int) : ∀ n, ∀ d ∈ digs k n, 0 ≤ d ∧ d < 4
  | 0, d, h => by simp [digs] at h
  | n + 1, d, h => by
    rcases List.mem_cons.mp h with rfl | h
    · omega
    · exact digs_bd k n d h
theorem digs_num (k : Int) : ∀ n, num4 (digs k n) = k % 4 ^ n
  | 0 => by show (0 : Int) = _; rw [Int.pow_zero, Int.emod_one]
  | n + 1 => by
    show k / 4 ^ n % 4 * 4 ^ (digs k n).length + num4 (digs k n) = _
    rw [digs_len, digs_num k n, Int.pow_succ]
    have p := four_pos n
    have a := Int.emod_def k (4 ^ n)
    have b := Int.emod_def k (4 ^ n * 4)
    have c := Int.emod_def (k / 4 ^ n) 4
    have d : k / (4 ^ n * 4) = k / 4 ^ n / 4 := by rw [Int.ediv_ediv_of_nonneg (by omega)]
    rw [b, d, a, c, Int.sub_mul]
    have e : 4 * (k / 4 ^ n / 4) * 4 ^ n = 4 ^ n * 4 * (k / 4 ^ n / 4) := by simp only [Int.mul_assoc, Int.mul_comm, Int.mul_left_comm]
    have f : k / 4 ^ n * 4 ^ n = 4 ^ n * (k / 4 ^ n) := Int.mul_comm _ _
    rw [e, f]; omega
theorem kdL_full {lv : List Int} {ls : List (List Int)} {ds : List Int} {X Y : Int} (hp : Lvs (lv :: ls)) : kdL (lv :: ls) (4 :: ds) X Y = 1 := by
  have hb := dg_bd (hp lv (by simp)) X Y
  show (if dg lv X Y = 4 then _ else cmpD (dg lv X Y) 4) = 1
  rw [if_neg (by omega)]
  unfold cmpD
  rw [if_neg (by omega), if_pos (by omega)]
/-! carries -/
def cy (s : Nat) (x r : Int) : Int := (x % 2 ^ s + r % 2 ^ s) / 2 ^ s
theorem mod_hi (x : Int) (s : Nat) : x % 2 ^ (s + 1) = x % 2 ^ s + x / 2 ^ s % 2 * 2 ^ s := by
  have p := two_pos s
  have a := Int.emod_def x (2 ^ s)
  have b := Int.emod_def x (2 ^ s * 2)
  have c := Int.emod_def (x / 2 ^ s) 2
  have d : x / (2 ^ s * 2) = x / 2 ^ s / 2 := by rw [Int.ediv_ediv_of_nonneg (by omega)]
  rw [Int.pow_succ, b, d, a, c, Int.sub_mul]
  have e : 2 * (x / 2 ^ s / 2) * 2 ^ s = 2 ^ s * 2 * (x / 2 ^ s / 2) := by simp only [Int.mul_assoc, Int.mul_comm, Int.mul_left_comm]
  have f : x / 2 ^ s * 2 ^ s = 2 ^ s * (x / 2 ^ s) := Int.mul_comm _ _
  rw [e, f]; omega
theorem cy_zero (x r : Int) : cy 0 x r = 0 := by unfold cy; rw [Int.pow_zero, Int.emod_one, Int.emod_one]; rfl
theorem cy_succ (x r : Int) (s : Nat) : cy (s + 1) x r = (x / 2 ^ s % 2 + r / 2 ^ s % 2 + cy s x r) / 2 := by
  have p := two_pos s
  unfold cy
  rw [mod_hi, mod_hi, Int.pow_succ, ← Int.ediv_ediv_of_nonneg (by omega)]
  congr 1
  have e : x % 2 ^ s + x / 2 ^ s % 2 * 2 ^ s + (r % 2 ^ s + r / 2 ^ s % 2 * 2 ^ s) = x % 2 ^ s + r % 2 ^ s + (x / 2 ^ s % 2 + r / 2 ^ s % 2) * 2 ^ s := by rw [Int.add_mul]; omega
  rw [e, Int.add_mul_ediv_right _ _ (by omega)]; omega
theorem cy_bit (x r : Int) (s : Nat) : (x / 2 ^ s % 2 + r / 2 ^ s % 2 + cy s x r) % 2 = (x + r) / 2 ^ s % 2 := by
  have p := two_pos s
  have a := Int.emod_add_mul_ediv x (2 ^ s)
  have b := Int.emod_add_mul_ediv r (2 ^ s)
  have e : x + r = x % 2 ^ s + r % 2 ^ s + (x / 2 ^ s + r / 2 ^ s) * 2 ^ s := by
    rw [Int.add_mul, Int.mul_comm (x / 2 ^ s), Int.mul_comm (r / 2 ^ s)]; omega
  have f : (x + r) / 2 ^ s = cy s x r + (x / 2 ^ s + r / 2 ^ s) := by
    unfold cy
    rw [e, Int.add_mul_ediv_right _ _ (by omega)]
  rw [f]; omega
/-! ### one look, step by step -/
structure Look where
  lv : List (List Int)
  dg : List Int
  rt : Int
  sh : Int
/-- the state of a look behind so many digits: carried, carried, the kind -/
def stL (s : Nat) (L : Look) (x y : Int) : Int × Int × Int := (cy s x L.rt, cy s y L.sh, kdL (L.lv.take s) L.dg (x + L.rt) (y + L.sh))
/-- step_of for one look -/
def lkStep (s : Nat) (L : Look) (bx b : Int) (q : Int × Int × Int) : Int × Int × Int :=
  ((bx + L.rt / 2 ^ s % 2 + q.1) / 2, (b + L.sh / 2 ^ s % 2 + q.2.1) / 2,
    if q.2.2 = 2 ∧ s < L.lv.length then cmpD ((L.lv.getD s []).getD ((bx + L.rt / 2 ^ s % 2 + q.1) % 2 + 2 * ((b + L.sh / 2 ^ s % 2 + q.2.1) % 2)).toNat 0) (L.dg.getD s 0) else q.2.2)
theorem lk_step {L : Look} (hl : L.lv.length = L.dg.length) (s : Nat) (x y : Int) : lkStep s L (x / 2 ^ s % 2) (y / 2 ^ s % 2) (stL s L x y) = stL (s + 1) L x y := by
  unfold lkStep stL
  simp only
  rw [← cy_succ, ← cy_succ, cy_bit, cy_bit]
  refine Prod.ext rfl (Prod.ext rfl ?_)
  show (if kdL (L.lv.take s) L.dg (x + L.rt) (y + L.sh) = 2 ∧ s < L.lv.length then _ else _) = kdL (L.lv.take (s + 1)) L.dg (x + L.rt) (y + L.sh)
  by_cases hs : s < L.lv.length
  · have e1 : L.lv.take (s + 1) = L.lv.take s ++ [L.lv.getD s []] := by
      rw [List.take_add_one, List.getElem?_eq_getElem hs, List.getD_eq_getElem?_getD, List.getElem?_eq_getElem hs]; rfl
    have e2 : (L.lv.take s).length = s := by rw [List.length_take]; omega
    have ap := kdL_app (L.lv.getD s []) (L.lv.take s) L.dg (x + L.rt) (y + L.sh) (by omega)
    rw [← e1, e2] at ap
    rw [ap]
    by_cases k : kdL (L.lv.take s) L.dg (x + L.rt) (y + L.sh) = 2
    · rw [if_pos ⟨k, hs⟩, if_pos k]; rfl
    · rw [if_neg fun z => k z.1, if_neg k]
  · rw [if_neg fun z => hs z.2, List.take_of_length_le (by omega), List.take_of_length_le (by omega)]
theorem st_begin (L : Look) (x y : Int) : stL 0 L x y = (0, 0, 2) := by
  unfold stL
  rw [cy_zero, cy_zero]
  rfl
/-- what a look sees in the end: a dot just if the threshold is less than the shade -/
theorem st_end {ls : List (List Int)} (hp : Lvs ls) (h1 : 1 ≤ ls.length) {k : Int} (k0 : 0 ≤ k) (k1 : k ≤ 4 ^ ls.length) {ds : List Int} (hd : ds = if k = 4 ^ ls.length then List.replicate ls.length 4 else digs k ls.length) {s : Nat} (hs : ls.length ≤ s) (X Y : Int) : kdL (ls.take s) ds X Y = 1 ↔ thr ls X Y < k := by
  rw [List.take_of_length_le hs, hd]
  by_cases c : k = 4 ^ ls.length
  · rw [if_pos c]
    obtain ⟨t0, t1⟩ := thr_bd X Y hp
    match ls, h1, hp with
    | lv :: r, _, hp =>
      rw [List.length_cons, List.replicate_succ, kdL_full hp]
      exact ⟨fun _ => by omega, fun _ => rfl⟩
  · rw [if_neg c, (kdL_thr ls (digs k ls.length) X Y hp (digs_len k _).symm (digs_bd k _)).1, digs_num, Int.emod_eq_of_lt k0 (by omega)]
/-! ### less so far -/
def lessF (v b : Int) (f : Bool) : Bool := if v = b then f else decide (v < b)
theorem less_step (x w : Int) (s : Nat) : lessF (x / 2 ^ s % 2) (w / 2 ^ s % 2) (decide (x % 2 ^ s < w % 2 ^ s)) = decide (x % 2 ^ (s + 1) < w % 2 ^ (s + 1)) := by
  have p := two_pos s
  have a0 := Int.emod_nonneg x (Int.ne_of_gt p)
  have a1 := Int.emod_lt_of_pos x p
  have b0 := Int.emod_nonneg w (Int.ne_of_gt p)
  have b1 := Int.emod_lt_of_pos w p
  rw [mod_hi x, mod_hi w]
  obtain h | h : x / 2 ^ s % 2 = 0 ∨ x / 2 ^ s % 2 = 1 := by omega
  all_goals
    obtain k | k : w / 2 ^ s % 2 = 0 ∨ w / 2 ^ s % 2 = 1 := by omega
    all_goals
      rw [h, k]
      unfold lessF
      first
        | (rw [if_pos rfl]; exact decide_eq_decide.mpr (by omega))
        | (rw [if_neg (by decide)]; exact decide_eq_decide.mpr (by omega))
theorem less_begin (x w : Int) : decide (x % 2 ^ 0 < w % 2 ^ 0) = false := by
  rw [Int.pow_zero, Int.emod_one, Int.emod_one]; rfl
end Lib

set_option Elab.async false
set_option linter.all false
set_option maxRecDepth 100000
set_option exponentiation.threshold 2000
namespace Lib
open PySem PySem.Spec PyProof.Rows L2 Dd
/-! ### all looks: tally -/
abbrev KT := (List Int × List Int × List Int) × Bool × Bool
/-- the looks' states behind one digit more -/
def stepList (s : Nat) (bx b : Int) : List Look → List Int → List Int → List Int → List (Int × Int × Int)
  | L :: Ls, a :: as, d :: ds, k :: ks => lkStep s L bx b (a, d, k) :: stepList s bx b Ls as ds ks
  | _, _, _, _ => []
def enc3 (qs : List (Int × Int × Int)) : List Int × List Int × List Int := (qs.map fun q => q.1, qs.map fun q => q.2.1, qs.map fun q => q.2.2)
/-- whether kindsK may become what is wanted -/
def mayK : Option (List Int) → List Int → Bool
  | none, _ => true
  | some ws, ks => (ks.zip ws).all fun p => decide (p.1 = 2 ∨ p.1 = p.2)
def stepK (looks : List Look) (ws : Option (List Int)) (w h : Int) (s : Nat) (κ : KT) (bx b : Int) : Option KT :=
  let q := enc3 (stepList s bx b looks κ.1.1 κ.1.2.1 κ.1.2.2)
  if mayK ws q.2.2 = true then some (q, lessF bx (w / 2 ^ s % 2) κ.2.1, lessF b (h / 2 ^ s % 2) κ.2.2) else none
def key0 (looks : List Look) : KT := ((looks.map fun _ => 0, looks.map fun _ => 0, looks.map fun _ => 2), false, false)
/-- the state of a place -/
def keyS (looks : List Look) (w h : Int) (s : Nat) (x y : Int) : KT := (enc3 (looks.map fun L => stL s L x y), decide (x % 2 ^ s < w % 2 ^ s), decide (y % 2 ^ s < h % 2 ^ s))
theorem step_list (s : Nat) (bx b x y : Int) : ∀ looks : List Look, stepList s bx b looks (enc3 (looks.map fun L => stL s L x y)).1 (enc3 (looks.map fun L => stL s L x y)).2.1 (enc3 (looks.map fun L => stL s L x y)).2.2 = looks.map fun L => lkStep s L bx b (stL s L x y)
  | [] => rfl
  | L :: Ls => by
    have ih := step_list s bx b x y Ls
    show lkStep s L bx b (stL s L x y) :: stepList s bx b Ls (enc3 (Ls.map fun L => stL s L x y)).1 (enc3 (Ls.map fun L => stL s L x y)).2.1 (enc3 (Ls.map fun L => stL s L x y)).2.2 = _
    rw [ih]; rfl
def kindsK (looks : List Look) (s : Nat) (x y : Int) : List Int := looks.map fun L => kdL (L.lv.take s) L.dg (x + L.rt) (y + L.sh)
theorem kd_keep {L : Look} (hl : L.lv.length = L.dg.length) (s : Nat) (X Y : Int) : kdL (L.lv.take s) L.dg X Y = 2 ∨ kdL (L.lv.take (s + 1)) L.dg X Y = kdL (L.lv.take s) L.dg X Y := by
  by_cases hs : s < L.lv.length
  · have e1 : L.lv.take (s + 1) = L.lv.take s ++ [L.lv.getD s []] := by
      rw [List.take_add_one, List.getElem?_eq_getElem hs, List.getD_eq_getElem?_getD, List.getElem?_eq_getElem hs]; rfl
    have e2 : (L.lv.take s).length = s := by rw [List.length_take]; omega
    have ap := kdL_app (L.lv.getD s []) (L.lv.take s) L.dg X Y (by omega)
    rw [← e1] at ap
    by_cases k : kdL (L.lv.take s) L.dg X Y = 2
    · exact .inl k
    · right; rw [ap, if_neg k]
  · right
    rw [List.take_of_length_le (by omega), List.take_of_length_le (by omega)]
theorem may_keep {looks : List Look} (hl : ∀ L ∈ looks, L.lv.length = L.dg.length) (s : Nat) (x y : Int) : ∀ ws : Option (List Int), mayK ws (kindsK looks (s + 1) x y) = true → mayK ws (kindsK looks s x y) = true
  | none, _ => rfl
  | some ws, h => by
    revert ws
    induction looks with
    | nil => intro ws _; rfl
    | cons L Ls ih =>
      intro ws h
      cases ws with
      | nil => rfl
      | cons v vs =>
        have h : (decide (kdL (L.lv.take (s + 1)) L.dg (x + L.rt) (y + L.sh) = 2 ∨ kdL (L.lv.take (s + 1)) L.dg (x + L.rt) (y + L.sh) = v) && mayK (some vs) (kindsK Ls (s + 1) x y)) = true := h
        show (decide (kdL (L.lv.take s) L.dg (x + L.rt) (y + L.sh) = 2 ∨ kdL (L.lv.take s) L.dg (x + L.rt) (y + L.sh) = v) && mayK (some vs) (kindsK Ls s x y)) = true
        rw [Bool.and_eq_true] at h ⊢
        refine ⟨decide_eq_true ?_, ih (fun L hL => hl L (by simp [hL])) vs h.2⟩
        have h1 := of_decide_eq_true h.1
        rcases kd_keep (hl L (by simp)) s (x + L.rt) (y + L.sh) with k | k
        · exact .inl k
        · rw [k] at h1; exact h1
/-- THE RUN of a place: its state, if it may still be as wanted -/
theorem run_key {looks : List Look} (hl : ∀ L ∈ looks, L.lv.length = L.dg.length) (ws : Option (List Int)) (w h : Int) (x y : Int) : ∀ s : Nat, kRun (stepK looks ws w h) (key0 looks) s x y = if mayK ws (kindsK looks s x y) = true then some (keyS looks w h s x y) else none
  | 0 => by
    have m0 : mayK ws (kindsK looks 0 x y) = true := by
      cases ws with
      | none => rfl
      | some ws =>
        unfold mayK
        rw [List.all_eq_true]
        intro p hp
        have h1 := (List.of_mem_zip hp).1
        obtain ⟨L, _, e⟩ := List.mem_map.mp h1
        exact decide_eq_true (.inl e.symm)
    rw [if_pos m0]
    show some (key0 looks) = _
    unfold key0 keyS enc3
    simp only [List.map_map, less_begin]
    have e1 : (looks.map ((fun q : Int × Int × Int => q.1) ∘ fun L => stL 0 L x y)) = looks.map fun _ => 0 := List.map_congr_left fun L _ => by show (stL 0 L x y).1 = 0; rw [st_begin]
    have e2 : (looks.map ((fun q : Int × Int × Int => q.2.1) ∘ fun L => stL 0 L x y)) = looks.map fun _ => 0 := List.map_congr_left fun L _ => by show (stL 0 L x y).2.1 = 0; rw [st_begin]
    have e3 : (looks.map ((fun q : Int × Int × Int => q.2.2) ∘ fun L => stL 0 L x y)) = looks.map fun _ => 2 := List.map_congr_left fun L _ => by show (stL 0 L x y).2.2 = 2; rw [st_begin]
    rw [e1, e2, e3]
  | s + 1 => by
    rw [kRun_s, run_key hl ws w h x y s]
    by_cases m : mayK ws (kindsK looks s x y) = true
    · rw [if_pos m]
      show stepK looks ws w h s (keyS looks w h s x y) (x / 2 ^ s % 2) (y / 2 ^ s % 2) = _
      have e : stepList s (x / 2 ^ s % 2) (y / 2 ^ s % 2) looks (keyS looks w h s x y).1.1 (keyS looks w h s x y).1.2.1 (keyS looks w h s x y).1.2.2 = looks.map fun L => stL (s + 1) L x y := by
        show stepList s (x / 2 ^ s % 2) (y / 2 ^ s % 2) looks (enc3 (looks.map fun L => stL s L x y)).1 (enc3 (looks.map fun L => stL s L x y)).2.1 (enc3 (looks.map fun L => stL s L x y)).2.2 = _
        rw [step_list]
        exact List.map_congr_left fun L hL => lk_step (hl L hL) s x y
      have ek : (enc3 (looks.map fun L => stL (s + 1) L x y)).2.2 = kindsK looks (s + 1) x y := by
        unfold enc3 kindsK
        simp only [List.map_map]; rfl
      unfold stepK
      simp only [e, ek]
      have f1 : lessF (x / 2 ^ s % 2) (w / 2 ^ s % 2) (keyS looks w h s x y).2.1 = decide (x % 2 ^ (s + 1) < w % 2 ^ (s + 1)) := less_step x w s
      have f2 : lessF (y / 2 ^ s % 2) (h / 2 ^ s % 2) (keyS looks w h s x y).2.2 = decide (y % 2 ^ (s + 1) < h % 2 ^ (s + 1)) := less_step y h s
      rw [f1, f2]
      rfl
    · rw [if_neg m, if_neg fun z => m (may_keep hl s x y ws z)]
      rfl
/-! ### what is found -/
def b2 (b : Bool) : Int := if b = true then 1 else 0
def truthsK (κ : KT) : List Bool := κ.1.2.2.map fun k => decide (k = 1)
def plK (w h : Int) (D : Nat) (κ : KT) : Int := (w / 2 ^ D + b2 κ.2.1) * (h / 2 ^ D + b2 κ.2.2)
def tallyF (looks : List Look) (ws : Option (List Int)) (w h : Int) (D : Nat) : List (List Bool × Int) :=
  (tRun (stepK looks ws w h) (key0 looks) D).foldl (fun d p => tAdd d (truthsK p.1) (p.2 * (w / 2 ^ D + b2 p.1.2.1) * (h / 2 ^ D + b2 p.1.2.2))) []
theorem tW_found (g : List Bool → Int) (w h : Int) (D : Nat) : ∀ (S : List (KT × Int)) (d : List (List Bool × Int)), tW g (S.foldl (fun d p => tAdd d (truthsK p.1) (p.2 * (w / 2 ^ D + b2 p.1.2.1) * (h / 2 ^ D + b2 p.1.2.2))) d) = tW g d + tW (fun κ => plK w h D κ * g (truthsK κ)) S
  | [], d => by show tW g d = tW g d + 0; omega
  | p :: S, d => by
    show tW g (S.foldl _ (tAdd d (truthsK p.1) (p.2 * (w / 2 ^ D + b2 p.1.2.1) * (h / 2 ^ D + b2 p.1.2.2)))) = _
    rw [tW_found g w h D S, tW_add]
    show _ = tW g d + (p.2 * (plK w h D p.1 * g (truthsK p.1)) + _)
    unfold plK
    rw [← Int.mul_assoc, ← Int.mul_assoc]
    omega
/-- what is so at a place -/
def truthsAt (looks : List Look) (D : Nat) (x y : Int) : List Bool := looks.map fun L => decide (kdL (L.lv.take D) L.dg (x + L.rt) (y + L.sh) = 1)
theorem dg_even (lv : List Int) (X Y a b : Int) : dg lv (X + 2 * a) (Y + 2 * b) = dg lv X Y := by
  unfold dg
  rw [show (X + 2 * a) % 2 = X % 2 by omega, show (Y + 2 * b) % 2 = Y % 2 by omega]
theorem kdL_per : ∀ (A : List (List Int)) (ds : List Int) (X Y a b : Int), kdL A ds (X + a * 2 ^ A.length) (Y + b * 2 ^ A.length) = kdL A ds X Y
  | [], ds, X, Y, a, b => by cases ds <;> rfl
  | lv :: A, [], X, Y, a, b => rfl
  | lv :: A, d :: ds, X, Y, a, b => by
    have e : ∀ Z c : Int, Z + c * 2 ^ (A.length + 1) = Z + 2 * (c * 2 ^ A.length) := fun Z c => by
      rw [Int.pow_succ]; simp only [Int.mul_assoc, Int.mul_comm, Int.mul_left_comm]
    rw [List.length_cons, e, e]
    show (if dg lv _ _ = d then kdL A ds ((X + 2 * (a * 2 ^ A.length)) / 2) ((Y + 2 * (b * 2 ^ A.length)) / 2) else cmpD (dg lv _ _) d) = if dg lv X Y = d then kdL A ds (X / 2) (Y / 2) else cmpD (dg lv X Y) d
    rw [dg_even, show (X + 2 * (a * 2 ^ A.length)) / 2 = X / 2 + a * 2 ^ A.length by omega, show (Y + 2 * (b * 2 ^ A.length)) / 2 = Y / 2 + b * 2 ^ A.length by omega, kdL_per A ds]
theorem truths_per (looks : List Look) (D : Nat) (x y a b : Int) : truthsAt looks D (x + a * 2 ^ D) (y + b * 2 ^ D) = truthsAt looks D x y := by
  refine List.map_congr_left fun L _ => ?_
  have hl : (L.lv.take D).length ≤ D := by rw [List.length_take]; omega
  obtain ⟨d, hd⟩ : ∃ d, D = d + (L.lv.take D).length := ⟨D - (L.lv.take D).length, by omega⟩
  have e : ∀ c : Int, c * 2 ^ D = c * 2 ^ d * 2 ^ (L.lv.take D).length := fun c => by
    rw [Int.mul_assoc, ← Int.pow_add, ← hd]
  have := kdL_per (L.lv.take D) L.dg (x + L.rt) (y + L.sh) (a * 2 ^ d) (b * 2 ^ d)
  rw [← e, ← e] at this
  rw [show x + a * 2 ^ D + L.rt = x + L.rt + a * 2 ^ D by omega, show y + b * 2 ^ D + L.sh = y + L.sh + b * 2 ^ D by omega, this]
theorem truths_key (looks : List Look) (w h : Int) (D : Nat) (x y : Int) : truthsK (keyS looks w h D x y) = truthsAt looks D x y := by
  unfold truthsK keyS enc3 truthsAt
  simp only [List.map_map]; rfl
end Lib

set_option Elab.async false
set_option linter.all false
set_option maxRecDepth 100000
set_option exponentiation.threshold 2000
namespace Lib
open PySem PySem.Spec PyProof.Rows L2 Dd
/-! ### the walk of tally -/
theorem itZn_ap (n : Nat) (g : M (List R)) (S : Sg) : itZn n g S = (g S).bnd fun xs S => zipNK n S xs := by unfold itZn; rw [bind_bnd]
theorem dt1E_ap (fk fv : M R) (S : Sg) : dt1E fk fv S = (fk S).bnd fun k S => (fv S).bnd fun v S => (pure1 k S).bnd fun kd S => (pure1 v S).bnd fun vd S => dt1K kd vd S := by
  unfold dt1E
  iterate 3 (rw [bind_bnd]; refine congrArg (Res.bnd _) (funext fun _ => funext fun S => ?_))
  rw [bind_bnd]
theorem dgetE_ap (fo fk fx : M R) (S : Sg) : dgetE fo fk fx S = (fo S).bnd fun o S => (dchk o S).bnd fun _ S => (fk S).bnd fun k S => (fx S).bnd fun x S => (pure1 k S).bnd fun kd S => dgetK o kd x S := by
  unfold dgetE
  iterate 4 (rw [bind_bnd]; refine congrArg (Res.bnd _) (funext fun _ => funext fun S => ?_))
  rw [bind_bnd]
theorem sDset_ap (fv fo fk : M R) (S : Sg) : sDset fv fo fk S = (fv S).bnd fun v S => (fo S).bnd fun o S => (fk S).bnd fun k S => (pure1 v S).bnd fun vd S => (pure1 k S).bnd fun kd S => dsetK o kd vd S := by
  unfold sDset
  iterate 4 (rw [bind_bnd]; refine congrArg (Res.bnd _) (funext fun _ => funext fun S => ?_))
  rw [bind_bnd]
theorem ditE_ap (fo : M R) (S : Sg) : ditE fo S = (fo S).bnd fun o S => ditK o S := by unfold ditE; rw [bind_bnd]
theorem bit_of_i (v : Int) (s : Nat) (st : Store) : s_bit_of [.p (.int v), .p (.int (s : Int))] st = .ok (.val (.int (v / 2 ^ s % 2))) st := by
  unfold s_bit_of b_bit_of
  simp! [opShr_i (Int.natCast_nonneg s), band1, Int.toNat_natCast]
theorem less_i (v b : Int) (f : Bool) (st : Store) : s_less_so_far [.p (.int v), .p (.int b), .p (.bl f)] st = .ok (.val (.bl (lessF v b f))) st := by
  unfold s_less_so_far b_less_so_far lessF
  by_cases h : v = b
  · simp! [h]
  · simp! [h]
def lkD (L : Look) : D := .tup [.tup (lvD L.lv), .lst (L.dg.map .int), .int L.rt, .int L.sh]
def s3D (q : List Int × List Int × List Int) : D := .tup [.tup (q.1.map .int), .tup (q.2.1.map .int), .tup (q.2.2.map .int)]
def ktD (κ : KT) : D := .tup [s3D κ.1, .bl κ.2.1, .bl κ.2.2]
def wtD : Option (List Int) → D
  | none => .non
  | some ws => .lst (ws.map .int)
theorem may_n (ks : List Int) (st : Store) : s_may_be [.p (.tup (ks.map .int)), .p .non] st = .ok (.val (.bl true)) st := by
  unfold s_may_be b_may_be
  simp! [isN_ap, isNK_n]
theorem zipL2 (l m : List D) : zipL [l, m] = List.zipWith (fun d e => [d, e]) l m := by
  show List.zipWith (fun d ds => d :: ds) l (m.map fun d => [d]) = _
  rw [List.zipWith_map_right]
theorem may_s (ks ws : List Int) (hk : ks.length ≤ 9) (st : Store) : s_may_be [.p (.tup (ks.map .int)), .p (wtD (some ws))] st = .ok (.val (.bl (mayK (some ws) ks))) st := by
  unfold s_may_be b_may_be wtD
  have hz : List.zipWith (fun d e => [d, e]) (ks.map D.int) (ws.map D.int) = (ks.zip ws).map fun p => [D.int p.1, D.int p.2] := by
    rw [List.zipWith_map_left, List.zipWith_map_right, List.zip, List.map_zipWith]
  have body : ∀ p ∈ ks.zip ws, lcB [2, 3] [2, 3] unpW tYesM (Dd.bin (opInG false) (vr 2) (tupE (aC (ci 2) (aC (vr 3) aN)))) [D.int p.1, D.int p.2] ⟨[some (.p (.tup (ks.map .int))), some (.p (.lst (ws.map .int))), none, none], st⟩ = .ok (some (.bl (decide (p.1 = 2 ∨ p.1 = p.2)))) ⟨[some (.p (.tup (ks.map .int))), some (.p (.lst (ws.map .int))), none, none], st⟩ := fun p _ => by
    rw [lcBW_ap rfl]
    simp! [inK_ii]
    congr 3
    by_cases h1 : p.1 = 2
    · simp [h1]
    · by_cases h2 : p.1 = p.2
      · simp [h2]
      · have h3 : ¬ 2 = p.1 := fun z => h1 z.symm
        have h4 : ¬ p.2 = p.1 := fun z => h2 z.symm
        simp [h1, h2, h3, h4]
  have bm : ∀ l : List (Int × Int), blsOf (l.map fun d => D.bl (decide (d.1 = 2 ∨ d.1 = d.2))) = some (l.map fun d => decide (d.1 = 2 ∨ d.1 = d.2)) := fun l => by
    induction l with
    | nil => rfl
    | cons a l ih => simp only [List.map_cons, blsOf, ih]
  simp! [isN_ap, isNK, itZn_ap, zipNK, getLs, zipL2, hz]
  rw [lcL_mapf (ok := fun _ => True) trivial _ _ body (by rw [List.length_zip]; simp; omega), lcFin_ok (by simp; omega)]
  simp! [allK, bm]
  have e : ((ks.zip ws).map fun d => decide (d.1 = 2 ∨ d.1 = d.2)).all id = mayK (some ws) ks := by
    unfold mayK
    rw [List.all_map]; rfl
  rw [e]
/-- what a look must be -/
structure LkOk (L : Look) : Prop where
  p : Lvs L.lv
  n : L.lv.length ≤ 50
  d : L.lv.length = L.dg.length
theorem zipL4 (a b c d : List D) (j : Nat) (x : List D) (h : (zipL [a, b, c, d])[j]? = some x) : ∃ p q r s, x = [p, q, r, s] ∧ a[j]? = some p ∧ b[j]? = some q ∧ c[j]? = some r ∧ d[j]? = some s := by
  have h : (List.zipWith (fun d ds => d :: ds) a (List.zipWith (fun d ds => d :: ds) b (List.zipWith (fun d ds => d :: ds) c (d.map fun d => [d]))))[j]? = some x := h
  rw [List.getElem?_zipWith] at h
  cases ha : a[j]? with
  | none => rw [ha] at h; cases h
  | some p =>
  rw [ha, List.getElem?_zipWith] at h
  cases hb : b[j]? with
  | none => rw [hb] at h; cases h
  | some q =>
  rw [hb, List.getElem?_zipWith] at h
  cases hc : c[j]? with
  | none => rw [hc] at h; cases h
  | some r =>
  rw [hc, List.getElem?_map] at h
  cases hd : d[j]? with
  | none => rw [hd] at h; cases h
  | some s =>
  rw [hd] at h
  cases h
  exact ⟨p, q, r, s, rfl, rfl, rfl, rfl, rfl⟩
theorem ints_at {l : List Int} {j : Nat} {d : D} (h : (l.map D.int)[j]? = some d) : ∃ (hj : j < l.length), d = .int l[j] ∧ l.drop j = l[j] :: l.drop (j + 1) := by
  rw [List.getElem?_map] at h
  have hj : j < l.length := by
    refine Classical.byContradiction fun hn => ?_
    rw [List.getElem?_eq_none (by omega)] at h; cases h
  rw [List.getElem?_eq_getElem hj] at h
  cases h
  exact ⟨hj, rfl, List.drop_eq_getElem_cons hj⟩
theorem step_i {looks : List Look} (ok : ∀ L ∈ looks, LkOk L) (h9 : looks.length ≤ 9) {s : Nat} {a d k : List Int} (la : a.length = looks.length) (ld : d.length = looks.length) (lk : k.length = looks.length)
    (ba : ∀ v ∈ a, 0 ≤ v ∧ v ≤ 1) (bd : ∀ v ∈ d, 0 ≤ v ∧ v ≤ 1) {bx b : Int} (x0 : 0 ≤ bx) (x1 : bx ≤ 1) (y0 : 0 ≤ b) (y1 : b ≤ 1) (st : Store) :
    s_step_of [.p (.lst (looks.map lkD)), .p (.int (s : Int)), .p (s3D (a, d, k)), .p (.int bx), .p (.int b)] st = .ok (.val (s3D (enc3 (stepList s bx b looks a d k)))) st := by
  refine fin_eq ?_
  unfold s_step_of b_step_of s3D
  simp! [bnd_bnd, itZn_ap, zipNK, getLs]
  have R0 : stepList s bx b (looks.drop 0) (a.drop 0) (d.drop 0) (k.drop 0) = stepList s bx b looks a d k := rfl
  refine wpf_bnd (wp_loop (I := fun j S => ∃ (A B C : List Int) (s11 s12 s13 s14 s15 s16 s17 s18 s19 s20 s21 : Option R), S = ⟨[some (.p (.lst (looks.map lkD))), some (.p (.int (s : Int))), some (.p (.tup [.tup (a.map .int), .tup (d.map .int), .tup (k.map .int)])), some (.p (.int bx)), some (.p (.int b)), some (.p (.tup (a.map .int))), some (.p (.tup (d.map .int))), some (.p (.tup (k.map .int))), some (.r st.length), some (.r (st.length + 1)), some (.r (st.length + 2)), s11, s12, s13, s14, s15, s16, s17, s18, s19, s20, s21], st ++ [.mu (.lst (A.map .int)), .mu (.lst (B.map .int)), .mu (.lst (C.map .int))]⟩ ∧
      A.length = j ∧ B.length = j ∧ C.length = j ∧ A ++ (stepList s bx b (looks.drop j) (a.drop j) (d.drop j) (k.drop j)).map (·.1) = (stepList s bx b looks a d k).map (·.1) ∧
      B ++ (stepList s bx b (looks.drop j) (a.drop j) (d.drop j) (k.drop j)).map (·.2.1) = (stepList s bx b looks a d k).map (·.2.1) ∧
      C ++ (stepList s bx b (looks.drop j) (a.drop j) (d.drop j) (k.drop j)).map (·.2.2) = (stepList s bx b looks a d k).map (·.2.2)) ?_ ?_ ?_ ?_)
  · exact ⟨[], [], [], _, _, _, _, _, _, _, _, _, _, _, rfl, rfl, rfl, rfl, rfl, rfl, rfl⟩
  · intros; trivial
  · rintro j x S hj ⟨A, B, C, s11, s12, s13, s14, s15, s16, s17, s18, s19, s20, s21, rfl, hA, hB, hC, eA, eB, eC⟩
    obtain ⟨p, q, r, u, rfl, h1, h2, h3, h4⟩ := zipL4 _ _ _ _ _ _ hj
    obtain ⟨j2, rfl, e2⟩ := ints_at h2
    obtain ⟨j3, rfl, e3⟩ := ints_at h3
    obtain ⟨j4, rfl, e4⟩ := ints_at h4
    rw [List.getElem?_map] at h1
    have j1 : j < looks.length := by omega
    rw [List.getElem?_eq_getElem j1] at h1
    cases h1
    have e1 := List.drop_eq_getElem_cons j1
    have lok := ok looks[j] (List.getElem_mem j1)
    have va := ba a[j] (List.getElem_mem j2)
    have vd := bd d[j] (List.getElem_mem j3)
    rw [e1, e2, e3, e4] at eA eB eC
    generalize looks[j] = L at *
    generalize a[j] = aj at *
    generalize d[j] = dj at *
    generalize k[j] = kj at *
    have bn := fun v st => bit_of_i v s st
    have q1 : 0 ≤ L.rt / 2 ^ s % 2 ∧ L.rt / 2 ^ s % 2 ≤ 1 := by omega
    have q2 : 0 ≤ L.sh / 2 ^ s % 2 ∧ L.sh / 2 ^ s % 2 ≤ 1 := by omega
    have aA : (A.map D.int).length < 1000000 := by rw [List.length_map]; omega
    have aB : (B.map D.int).length < 1000000 := by rw [List.length_map]; omega
    have aC' : (C.map D.int).length < 1000000 := by rw [List.length_map]; omega
    have eA2 : A ++ (bx + L.rt / 2 ^ s % 2 + aj) / 2 :: (stepList s bx b (looks.drop (j + 1)) (a.drop (j + 1)) (d.drop (j + 1)) (k.drop (j + 1))).map (·.1) = (stepList s bx b looks a d k).map (·.1) := eA
    have eB2 : B ++ (b + L.sh / 2 ^ s % 2 + dj) / 2 :: (stepList s bx b (looks.drop (j + 1)) (a.drop (j + 1)) (d.drop (j + 1)) (k.drop (j + 1))).map (·.2.1) = (stepList s bx b looks a d k).map (·.2.1) := eB
    have eC2 : C ++ (lkStep s L bx b (aj, dj, kj)).2.2 :: (stepList s bx b (looks.drop (j + 1)) (a.drop (j + 1)) (d.drop (j + 1)) (k.drop (j + 1))).map (·.2.2) = (stepList s bx b looks a d k).map (·.2.2) := eC
    unfold lkStep at eC2
    simp only at eC2
    rw [bind_bnd]
    by_cases hk2 : kj = 2
    · by_cases hs : s < L.lv.length
      · have hs' : (s : Int) < (L.lv.length : Int) := by omega
        rw [if_pos ⟨hk2, hs⟩] at eC2
        have hlv : (lvD L.lv)[(s : Int).toNat]? = some (.tup (L.lv[s].map .int)) := by
          unfold lvD; rw [Int.toNat_natCast, List.getElem?_map, List.getElem?_eq_getElem hs]; rfl
        have hgd : L.lv.getD s [] = L.lv[s] := by rw [List.getD_eq_getElem?_getD, List.getElem?_eq_getElem hs]; rfl
        have perm := lok.p L.lv[s] (List.getElem_mem hs)
        have hdg : L.dg[(s : Int).toNat]? = some (L.dg.getD s 0) := by
          have : s < L.dg.length := by rw [← lok.d]; exact hs
          rw [Int.toNat_natCast, List.getD_eq_getElem?_getD, List.getElem?_eq_getElem this]; rfl
        rw [hgd] at eC2
        generalize hf : bx + L.rt / 2 ^ s % 2 + aj = f1 at *
        generalize hg : b + L.sh / 2 ^ s % 2 + dj = f2 at *
        have hix : L.lv[s][(f1 % 2 + 2 * (f2 % 2)).toNat]? = some (L.lv[s].getD (f1 % 2 + 2 * (f2 % 2)).toNat 0) := by
          have : (f1 % 2 + 2 * (f2 % 2)).toNat < L.lv[s].length := by rw [perm.length_eq]; show _ < 4; omega
          rw [List.getD_eq_getElem?_getD, List.getElem?_eq_getElem this]; rfl
        have gi := fun S => ixK_nn (S := S) (show 0 ≤ f1 % 2 + 2 * (f2 % 2) by omega) hix
        have gd := fun S => ixK_nn (S := S) (Int.natCast_nonneg s) hdg
        have gl : ∀ S, ixK (lvD L.lv) (s : Int) S = .ok (.p (.tup (L.lv[s].map .int))) S := fun S => by
          exact ixK_of (atI_of (Int.natCast_nonneg s) hlv)
        generalize L.lv[s].getD (f1 % 2 + 2 * (f2 % 2)).toNat 0 = nn at *
        generalize L.dg.getD s 0 = dd at *
        have m2 : CMulW 2 (f2 % 2) := cmulw (n := 3) (m := 3) (Bt.of (by omega)) (Bt.of (by omega))
        have mA : A.map D.int ++ [D.int (f1 / 2)] = (A ++ [f1 / 2]).map D.int := by simp
        have mB : B.map D.int ++ [D.int (f2 / 2)] = (B ++ [f2 / 2]).map D.int := by simp
        have mC : ∀ v, C.map D.int ++ [D.int v] = (C ++ [v]).map D.int := fun v => by simp
        unfold cmpD at eC2
        by_cases hn : nn = dd
        · rw [if_pos hn] at eC2
          simp! [bnd_bnd, lkD, bn, lvD_len, hf, hg, appK_ap aA, appK_ap aB, appK_ap aC', hk2, hs', gl, band1, opMul_i m2, gi, gd, hn, mA, mB, mC]
          exact wp_ok ⟨A ++ [_], B ++ [_], C ++ [_], _, _, _, _, _, _, _, _, _, _, _, rfl, by simp [hA], by simp [hB], by simp [hC], by rw [List.append_assoc]; exact eA2, by rw [List.append_assoc]; exact eB2, by rw [List.append_assoc]; exact eC2⟩
        · rw [if_neg hn] at eC2
          by_cases hl : nn < dd
          · rw [if_pos hl] at eC2
            simp! [bnd_bnd, lkD, bn, lvD_len, hf, hg, appK_ap aA, appK_ap aB, appK_ap aC', hk2, hs', gl, band1, opMul_i m2, gi, gd, hn, hl, mA, mB, mC]
            exact wp_ok ⟨A ++ [_], B ++ [_], C ++ [_], _, _, _, _, _, _, _, _, _, _, _, rfl, by simp [hA], by simp [hB], by simp [hC], by rw [List.append_assoc]; exact eA2, by rw [List.append_assoc]; exact eB2, by rw [List.append_assoc]; exact eC2⟩
          · rw [if_neg hl] at eC2
            simp! [bnd_bnd, lkD, bn, lvD_len, hf, hg, appK_ap aA, appK_ap aB, appK_ap aC', hk2, hs', gl, band1, opMul_i m2, gi, gd, hn, hl, mA, mB, mC]
            exact wp_ok ⟨A ++ [_], B ++ [_], C ++ [_], _, _, _, _, _, _, _, _, _, _, _, rfl, by simp [hA], by simp [hB], by simp [hC], by rw [List.append_assoc]; exact eA2, by rw [List.append_assoc]; exact eB2, by rw [List.append_assoc]; exact eC2⟩
      · have hs' : ¬ (s : Int) < (L.lv.length : Int) := by omega
        rw [if_neg fun z => hs z.2] at eC2
        generalize hf : bx + L.rt / 2 ^ s % 2 + aj = f1 at *
        generalize hg : b + L.sh / 2 ^ s % 2 + dj = f2 at *
        have mA : A.map D.int ++ [D.int (f1 / 2)] = (A ++ [f1 / 2]).map D.int := by simp
        have mB : B.map D.int ++ [D.int (f2 / 2)] = (B ++ [f2 / 2]).map D.int := by simp
        have mC : ∀ v, C.map D.int ++ [D.int v] = (C ++ [v]).map D.int := fun v => by simp
        rw [hk2] at eC2
        simp! [bnd_bnd, lkD, bn, lvD_len, hf, hg, appK_ap aA, appK_ap aB, appK_ap aC', hk2, hs', mA, mB, mC]
        exact wp_ok ⟨A ++ [_], B ++ [_], C ++ [_], _, _, _, _, _, _, _, _, _, _, _, rfl, by simp [hA], by simp [hB], by simp [hC], by rw [List.append_assoc]; exact eA2, by rw [List.append_assoc]; exact eB2, by rw [List.append_assoc]; exact eC2⟩
    · rw [if_neg fun z => hk2 z.1] at eC2
      generalize hf : bx + L.rt / 2 ^ s % 2 + aj = f1 at *
      generalize hg : b + L.sh / 2 ^ s % 2 + dj = f2 at *
      have mA : A.map D.int ++ [D.int (f1 / 2)] = (A ++ [f1 / 2]).map D.int := by simp
      have mB : B.map D.int ++ [D.int (f2 / 2)] = (B ++ [f2 / 2]).map D.int := by simp
      have mC : ∀ v, C.map D.int ++ [D.int v] = (C ++ [v]).map D.int := fun v => by simp
      simp! [bnd_bnd, lkD, bn, lvD_len, hf, hg, appK_ap aA, appK_ap aB, appK_ap aC', hk2, mA, mB, mC]
      exact wp_ok ⟨A ++ [_], B ++ [_], C ++ [_], _, _, _, _, _, _, _, _, _, _, _, rfl, by simp [hA], by simp [hB], by simp [hC], by rw [List.append_assoc]; exact eA2, by rw [List.append_assoc]; exact eB2, by rw [List.append_assoc]; exact eC2⟩
  · rintro S ⟨A, B, C, s11, s12, s13, s14, s15, s16, s17, s18, s19, s20, s21, rfl, hA, hB, hC, eA, eB, eC⟩
    have z : (zipL [looks.map lkD, a.map D.int, d.map D.int, k.map D.int]).length = looks.length := by
      show (List.zipWith _ _ (List.zipWith _ _ (List.zipWith _ _ (List.map _ _)))).length = _
      simp only [List.length_zipWith, List.length_map]
      omega
    rw [z, List.drop_length] at eA eB eC
    have eA2 : A ++ [] = (stepList s bx b looks a d k).map (·.1) := eA
    have eB2 : B ++ [] = (stepList s bx b looks a d k).map (·.2.1) := eB
    have eC2 : C ++ [] = (stepList s bx b looks a d k).map (·.2.2) := eC
    rw [List.append_nil] at eA2 eB2 eC2
    simp! [bnd_bnd]
    refine wpf_ok ⟨?_, rfl⟩
    rw [eA2, eB2, eC2]; rfl
end Lib

set_option Elab.async false
set_option linter.all false
set_option maxRecDepth 100000
set_option exponentiation.threshold 2000
namespace Lib
open PySem PySem.Spec PyProof.Rows L2 Dd
/-! ### the states as a dict's keys -/
theorem nkL_map {α : Type} {e : α → D} {g : α → NestedKey} (h : ∀ x, nkD (e x) = some (g x)) : ∀ l : List α, nkL (l.map e) = some (l.map g)
  | [] => by unfold nkL; rfl
  | x :: l => by
    rw [List.map_cons]
    unfold nkL
    rw [h x, nkL_map h l]; rfl
theorem nk_int (i : Int) : nkD (.int i) = some (.num i) := by unfold nkD; rfl
theorem nk_bl (b : Bool) : nkD (.bl b) = some (.num (if b = true then 1 else 0)) := by unfold nkD; rfl
theorem nk_tup {l : List D} {ks : List NestedKey} (h : nkL l = some ks) : nkD (.tup l) = some (.tup ks) := by unfold nkD; rw [h]
theorem nkL_c {d : D} {r : List D} {k : NestedKey} {ks : List NestedKey} (h : nkD d = some k) (h2 : nkL r = some ks) : nkL (d :: r) = some (k :: ks) := by unfold nkL; rw [h, h2]
theorem nkL_n : nkL [] = some [] := by unfold nkL; rfl
theorem dpA_num {α : Type} (f : α → Int) : ∀ l : List α, NestedKey.depthAll (l.map fun x => .num (f x)) = 0
  | [] => rfl
  | x :: l => by
    show max (NestedKey.depth (.num (f x))) (NestedKey.depthAll (l.map fun x => .num (f x))) = 0
    rw [dpA_num f l]; rfl
theorem ntA_num {α : Type} (f : α → Int) : ∀ l : List α, noTxts (l.map fun x => .num (f x)) = true
  | [] => rfl
  | x :: l => by
    rw [List.map_cons]
    show (noTxt (.num (f x)) && noTxts (l.map fun x => .num (f x))) = true
    rw [ntA_num f l]; rfl
def niK (l : List Int) : NestedKey := .tup (l.map fun i => .num i)
def nkT (κ : KT) : NestedKey := .tup [.tup [niK κ.1.1, niK κ.1.2.1, niK κ.1.2.2], .num (if κ.2.1 = true then 1 else 0), .num (if κ.2.2 = true then 1 else 0)]
def nkB (bs : List Bool) : NestedKey := .tup (bs.map fun b => .num (if b = true then 1 else 0))
def bsD (bs : List Bool) : D := .tup (bs.map .bl)
theorem nk_ints (l : List Int) : nkD (.tup (l.map .int)) = some (niK l) := nk_tup (nkL_map nk_int l)
theorem nk_kt (κ : KT) : nkD (ktD κ) = some (nkT κ) := nk_tup (nkL_c (nk_tup (nkL_c (nk_ints _) (nkL_c (nk_ints _) (nkL_c (nk_ints _) nkL_n)))) (nkL_c (nk_bl _) (nkL_c (nk_bl _) nkL_n)))
theorem nk_bs (bs : List Bool) : nkD (bsD bs) = some (nkB bs) := nk_tup (nkL_map nk_bl bs)
theorem key_kt (κ : KT) : keyN (ktD κ) = some (nkT κ) := by
  have h := nk_kt κ
  unfold ktD at h ⊢
  unfold keyN
  simp only [h]
  have e : NestedKey.depth (nkT κ) ≤ 8 := by
    have z := fun l : List Int => dpA_num (fun i : Int => i) l
    simp only [nkT, niK, NestedKey.depth, NestedKey.depthAll, z]
    decide
  have t : noTxt (nkT κ) = true := by
    have z := fun l : List Int => ntA_num (fun i : Int => i) l
    simp only [nkT, niK, noTxt, noTxts, z, Bool.and_true]
  rw [if_pos ⟨e, t⟩]
theorem key_bs (bs : List Bool) : keyN (bsD bs) = some (nkB bs) := by
  have h := nk_bs bs
  unfold bsD at h ⊢
  unfold keyN
  simp only [h]
  have e : NestedKey.depth (nkB bs) ≤ 8 := by
    simp only [nkB, NestedKey.depth, dpA_num (fun b : Bool => if b = true then (1 : Int) else 0) bs]
    decide
  have t : noTxt (nkB bs) = true := by
    simp only [nkB, noTxt, ntA_num (fun b : Bool => if b = true then (1 : Int) else 0) bs]
  rw [if_pos ⟨e, t⟩]
theorem bi_inj {a b : Bool} (h : (if a = true then (1 : Int) else 0) = if b = true then 1 else 0) : a = b := by
  cases a <;> cases b <;> first | rfl | (simp at h)
theorem num_inj {α : Type} {f : α → Int} (hf : ∀ a b, f a = f b → a = b) : ∀ {l m : List α}, (l.map fun x => NestedKey.num (f x)) = (m.map fun x => NestedKey.num (f x)) → l = m
  | [], [], _ => rfl
  | [], b :: m, h => by simp at h
  | a :: l, [], h => by simp at h
  | a :: l, b :: m, h => by
    rw [List.map_cons, List.map_cons] at h
    injection h with h1 h2
    injection h1 with h1
    rw [hf a b h1, num_inj hf h2]
theorem niK_inj {l m : List Int} (h : niK l = niK m) : l = m := by
  unfold niK at h
  injection h with h
  exact num_inj (f := fun i : Int => i) (fun a b e => e) h
theorem nkT_inj {κ μ : KT} (h : nkT κ = nkT μ) : κ = μ := by
  obtain ⟨⟨a, d, k⟩, f, g⟩ := κ
  obtain ⟨⟨a', d', k'⟩, f', g'⟩ := μ
  unfold nkT at h
  simp only at h
  injection h with h
  injection h with h1 h2
  injection h2 with h2 h3
  injection h3 with h3 _
  injection h1 with h1
  injection h1 with q1 q2
  injection q2 with q2 q3
  injection q3 with q3 _
  injection h2 with h2
  injection h3 with h3
  rw [niK_inj q1, niK_inj q2, niK_inj q3, bi_inj h2, bi_inj h3]
theorem nkB_inj {l m : List Bool} (h : nkB l = nkB m) : l = m := by
  unfold nkB at h
  injection h with h
  exact num_inj (f := fun b : Bool => if b = true then (1 : Int) else 0) (fun a b e => bi_inj e) h
/-! a dict, as a list of pairs -/
section
variable {K : Type} [DecidableEq K] {enc : K → D} {nk : K → NestedKey}
def entD (enc : K → D) (p : K × Int) : D × D := (enc p.1, .int p.2)
theorem dfind_map (hn : ∀ k, nkD (enc k) = some (nk k)) (hi : ∀ {a b}, nk a = nk b → a = b) (k : K) : ∀ S : List (K × Int), dfind (nk k) (S.map (entD enc)) = if k ∈ tKeys S then some (.int (tGet S k)) else none
  | [] => by simp [tKeys]; rfl
  | (j, u) :: S => by
    show (if nkD (enc j) = some (nk k) then some (D.int u) else dfind (nk k) (S.map (entD enc))) = _
    rw [hn j, dfind_map hn hi k S, show tGet ((j, u) :: S) k = if j = k then u else tGet S k from rfl]
    by_cases e : j = k
    · subst e
      simp [tKeys]
    · have ne : ¬ (some (nk j) = some (nk k)) := fun z => e (hi (Option.some.inj z))
      have nk2 : k ∈ tKeys ((j, u) :: S) ↔ k ∈ tKeys S := by
        simp only [tKeys, List.map_cons, List.mem_cons]
        exact ⟨fun h => h.resolve_left fun z => e z.symm, Or.inr⟩
      rw [if_neg ne, if_neg e]
      by_cases m : k ∈ tKeys S
      · rw [if_pos m, if_pos (nk2.mpr m)]
      · rw [if_neg m, if_neg fun z => m (nk2.mp z)]
theorem tAdd_new (k : K) (v : Int) : ∀ {S : List (K × Int)}, k ∉ tKeys S → tAdd S k v = S ++ [(k, v)]
  | [], _ => rfl
  | (j, u) :: S, h => by
    have h2 : ¬ j = k ∧ k ∉ tKeys S := ⟨fun z => h (by simp [tKeys, z]), fun z => h (List.mem_cons_of_mem _ z)⟩
    unfold tAdd
    rw [if_neg h2.1, tAdd_new k v h2.2]; rfl
theorem tGet_new (k : K) : ∀ {S : List (K × Int)}, k ∉ tKeys S → tGet S k = 0
  | [], _ => rfl
  | (j, u) :: S, h => by
    have h2 : ¬ j = k ∧ k ∉ tKeys S := ⟨fun z => h (by simp [tKeys, z]), fun z => h (List.mem_cons_of_mem _ z)⟩
    unfold tGet
    rw [if_neg h2.1, tGet_new k h2.2]
theorem dput_same (hn : ∀ k, nkD (enc k) = some (nk k)) (hi : ∀ {a b}, nk a = nk b → a = b) (k : K) (v : D) : ∀ {S : List (K × Int)}, k ∉ tKeys S → (S.map (entD enc)).map (fun p => if nkD p.1 = some (nk k) then (p.1, v) else p) = S.map (entD enc)
  | [], _ => rfl
  | (j, u) :: S, h => by
    have h2 : ¬ j = k ∧ k ∉ tKeys S := ⟨fun z => h (by simp [tKeys, z]), fun z => h (List.mem_cons_of_mem _ z)⟩
    rw [List.map_cons, List.map_cons, dput_same hn hi k v h2.2]
    show (if nkD (enc j) = some (nk k) then _ else _) :: _ = _
    rw [hn j, if_neg fun z => h2.1 (hi (Option.some.inj z))]
theorem dput_upd (hn : ∀ k, nkD (enc k) = some (nk k)) (hi : ∀ {a b}, nk a = nk b → a = b) (k : K) (v : Int) : ∀ {S : List (K × Int)}, (tKeys S).Nodup → k ∈ tKeys S → (S.map (entD enc)).map (fun p => if nkD p.1 = some (nk k) then (p.1, D.int (tGet S k + v)) else p) = (tAdd S k v).map (entD enc)
  | [], _, h => by simp [tKeys] at h
  | (j, u) :: S, nd, h => by
    have nd2 := List.nodup_cons.mp nd
    unfold tAdd tGet
    by_cases e : j = k
    · subst e
      rw [if_pos rfl, if_pos rfl, List.map_cons, List.map_cons, dput_same hn hi j _ nd2.1]
      show (if nkD (enc j) = some (nk j) then _ else _) :: _ = _
      rw [hn j, if_pos rfl]; rfl
    · have hm : k ∈ tKeys S := by
        simp only [tKeys, List.map_cons, List.mem_cons] at h
        exact h.resolve_left fun z => e z.symm
      rw [if_neg e, if_neg e, List.map_cons, List.map_cons, dput_upd hn hi k v nd2.2 hm]
      show (if nkD (enc j) = some (nk k) then _ else _) :: _ = _
      rw [hn j, if_neg fun z => e (hi (Option.some.inj z))]; rfl
theorem dput_add (hn : ∀ k, nkD (enc k) = some (nk k)) (hi : ∀ {a b}, nk a = nk b → a = b) (k : K) (v : Int) {S : List (K × Int)} (nd : (tKeys S).Nodup) : dput (nk k) (enc k) (.int (tGet S k + v)) (S.map (entD enc)) = (tAdd S k v).map (entD enc) := by
  unfold dput
  rw [dfind_map hn hi]
  by_cases m : k ∈ tKeys S
  · rw [if_pos m]
    exact dput_upd hn hi k v nd m
  · rw [if_neg m, tAdd_new k v m, tGet_new k m, List.map_append]
    show (if (none : Option D).isSome = true then _ else _) = _
    rw [if_neg (by decide)]
    show _ ++ [(enc k, D.int (0 + v))] = _ ++ [(enc k, D.int v)]
    rw [Int.zero_add]
end
/-! such dicts in a cell -/
section
variable {K : Type} [DecidableEq K] {enc : K → D} {nk : K → NestedKey} {X J : Store} {sl : List (Option R)} {S : List (K × Int)} {k : K} {v : Int}
theorem dchk_x {kvs : List (D × D)} : dchk (.r X.length) ⟨sl, X ++ (.mu (.dt kvs) :: J)⟩ = .ok () ⟨sl, X ++ (.mu (.dt kvs) :: J)⟩ := by
  unfold dchk dtL
  simp only [get_app0, List.getElem?_cons_zero]
  rfl
theorem dget_x (hk : keyN (enc k) = some (nk k)) (hn : ∀ k, nkD (enc k) = some (nk k)) (hi : ∀ {a b}, nk a = nk b → a = b) : dgetK (.r X.length) (enc k) (.p (.int 0)) ⟨sl, X ++ (.mu (.dt (S.map (entD enc))) :: J)⟩ = .ok (.p (.int (tGet S k))) ⟨sl, X ++ (.mu (.dt (S.map (entD enc))) :: J)⟩ := by
  unfold dgetK dtL
  simp only [get_app0, List.getElem?_cons_zero, dtC, hk, dfind_map hn hi]
  by_cases m : k ∈ tKeys S
  · rw [if_pos m]
  · rw [if_neg m, tGet_new k m]
theorem dset_x (hk : keyN (enc k) = some (nk k)) (hn : ∀ k, nkD (enc k) = some (nk k)) (hi : ∀ {a b}, nk a = nk b → a = b) (nd : (tKeys S).Nodup) (hl : S.length < sizeLine) : dsetK (.r X.length) (enc k) (.int (tGet S k + v)) ⟨sl, X ++ (.mu (.dt (S.map (entD enc))) :: J)⟩ = .ok .nx ⟨sl, X ++ (.mu (.dt ((tAdd S k v).map (entD enc))) :: J)⟩ := by
  unfold dsetK
  simp only [get_app0, List.getElem?_cons_zero, dtC, hk]
  rw [if_pos (by rw [List.length_map]; exact hl), dput_add hn hi k v nd]
  simp only [set_app0, List.set_cons_zero]
theorem dit_x {kvs : List (D × D)} : ditK (.r X.length) ⟨sl, X ++ (.mu (.dt kvs) :: J)⟩ = .ok ⟨fun _ => True, kvs.map fun p => [p.1, p.2]⟩ ⟨sl, X ++ (.dead :: J)⟩ := by
  unfold ditK
  simp only [get_app0, List.getElem?_cons_zero, dtC, set_app0, List.set_cons_zero]
theorem dt1_x (hk : keyN (enc k) = some (nk k)) : dt1K (enc k) (.int v) ⟨sl, X⟩ = .ok (.r X.length) ⟨sl, X ++ [.mu (.dt ([(k, v)].map (entD enc)))]⟩ := by
  unfold dt1K
  rw [hk]; rfl
end
end Lib

set_option Elab.async false
set_option linter.all false
set_option maxRecDepth 100000
set_option exponentiation.threshold 2000
namespace Lib
open PySem PySem.Spec PyProof.Rows L2 Dd
/-! ### how many states there are -/
theorem pig : ∀ (N : Nat) (l : List Nat), l.Nodup → (∀ x ∈ l, x < N) → l.length ≤ N
  | 0, l, _, h => by
    cases l with
    | nil => exact Nat.le_refl _
    | cons a l => exact absurd (h a (by simp)) (Nat.not_lt_zero _)
  | N + 1, l, nd, h => by
    by_cases m : N ∈ l
    · have e := List.length_erase_of_mem m
      have ih := pig N (l.erase N) (nd.erase N) fun x hx => by
        have h1 := (List.Nodup.mem_erase_iff nd).mp hx
        have h2 := h x h1.2
        have h3 := h1.1
        omega
      omega
    · have ih := pig N l nd fun x hx => by
        have h2 := h x hx
        have h3 : x ≠ N := fun z => m (z ▸ hx)
        omega
      omega
def cB (b : Nat) : List Int → Nat
  | [] => 0
  | v :: l => v.toNat + b * cB b l
theorem cB_lt (b : Nat) : ∀ {l : List Int}, (∀ v ∈ l, 0 ≤ v ∧ v < b) → cB b l < b ^ l.length
  | [], _ => by show 0 < 1; omega
  | v :: l, h => by
    have ih := cB_lt b (l := l) fun x hx => h x (by simp [hx])
    obtain ⟨h0, h1⟩ := h v (by simp)
    show v.toNat + b * cB b l < b ^ (l.length + 1)
    have : b * (cB b l + 1) ≤ b * b ^ l.length := Nat.mul_le_mul_left _ ih
    rw [Nat.pow_succ, Nat.mul_comm (b ^ l.length)]
    rw [Nat.mul_add, Nat.mul_one] at this
    omega
theorem cB_inj (b : Nat) : ∀ {l m : List Int}, l.length = m.length → (∀ v ∈ l, 0 ≤ v ∧ v < b) → (∀ v ∈ m, 0 ≤ v ∧ v < b) → cB b l = cB b m → l = m
  | [], [], _, _, _, _ => rfl
  | [], _ :: _, e, _, _, _ => by simp at e
  | _ :: _, [], e, _, _, _ => by simp at e
  | v :: l, w :: m, e, h, h', c => by
    obtain ⟨a0, a1⟩ := h v (by simp)
    obtain ⟨b0, b1⟩ := h' w (by simp)
    have c : v.toNat + b * cB b l = w.toNat + b * cB b m := c
    have bp : 0 < b := by omega
    have m1 : (v.toNat + b * cB b l) % b = v.toNat := by rw [Nat.add_mul_mod_self_left]; exact Nat.mod_eq_of_lt (by omega)
    have m2 : (w.toNat + b * cB b m) % b = w.toNat := by rw [Nat.add_mul_mod_self_left]; exact Nat.mod_eq_of_lt (by omega)
    have vw : v.toNat = w.toNat := by rw [← m1, ← m2, c]
    have cc : cB b l = cB b m := by
      have : b * cB b l = b * cB b m := by omega
      exact Nat.eq_of_mul_eq_mul_left bp this
    rw [cB_inj b (by simpa using e) (fun x hx => h x (by simp [hx])) (fun x hx => h' x (by simp [hx])) cc]
    congr 1; omega
/-- a state of n looks -/
structure KIn (n : Nat) (κ : KT) : Prop where
  la : κ.1.1.length = n
  ld : κ.1.2.1.length = n
  lk : κ.1.2.2.length = n
  ba : ∀ v ∈ κ.1.1, 0 ≤ v ∧ v < 2
  bd : ∀ v ∈ κ.1.2.1, 0 ≤ v ∧ v < 2
  bk : ∀ v ∈ κ.1.2.2, 0 ≤ v ∧ v < 3
def bN (b : Bool) : Nat := if b = true then 1 else 0
def codeT (n : Nat) (κ : KT) : Nat := bN κ.2.1 + 2 * (bN κ.2.2 + 2 * (cB 2 κ.1.1 + 2 ^ n * (cB 2 κ.1.2.1 + 2 ^ n * cB 3 κ.1.2.2)))
theorem mixC {A B a b P : Nat} (hA : A < P) (ha : a < P) (h : A + P * B = a + P * b) : A = a ∧ B = b := by
  have m1 : (A + P * B) % P = A := by rw [Nat.add_mul_mod_self_left]; exact Nat.mod_eq_of_lt hA
  have m2 : (a + P * b) % P = a := by rw [Nat.add_mul_mod_self_left]; exact Nat.mod_eq_of_lt ha
  have e : A = a := by rw [← m1, ← m2, h]
  refine ⟨e, ?_⟩
  have : P * B = P * b := by omega
  exact Nat.eq_of_mul_eq_mul_left (by omega) this
theorem mixCl {A B P Q : Nat} (hA : A < P) (hB : B < Q) : A + P * B < P * Q := by
  have : P * (B + 1) ≤ P * Q := Nat.mul_le_mul_left _ hB
  rw [Nat.mul_add, Nat.mul_one] at this
  omega
theorem bN_lt (b : Bool) : bN b < 2 := by cases b <;> decide
theorem codeT_lt {n : Nat} {κ : KT} (h : KIn n κ) : codeT n κ < 2 * (2 * (2 ^ n * (2 ^ n * 3 ^ n))) := by
  have a := cB_lt 2 h.ba
  have d := cB_lt 2 h.bd
  have k := cB_lt 3 h.bk
  rw [h.la] at a; rw [h.ld] at d; rw [h.lk] at k
  exact mixCl (bN_lt _) (mixCl (bN_lt _) (mixCl a (mixCl d k)))
theorem codeT_inj {n : Nat} {κ μ : KT} (h : KIn n κ) (h' : KIn n μ) (e : codeT n κ = codeT n μ) : κ = μ := by
  have a := cB_lt 2 h.ba
  have d := cB_lt 2 h.bd
  rw [h.la] at a; rw [h.ld] at d
  have a' := cB_lt 2 h'.ba
  have d' := cB_lt 2 h'.bd
  rw [h'.la] at a'; rw [h'.ld] at d'
  obtain ⟨e1, e⟩ := mixC (bN_lt _) (bN_lt _) e
  obtain ⟨e2, e⟩ := mixC (bN_lt _) (bN_lt _) e
  obtain ⟨e3, e⟩ := mixC a a' e
  obtain ⟨e4, e⟩ := mixC d d' e
  have q1 := cB_inj 2 (h.la.trans h'.la.symm) h.ba h'.ba e3
  have q2 := cB_inj 2 (h.ld.trans h'.ld.symm) h.bd h'.bd e4
  have q3 := cB_inj 3 (h.lk.trans h'.lk.symm) h.bk h'.bk e
  have b : ∀ {x y : Bool}, bN x = bN y → x = y := fun {x y} => by cases x <;> cases y <;> simp [bN]
  obtain ⟨⟨x1, x2, x3⟩, x4, x5⟩ := κ
  obtain ⟨⟨y1, y2, y3⟩, y4, y5⟩ := μ
  simp only at q1 q2 q3
  have r1 : x4 = y4 := b e1
  have r2 : x5 = y5 := b e2
  rw [q1, q2, q3, r1, r2]
theorem few_by {α : Type} {c : α → Nat} {N : Nat} {l : List α} (nd : l.Nodup) (lt : ∀ x ∈ l, c x < N) (inj : ∀ x ∈ l, ∀ y ∈ l, c x = c y → x = y) : l.length ≤ N := by
  have := pig N (l.map c) (by
    induction l with
    | nil => exact List.nodup_nil
    | cons a l ih =>
      have h := List.nodup_cons.mp nd
      rw [List.map_cons]
      refine List.nodup_cons.mpr ⟨fun z => ?_, ih h.2 (fun x hx => lt x (by simp [hx])) fun x hx y hy => inj x (by simp [hx]) y (by simp [hy])⟩
      obtain ⟨x, hx, e⟩ := List.mem_map.mp z
      have := inj x (by simp [hx]) a (by simp) e
      subst this
      exact h.1 hx) fun x hx => by
    obtain ⟨y, hy, rfl⟩ := List.mem_map.mp hx
    exact lt y hy
  rwa [List.length_map] at this
theorem states_few {n : Nat} (h5 : n ≤ 5) {S : List (KT × Int)} (nd : (tKeys S).Nodup) (h : ∀ κ ∈ tKeys S, KIn n κ) : S.length < sizeLine := by
  have := few_by (c := codeT n) nd (fun x hx => codeT_lt (h x hx)) fun x hx y hy => codeT_inj (h x hx) (h y hy)
  unfold tKeys at this
  rw [List.length_map] at this
  have q : 2 * (2 * (2 ^ n * (2 ^ n * 3 ^ n))) ≤ 2 * (2 * (2 ^ 5 * (2 ^ 5 * 3 ^ 5))) := by
    have a : 2 ^ n ≤ 2 ^ 5 := Nat.pow_le_pow_right (by decide) h5
    have b : 3 ^ n ≤ 3 ^ 5 := Nat.pow_le_pow_right (by decide) h5
    exact Nat.mul_le_mul_left _ (Nat.mul_le_mul_left _ (Nat.mul_le_mul a (Nat.mul_le_mul a b)))
  rw [sizeLine_eq]
  have : 2 * (2 * (2 ^ 5 * (2 ^ 5 * 3 ^ 5))) < 16777216 := by decide
  omega
theorem found_few {n : Nat} (h5 : n ≤ 5) {S : List (List Bool × Int)} (nd : (tKeys S).Nodup) (h : ∀ bs ∈ tKeys S, bs.length = n) : S.length < sizeLine := by
  have := few_by (c := fun bs => cB 2 (bs.map fun b => ((bN b : Nat) : Int))) (N := 2 ^ n) nd (fun x hx => by
    have q := cB_lt 2 (l := x.map fun b => ((bN b : Nat) : Int)) (fun v hv => by
      obtain ⟨b, _, rfl⟩ := List.mem_map.mp hv
      cases b <;> simp [bN])
    rwa [List.length_map, h x hx] at q) fun x hx y hy e => by
    have bd : ∀ z : List Bool, ∀ v ∈ z.map fun b => ((bN b : Nat) : Int), 0 ≤ v ∧ v < 2 := fun z v hv => by
      obtain ⟨b, _, rfl⟩ := List.mem_map.mp hv
      cases b <;> simp [bN]
    have q := cB_inj 2 (by rw [List.length_map, List.length_map, h x hx, h y hy]) (bd x) (bd y) e
    clear e hx hy
    induction x generalizing y with
    | nil =>
      cases y with
      | nil => rfl
      | cons b y => simp at q
    | cons a x ih =>
      cases y with
      | nil => simp at q
      | cons b y =>
        rw [List.map_cons, List.map_cons] at q
        injection q with q1 q2
        rw [ih y q2]
        congr 1
        cases a <;> cases b <;> simp [bN] at q1 ⊢
  unfold tKeys at this
  rw [List.length_map] at this
  have a : 2 ^ n ≤ 2 ^ 5 := Nat.pow_le_pow_right (by decide) h5
  rw [sizeLine_eq]
  have : (2 : Nat) ^ 5 < 16777216 := by decide
  omega
end Lib

set_option Elab.async false
set_option linter.all false
set_option maxRecDepth 100000
set_option exponentiation.threshold 2000
namespace Lib
open PySem PySem.Spec PyProof.Rows L2 Dd
/-! ### tally -/
noncomputable def tyO : M Fl := (sSq (sSet 22 (callM s_step_of 5 (aC (vr 7) (aC (vr 12) (aC (vr 16) (aC (vr 20) (aC (vr 21) aN))))))) (sIf (tst (callM s_may_be 2 (aC (bin opIx (vr 22) (ci 2)) (aC (vr 1) aN)))) (sSq (sSet 23 (tupE (aC (vr 22) (aC (callM s_less_so_far 3 (aC (vr 20) (aC (vr 14) (aC (vr 17) aN)))) (aC (callM s_less_so_far 3 (aC (vr 21) (aC (vr 15) (aC (vr 18) aN)))) aN))))) (sDset (bin opAdd (dgetE (vr 13) (vr 23) (ci 0)) (vr 19)) (vr 13) (vr 23))) sNx))
noncomputable def tyY : M Fl := (sFor (itL (tupE (aC (ci 0) (aC (ci 1) aN)))) (gN 21) tyO)
noncomputable def tyX : M Fl := (sFor (itL (tupE (aC (ci 0) (aC (ci 1) aN)))) (gN 20) tyY)
noncomputable def tyI : M Fl := (sFor (ditE (vr 11)) (gsC (gT 3 (gsC (gN 16) (gsC (gN 17) (gsC (gN 18) gsN)))) (gsC (gN 19) gsN)) tyX)
noncomputable def tyT : M Fl := (sSq (sSet 13 dtE) (sSq (sPar 14 15 (aC (callM s_bit_of 2 (aC (vr 5) (aC (vr 12) aN))) (aC (callM s_bit_of 2 (aC (vr 6) (aC (vr 12) aN))) aN))) (sSq tyI (sSet 11 (vr 13)))))
noncomputable def tyS : M Fl := (sFor (itR1 (aC (vr 8) aN)) (gN 12) tyT)
noncomputable def tyF : M Fl := (sSq (sSet 25 (pur (opA (op1 opTuple) (aC (lcE [32] [32] unp1 (itL (bin opIx (vr 16) (ci 2))) tYesM (bin opEqD (vr 32) (ci 1))) aN)))) (sSq (sSet 26 (bin opMul (bin opMul (vr 19) (bin opAdd (bin opShr (vr 5) (vr 8)) (opA (op1 opInt) (aC (vr 17) aN)))) (bin opAdd (bin opShr (vr 6) (vr 8)) (opA (op1 opInt) (aC (vr 18) aN))))) (sDset (bin opAdd (dgetE (vr 24) (vr 25) (ci 0)) (vr 26)) (vr 24) (vr 25))))
noncomputable def tyG : M Fl := (sFor (ditE (vr 11)) (gsC (gT 3 (gsC (gN 16) (gsC (gN 17) (gsC (gN 18) gsN)))) (gsC (gN 19) gsN)) tyF)
noncomputable def tyW : M Fl := (sSq (sAsg (vr 2) (gT 4 (gsC (gN 3) (gsC (gN 4) (gsC (gN 5) (gsC (gN 6) gsN)))))) (sSq (sSq (sSet 7 (lcE [27, 28, 29, 30] [27, 28, 29, 30] unpT (itL (vr 0)) tYesM (tupE (aC (vr 27) (aC (vr 28) (aC (bin opAdd (vr 29) (vr 3)) (aC (bin opAdd (vr 30) (vr 4)) aN))))))) (sPur 7)) (sSq (sSet 8 (opA (op1 opMaxL) (aC (lcE [31] [31] unp1 (itL (vr 0)) tYesM (opA (op1 opLen) (aC (bin opIx (vr 31) (ci 0)) aN))) aN))) (sSq (sSet 9 (opA (op1 opLen) (aC (vr 0) aN))) (sSq (sSet 10 (tupE (aC (opA (op1 opTuple) (aC (bin opMul (lstE (aC (ci 0) aN)) (vr 9)) aN)) (aC (opA (op1 opTuple) (aC (bin opMul (lstE (aC (ci 0) aN)) (vr 9)) aN)) (aC (opA (op1 opTuple) (aC (bin opMul (lstE (aC (ci 2) aN)) (vr 9)) aN)) aN))))) (sSq (sSet 11 (dt1E (tupE (aC (vr 10) (aC (cb false) (aC (cb false) aN)))) (ci 1))) (sSq tyS (sSq (sSet 24 dtE) (sSq tyG (sRt (vr 24)))))))))))
theorem tally_eq : b_tally = tyW := rfl

theorem may_i (ws : Option (List Int)) (ks : List Int) (hk : ks.length ≤ 9) (st : Store) : s_may_be [.p (.tup (ks.map .int)), .p (wtD ws)] st = .ok (.val (.bl (mayK ws ks))) st := by
  cases ws with
  | none => exact may_n ks st
  | some ws => exact may_s ks ws hk st
theorem s3_ix2 (q : List Int × List Int × List Int) (S : Sg) : opIx (.p (s3D q)) (.p (.int 2)) S = .ok (.p (.tup (q.2.2.map .int))) S := by
  unfold s3D; simp! []
theorem kt_fold (q : List Int × List Int × List Int) (f g : Bool) : D.tup [s3D q, .bl f, .bl g] = ktD (q, f, g) := rfl
theorem stepList_len (s : Nat) (bx b : Int) : ∀ {looks : List Look} {a d k : List Int}, a.length = looks.length → d.length = looks.length → k.length = looks.length → (stepList s bx b looks a d k).length = looks.length
  | [], _, _, _, _, _, _ => rfl
  | L :: Ls, a :: as, d :: ds, k :: ks, h1, h2, h3 => by
    show (_ :: stepList s bx b Ls as ds ks).length = _
    rw [List.length_cons, stepList_len s bx b (by simpa using h1) (by simpa using h2) (by simpa using h3)]; rfl
  | L :: Ls, [], _, _, h1, _, _ => by simp at h1
  | L :: Ls, _ :: _, [], _, _, h2, _ => by simp at h2
  | L :: Ls, _ :: _, _ :: _, [], _, _, h3 => by simp at h3
theorem tl_one {mv : List Look} (ok : ∀ L ∈ mv, LkOk L) (h9 : mv.length ≤ 9) {ws : Option (List Int)} {w h : Int} {s : Nat} {κ : KT} (hκ : KIn mv.length κ) {x y : Int} (x0 : 0 ≤ x) (x1 : x ≤ 1) (y0 : 0 ≤ y) (y1 : y ≤ 1) {times : Int} {S : List (KT × Int)} (nd : (tKeys S).Nodup) (few : S.length < sizeLine) {X J : Store}
    (a0 a2 a3 a4 a5 a6 a8 a9 a10 a11 b22 b23 b24 b25 b26 : Option R) : ∃ c22 c23, tyO ⟨[a0, some (.p (wtD ws)), a2, a3, a4, a5, a6, some (.p (.lst (mv.map lkD))), a8, a9, a10, a11, some (.p (.int (s : Int))), some (.r X.length), some (.p (.int (w / 2 ^ s % 2))), some (.p (.int (h / 2 ^ s % 2))), some (.p (s3D κ.1)), some (.p (.bl κ.2.1)), some (.p (.bl κ.2.2)), some (.p (.int times)), some (.p (.int x)), some (.p (.int y)), b22, b23, b24, b25, b26, none, none, none, none, none, none], X ++ (.mu (.dt (S.map (entD ktD))) :: J)⟩ =
      .ok .nx ⟨[a0, some (.p (wtD ws)), a2, a3, a4, a5, a6, some (.p (.lst (mv.map lkD))), a8, a9, a10, a11, some (.p (.int (s : Int))), some (.r X.length), some (.p (.int (w / 2 ^ s % 2))), some (.p (.int (h / 2 ^ s % 2))), some (.p (s3D κ.1)), some (.p (.bl κ.2.1)), some (.p (.bl κ.2.2)), some (.p (.int times)), some (.p (.int x)), some (.p (.int y)), c22, c23, b24, b25, b26, none, none, none, none, none, none], X ++ (.mu (.dt ((tPut S (stepK mv ws w h s κ x y) times).map (entD ktD))) :: J)⟩ := by
  obtain ⟨⟨a, d, k⟩, f, g⟩ := κ
  have st := fun st => step_i ok h9 (s := s) (a := a) (d := d) (k := k) hκ.la hκ.ld hκ.lk (fun v hv => by have := hκ.ba v hv; omega) (fun v hv => by have := hκ.bd v hv; omega) x0 x1 y0 y1 st
  have ll := stepList_len s x y hκ.la hκ.ld hκ.lk
  simp only at ll
  have le := fun v b f st => less_i v b f st
  have hk3 : (enc3 (stepList s x y mv a d k)).2.2.length ≤ 9 := by
    show (List.map _ _).length ≤ 9
    rw [List.length_map, ll]; exact h9
  have ma := fun st => may_i ws _ hk3 st
  have sk : stepK mv ws w h s ((a, d, k), f, g) x y = if mayK ws (enc3 (stepList s x y mv a d k)).2.2 = true then some (enc3 (stepList s x y mv a d k), lessF x (w / 2 ^ s % 2) f, lessF y (h / 2 ^ s % 2) g) else none := rfl
  rw [sk]
  generalize enc3 (stepList s x y mv a d k) = q at *
  unfold tyO
  by_cases hm : mayK ws q.2.2 = true
  · rw [if_pos hm]
    refine ⟨some (.p (s3D q)), some (.p (ktD (q, lessF x (w / 2 ^ s % 2) f, lessF y (h / 2 ^ s % 2) g))), ?_⟩
    simp! [st, s3_ix2, ma, hm, le, kt_fold, sDset_ap, dgetE_ap, dchk_x, dget_x (key_kt _) nk_kt nkT_inj]
    rw [dset_x (key_kt _) nk_kt nkT_inj nd few]
    rfl
  · rw [if_neg hm]
    refine ⟨some (.p (s3D q)), b23, ?_⟩
    simp! [st, s3_ix2, ma, hm]
    rfl
theorem tPut_keys {S : List (KT × Int)} {o : Option KT} {v : Int} {κ : KT} (h : κ ∈ tKeys (tPut S o v)) : κ ∈ tKeys S ∨ o = some κ := by
  cases o with
  | none => exact .inl h
  | some k =>
    have h : κ ∈ tKeys (tAdd S k v) := h
    rw [tAdd_keys] at h
    split at h
    · exact .inl h
    · rcases List.mem_append.mp h with h | h
      · exact .inl h
      · exact .inr (by rw [List.mem_singleton.mp h])
theorem stepList_in {s : Nat} {bx b : Int} (x0 : 0 ≤ bx) (x1 : bx ≤ 1) (y0 : 0 ≤ b) (y1 : b ≤ 1) : ∀ {looks : List Look} {a d k : List Int}, (∀ L ∈ looks, LkOk L) → (∀ v ∈ a, 0 ≤ v ∧ v < 2) → (∀ v ∈ d, 0 ≤ v ∧ v < 2) → (∀ v ∈ k, 0 ≤ v ∧ v < 3) →
    ∀ q ∈ stepList s bx b looks a d k, (0 ≤ q.1 ∧ q.1 < 2) ∧ (0 ≤ q.2.1 ∧ q.2.1 < 2) ∧ (0 ≤ q.2.2 ∧ q.2.2 < 3)
  | [], _, _, _, _, _, _, _, q, h => by cases h
  | L :: Ls, [], _, _, _, _, _, _, q, h => by cases h
  | L :: Ls, _ :: _, [], _, _, _, _, _, q, h => by cases h
  | L :: Ls, _ :: _, _ :: _, [], _, _, _, _, q, h => by cases h
  | L :: Ls, a :: as, d :: ds, k :: ks, ok, ha, hd, hk, q, h => by
    have h : q ∈ lkStep s L bx b (a, d, k) :: stepList s bx b Ls as ds ks := h
    rcases List.mem_cons.mp h with rfl | h
    · have va := ha a (by simp)
      have vd := hd d (by simp)
      have vk := hk k (by simp)
      unfold lkStep
      simp only
      refine ⟨by omega, by omega, ?_⟩
      split
      · unfold cmpD
        split
        · omega
        · split <;> omega
      · exact vk
    · exact stepList_in x0 x1 y0 y1 (fun L hL => ok L (by simp [hL])) (fun v hv => ha v (by simp [hv])) (fun v hv => hd v (by simp [hv])) (fun v hv => hk v (by simp [hv])) q h
theorem stepK_in {mv : List Look} (ok : ∀ L ∈ mv, LkOk L) {ws : Option (List Int)} {w h : Int} {s : Nat} {κ μ : KT} (hκ : KIn mv.length κ) {x y : Int} (x0 : 0 ≤ x) (x1 : x ≤ 1) (y0 : 0 ≤ y) (y1 : y ≤ 1) (e : stepK mv ws w h s κ x y = some μ) : KIn mv.length μ := by
  unfold stepK at e
  simp only at e
  split at e
  · cases e
    have ll := stepList_len s x y hκ.la hκ.ld hκ.lk
    have li := stepList_in (s := s) x0 x1 y0 y1 ok hκ.ba hκ.bd hκ.bk
    refine ⟨?_, ?_, ?_, fun v hv => ?_, fun v hv => ?_, fun v hv => ?_⟩
    · show (List.map _ _).length = _; rw [List.length_map, ll]
    · show (List.map _ _).length = _; rw [List.length_map, ll]
    · show (List.map _ _).length = _; rw [List.length_map, ll]
    · obtain ⟨q, hq, rfl⟩ := List.mem_map.mp hv; exact (li q hq).1
    · obtain ⟨q, hq, rfl⟩ := List.mem_map.mp hv; exact (li q hq).2.1
    · obtain ⟨q, hq, rfl⟩ := List.mem_map.mp hv; exact (li q hq).2.2
  · cases e
/-- the states so far: apart, each of n looks -/
structure StsOk (n : Nat) (S : List (KT × Int)) : Prop where
  nd : (tKeys S).Nodup
  ki : ∀ κ ∈ tKeys S, KIn n κ
theorem StsOk.put {mv : List Look} (ok : ∀ L ∈ mv, LkOk L) {ws : Option (List Int)} {w h : Int} {s : Nat} {κ : KT} (hκ : KIn mv.length κ) {x y : Int} (x0 : 0 ≤ x) (x1 : x ≤ 1) (y0 : 0 ≤ y) (y1 : y ≤ 1) {S : List (KT × Int)} {t : Int} (so : StsOk mv.length S) : StsOk mv.length (tPut S (stepK mv ws w h s κ x y) t) :=
  ⟨tPut_nodup so.nd, fun μ hμ => (tPut_keys hμ).elim (so.ki μ) fun e => stepK_in ok hκ x0 x1 y0 y1 e⟩
theorem tl_y {mv : List Look} (ok : ∀ L ∈ mv, LkOk L) (h5 : mv.length ≤ 5) {ws : Option (List Int)} {w h : Int} {s : Nat} {κ : KT} (hκ : KIn mv.length κ) {x : Int} (x0 : 0 ≤ x) (x1 : x ≤ 1) {times : Int} {S : List (KT × Int)} (so : StsOk mv.length S) {X J : Store}
    (a0 a2 a3 a4 a5 a6 a8 a9 a10 a11 b21 b22 b23 b24 b25 b26 : Option R) : ∃ c21 c22 c23, tyY ⟨[a0, some (.p (wtD ws)), a2, a3, a4, a5, a6, some (.p (.lst (mv.map lkD))), a8, a9, a10, a11, some (.p (.int (s : Int))), some (.r X.length), some (.p (.int (w / 2 ^ s % 2))), some (.p (.int (h / 2 ^ s % 2))), some (.p (s3D κ.1)), some (.p (.bl κ.2.1)), some (.p (.bl κ.2.2)), some (.p (.int times)), some (.p (.int x)), b21, b22, b23, b24, b25, b26, none, none, none, none, none, none], X ++ (.mu (.dt (S.map (entD ktD))) :: J)⟩ =
      .ok .nx ⟨[a0, some (.p (wtD ws)), a2, a3, a4, a5, a6, some (.p (.lst (mv.map lkD))), a8, a9, a10, a11, some (.p (.int (s : Int))), some (.r X.length), some (.p (.int (w / 2 ^ s % 2))), some (.p (.int (h / 2 ^ s % 2))), some (.p (s3D κ.1)), some (.p (.bl κ.2.1)), some (.p (.bl κ.2.2)), some (.p (.int times)), some (.p (.int x)), c21, c22, c23, b24, b25, b26, none, none, none, none, none, none], X ++ (.mu (.dt ((tPut (tPut S (stepK mv ws w h s κ x 0) times) (stepK mv ws w h s κ x 1) times).map (entD ktD))) :: J)⟩ := by
  have so1 := so.put ok (ws := ws) (w := w) (h := h) (s := s) hκ x0 x1 (Int.le_refl 0) (by decide) (t := times)
  obtain ⟨p22, p23, e1⟩ := tl_one ok (by omega) (ws := ws) (w := w) (h := h) (s := s) hκ x0 x1 (Int.le_refl 0) (by decide) (times := times) so.nd (states_few h5 so.nd so.ki) (X := X) (J := J) a0 a2 a3 a4 a5 a6 a8 a9 a10 a11 b22 b23 b24 b25 b26
  obtain ⟨q22, q23, e2⟩ := tl_one ok (by omega) (ws := ws) (w := w) (h := h) (s := s) hκ x0 x1 (show (0 : Int) ≤ 1 by decide) (Int.le_refl 1) (times := times) so1.nd (states_few h5 so1.nd so1.ki) (X := X) (J := J) a0 a2 a3 a4 a5 a6 a8 a9 a10 a11 p22 p23 b24 b25 b26
  refine ⟨some (.p (.int 1)), q22, q23, ?_⟩
  unfold tyY
  simp! []
  rw [loopL_nx (ok := fun _ => True) trivial (show _ = Res.ok Fl.nx _ by rw [bind_bnd]; simp! []; exact e1), loopL_nx (ok := fun _ => True) trivial (show _ = Res.ok Fl.nx _ by rw [bind_bnd]; simp! []; exact e2), loopL_nil (ok := fun _ => True) trivial]
theorem tl_x {mv : List Look} (ok : ∀ L ∈ mv, LkOk L) (h5 : mv.length ≤ 5) {ws : Option (List Int)} {w h : Int} {s : Nat} {κ : KT} (hκ : KIn mv.length κ) {times : Int} {S : List (KT × Int)} (so : StsOk mv.length S) {X J : Store}
    (a0 a2 a3 a4 a5 a6 a8 a9 a10 a11 b20 b21 b22 b23 b24 b25 b26 : Option R) : ∃ c20 c21 c22 c23, tyX ⟨[a0, some (.p (wtD ws)), a2, a3, a4, a5, a6, some (.p (.lst (mv.map lkD))), a8, a9, a10, a11, some (.p (.int (s : Int))), some (.r X.length), some (.p (.int (w / 2 ^ s % 2))), some (.p (.int (h / 2 ^ s % 2))), some (.p (s3D κ.1)), some (.p (.bl κ.2.1)), some (.p (.bl κ.2.2)), some (.p (.int times)), b20, b21, b22, b23, b24, b25, b26, none, none, none, none, none, none], X ++ (.mu (.dt (S.map (entD ktD))) :: J)⟩ =
      .ok .nx ⟨[a0, some (.p (wtD ws)), a2, a3, a4, a5, a6, some (.p (.lst (mv.map lkD))), a8, a9, a10, a11, some (.p (.int (s : Int))), some (.r X.length), some (.p (.int (w / 2 ^ s % 2))), some (.p (.int (h / 2 ^ s % 2))), some (.p (s3D κ.1)), some (.p (.bl κ.2.1)), some (.p (.bl κ.2.2)), some (.p (.int times)), c20, c21, c22, c23, b24, b25, b26, none, none, none, none, none, none], X ++ (.mu (.dt ((tFour (stepK mv ws w h s) S (κ, times)).map (entD ktD))) :: J)⟩ := by
  have so1 := (so.put ok (ws := ws) (w := w) (h := h) (s := s) hκ (x := 0) (Int.le_refl 0) (by decide) (y := 0) (Int.le_refl 0) (by decide) (t := times)).put ok (ws := ws) (w := w) (h := h) (s := s) hκ (x := 0) (Int.le_refl 0) (by decide) (y := 1) (by decide) (Int.le_refl 1) (t := times)
  obtain ⟨p21, p22, p23, e1⟩ := tl_y ok h5 (ws := ws) (w := w) (h := h) (s := s) hκ (x := 0) (Int.le_refl 0) (by decide) (times := times) so (X := X) (J := J) a0 a2 a3 a4 a5 a6 a8 a9 a10 a11 b21 b22 b23 b24 b25 b26
  obtain ⟨q21, q22, q23, e2⟩ := tl_y ok h5 (ws := ws) (w := w) (h := h) (s := s) hκ (x := 1) (by decide) (Int.le_refl 1) (times := times) so1 (X := X) (J := J) a0 a2 a3 a4 a5 a6 a8 a9 a10 a11 p21 p22 p23 b24 b25 b26
  refine ⟨some (.p (.int 1)), q21, q22, q23, ?_⟩
  unfold tyX
  simp! []
  rw [loopL_nx (ok := fun _ => True) trivial (show _ = Res.ok Fl.nx _ by rw [bind_bnd]; simp! []; exact e1), loopL_nx (ok := fun _ => True) trivial (show _ = Res.ok Fl.nx _ by rw [bind_bnd]; simp! []; exact e2), loopL_nil (ok := fun _ => True) trivial]
  rfl
theorem StsOk.four {mv : List Look} (ok : ∀ L ∈ mv, LkOk L) {ws : Option (List Int)} {w h : Int} {s : Nat} {κ : KT} (hκ : KIn mv.length κ) {S : List (KT × Int)} {t : Int} (so : StsOk mv.length S) : StsOk mv.length (tFour (stepK mv ws w h s) S (κ, t)) :=
  (((so.put ok hκ (Int.le_refl 0) (by decide) (Int.le_refl 0) (by decide)).put ok hκ (Int.le_refl 0) (by decide) (by decide) (Int.le_refl 1)).put ok hκ (by decide) (Int.le_refl 1) (Int.le_refl 0) (by decide)).put ok hκ (by decide) (Int.le_refl 1) (by decide) (Int.le_refl 1)
/-- all states, one digit more -/
theorem tl_it {mv : List Look} (ok : ∀ L ∈ mv, LkOk L) (h5 : mv.length ≤ 5) {ws : Option (List Int)} {w h : Int} {s : Nat} {X J : Store} {a0 a2 a3 a4 a5 a6 a8 a9 a10 a11 b24 b25 b26 : Option R} : ∀ (T S : List (KT × Int)) (b16 b17 b18 b19 b20 b21 b22 b23 : Option R), (∀ κ ∈ tKeys T, KIn mv.length κ) → StsOk mv.length S → ∃ c16 c17 c18 c19 c20 c21 c22 c23,
    loopL (fun _ => True) (fun ds => gsC (gT 3 (gsC (gN 16) (gsC (gN 17) (gsC (gN 18) gsN)))) (gsC (gN 19) gsN) ds >>= fun _ => tyX) ((T.map (entD ktD)).map fun p => [p.1, p.2])
      ⟨[a0, some (.p (wtD ws)), a2, a3, a4, a5, a6, some (.p (.lst (mv.map lkD))), a8, a9, a10, a11, some (.p (.int (s : Int))), some (.r X.length), some (.p (.int (w / 2 ^ s % 2))), some (.p (.int (h / 2 ^ s % 2))), b16, b17, b18, b19, b20, b21, b22, b23, b24, b25, b26, none, none, none, none, none, none], X ++ (.mu (.dt (S.map (entD ktD))) :: J)⟩ =
      .ok .nx ⟨[a0, some (.p (wtD ws)), a2, a3, a4, a5, a6, some (.p (.lst (mv.map lkD))), a8, a9, a10, a11, some (.p (.int (s : Int))), some (.r X.length), some (.p (.int (w / 2 ^ s % 2))), some (.p (.int (h / 2 ^ s % 2))), c16, c17, c18, c19, c20, c21, c22, c23, b24, b25, b26, none, none, none, none, none, none], X ++ (.mu (.dt ((T.foldl (tFour (stepK mv ws w h s)) S).map (entD ktD))) :: J)⟩ ∧ StsOk mv.length (T.foldl (tFour (stepK mv ws w h s)) S)
  | [], S, b16, b17, b18, b19, b20, b21, b22, b23, _, so => ⟨_, _, _, _, _, _, _, _, loopL_nil (ok := fun _ => True) trivial, so⟩
  | (κ, t) :: T, S, b16, b17, b18, b19, b20, b21, b22, b23, hT, so => by
    have hκ := hT κ (by simp [tKeys])
    obtain ⟨p20, p21, p22, p23, e1⟩ := tl_x ok h5 (ws := ws) (w := w) (h := h) (s := s) hκ (times := t) so (X := X) (J := J) a0 a2 a3 a4 a5 a6 a8 a9 a10 a11 b20 b21 b22 b23 b24 b25 b26
    obtain ⟨c16, c17, c18, c19, c20, c21, c22, c23, e2, so2⟩ := tl_it ok h5 (ws := ws) (w := w) (h := h) (s := s) (X := X) (J := J) (a0 := a0) (a2 := a2) (a3 := a3) (a4 := a4) (a5 := a5) (a6 := a6) (a8 := a8) (a9 := a9) (a10 := a10) (a11 := a11) (b24 := b24) (b25 := b25) (b26 := b26) T _ (some (.p (s3D κ.1))) (some (.p (.bl κ.2.1))) (some (.p (.bl κ.2.2))) (some (.p (.int t))) p20 p21 p22 p23 (fun μ hμ => hT μ (List.mem_cons_of_mem _ hμ)) (so.four ok hκ (t := t))
    refine ⟨c16, c17, c18, c19, c20, c21, c22, c23, ?_, so2⟩
    show loopL _ _ ([ktD κ, D.int t] :: (T.map (entD ktD)).map fun p => [p.1, p.2]) _ = _
    rw [loopL_nx (ok := fun _ => True) trivial (show _ = Res.ok Fl.nx _ by rw [bind_bnd]; unfold ktD; simp! []; exact e1)]
    exact e2
/-- one digit -/
theorem tl_dig {mv : List Look} (ok : ∀ L ∈ mv, LkOk L) (h5 : mv.length ≤ 5) {ws : Option (List Int)} {w h : Int} {s : Nat} {X J : Store} {T : List (KT × Int)} (hT : StsOk mv.length T)
    (a0 a2 a3 a4 a8 a9 a10 b13 b14 b15 b16 b17 b18 b19 b20 b21 b22 b23 b24 b25 b26 : Option R) : ∃ c14 c15 c16 c17 c18 c19 c20 c21 c22 c23,
    tyT ⟨[a0, some (.p (wtD ws)), a2, a3, a4, some (.p (.int w)), some (.p (.int h)), some (.p (.lst (mv.map lkD))), a8, a9, a10, some (.r X.length), some (.p (.int (s : Int))), b13, b14, b15, b16, b17, b18, b19, b20, b21, b22, b23, b24, b25, b26, none, none, none, none, none, none], X ++ (.mu (.dt (T.map (entD ktD))) :: J)⟩ =
      .ok .nx ⟨[a0, some (.p (wtD ws)), a2, a3, a4, some (.p (.int w)), some (.p (.int h)), some (.p (.lst (mv.map lkD))), a8, a9, a10, some (.r (X ++ (.dead :: J)).length), some (.p (.int (s : Int))), some (.r (X ++ (.dead :: J)).length), c14, c15, c16, c17, c18, c19, c20, c21, c22, c23, b24, b25, b26, none, none, none, none, none, none], (X ++ (.dead :: J)) ++ (.mu (.dt ((tStep (stepK mv ws w h s) T).map (entD ktD))) :: [])⟩ ∧ StsOk mv.length (tStep (stepK mv ws w h s) T) := by
  obtain ⟨c16, c17, c18, c19, c20, c21, c22, c23, e, so⟩ := tl_it ok h5 (ws := ws) (w := w) (h := h) (s := s) (X := X ++ (.dead :: J)) (J := []) (a0 := a0) (a2 := a2) (a3 := a3) (a4 := a4) (a5 := some (.p (.int w))) (a6 := some (.p (.int h))) (a8 := a8) (a9 := a9) (a10 := a10) (a11 := some (.r X.length)) (b24 := b24) (b25 := b25) (b26 := b26) T [] b16 b17 b18 b19 b20 b21 b22 b23 hT.ki ⟨by simp [tKeys], fun κ hκ => by simp [tKeys] at hκ⟩
  refine ⟨some (.p (.int (w / 2 ^ s % 2))), some (.p (.int (h / 2 ^ s % 2))), c16, c17, c18, c19, c20, c21, c22, c23, ?_, so⟩
  have bn := fun v st => bit_of_i v s st
  have hl : (X ++ (.mu (.dt (T.map (entD ktD))) :: J)).length = (X ++ (Cell.dead :: J)).length := by simp
  have hs : X ++ (Cell.dead :: (J ++ [.mu (.dt [])])) = (X ++ (Cell.dead :: J)) ++ (.mu (.dt (([] : List (KT × Int)).map (entD ktD))) :: []) := by simp
  unfold tyT tyI
  rw [sSq_ap, sSet_ap, dtE_ap]
  rw [hl, List.append_assoc, List.cons_append]
  generalize hX : X ++ (Cell.dead :: J) = Y at *
  simp! [bn, ditE_ap, dit_x]
  rw [hs, e]
  simp! []
  rfl
/-! how often: at most 4 ** digits -/
section
variable {K : Type} [DecidableEq K]
def Pos0 (S : List (K × Int)) : Prop := ∀ p ∈ S, 0 ≤ p.2
theorem Pos0.add {v : Int} (hv : 0 ≤ v) (k : K) : ∀ {S : List (K × Int)}, Pos0 S → Pos0 (tAdd S k v)
  | [], _ => fun p hp => by rw [List.mem_singleton.mp hp]; exact hv
  | (j, u) :: S, h => by
    have hu : 0 ≤ u := h (j, u) (by simp)
    unfold tAdd
    split
    · intro p hp
      rcases List.mem_cons.mp hp with e | hp
      · rw [e]; show 0 ≤ u + v; omega
      · exact h p (by simp [hp])
    · intro p hp
      rcases List.mem_cons.mp hp with e | hp
      · rw [e]; exact hu
      · exact Pos0.add hv k (fun q hq => h q (by simp [hq])) p hp
theorem Pos0.put {v : Int} (hv : 0 ≤ v) {o : Option K} {S : List (K × Int)} (h : Pos0 S) : Pos0 (tPut S o v) := by
  cases o with
  | none => exact h
  | some k => exact Pos0.add hv k h
theorem Pos0.fold {st : K → Int → Int → Option K} : ∀ {T S : List (K × Int)}, Pos0 T → Pos0 S → Pos0 (T.foldl (tFour st) S)
  | [], _, _, h => h
  | p :: T, S, hT, h => by
    have hp := hT p (by simp)
    exact Pos0.fold (T := T) (fun q hq => hT q (by simp [hq])) ((((h.put hp).put hp).put hp).put hp)
theorem Pos0.run (st : Nat → K → Int → Int → Option K) (k0 : K) : ∀ s, Pos0 (tRun st k0 s)
  | 0 => fun p hp => by rw [List.mem_singleton.mp hp]; show (0 : Int) ≤ 1; decide
  | s + 1 => Pos0.fold (Pos0.run st k0 s) fun p hp => by simp at hp
theorem tot_le (st : K → Int → Int → Option K) : ∀ {T : List (K × Int)}, Pos0 T → tW (oFour (fun _ => 1) st) T ≤ 4 * tW (fun _ => (1 : Int)) T
  | [], _ => by show (0 : Int) ≤ 4 * 0; decide
  | (k, u) :: T, h => by
    have hu : 0 ≤ u := h (k, u) (by simp)
    have ih := tot_le st (T := T) fun q hq => h q (by simp [hq])
    have o1 : ∀ o : Option K, oV (fun _ => (1 : Int)) o ≤ 1 := fun o => by
      cases o with
      | none => show (0 : Int) ≤ 1; decide
      | some k => show (1 : Int) ≤ 1; decide
    have a := o1 (st k 0 0)
    have b := o1 (st k 0 1)
    have c := o1 (st k 1 0)
    have d := o1 (st k 1 1)
    have e : oFour (fun _ => (1 : Int)) st k ≤ 4 := by unfold oFour; omega
    have m : u * oFour (fun _ => (1 : Int)) st k ≤ u * 4 := Int.mul_le_mul_of_nonneg_left e hu
    show u * oFour (fun _ => (1 : Int)) st k + tW _ T ≤ 4 * (u * 1 + tW _ T)
    omega
theorem tot_run (st : Nat → K → Int → Int → Option K) (k0 : K) : ∀ s, tW (fun _ => (1 : Int)) (tRun st k0 s) ≤ 4 ^ s
  | 0 => by show (1 : Int) * 1 + 0 ≤ 1; decide
  | s + 1 => by
    have ih := tot_run st k0 s
    have := tot_le (st s) (Pos0.run st k0 s)
    show tW _ (tStep (st s) (tRun st k0 s)) ≤ _
    rw [tW_step, Int.pow_succ]; omega
theorem one_le : ∀ {T : List (K × Int)} {p : K × Int}, Pos0 T → p ∈ T → p.2 ≤ tW (fun _ => (1 : Int)) T
  | (k, u) :: T, p, h, hp => by
    have hu : 0 ≤ u := h (k, u) (by simp)
    have z : 0 ≤ tW (fun _ => (1 : Int)) T := by
      have : ∀ {T : List (K × Int)}, Pos0 T → 0 ≤ tW (fun _ => (1 : Int)) T := fun {T} => by
        induction T with
        | nil => intro _; exact Int.le_refl 0
        | cons q T ih =>
          intro h
          obtain ⟨k, u⟩ := q
          have h1 : 0 ≤ u := h (k, u) (by simp)
          have h2 := ih fun q hq => h q (by simp [hq])
          show 0 ≤ u * 1 + tW (fun _ => (1 : Int)) T
          omega
      exact this fun q hq => h q (by simp [hq])
    show p.2 ≤ u * 1 + tW (fun _ => (1 : Int)) T
    rcases List.mem_cons.mp hp with e | hp
    · rw [e]; show u ≤ _; omega
    · have := one_le (T := T) (fun q hq => h q (by simp [hq])) hp
      omega
end
theorem times_bd (st : Nat → KT → Int → Int → Option KT) (k0 : KT) {D : Nat} (hD : D ≤ 50) {p : KT × Int} (hp : p ∈ tRun st k0 D) : 0 ≤ p.2 ∧ p.2 ≤ 4 ^ 50 := by
  have a := Pos0.run st k0 D
  have b := one_le a hp
  have c := tot_run st k0 D
  have d : (4 : Int) ^ D ≤ 4 ^ 50 := by
    have : (4 : Nat) ^ D ≤ 4 ^ 50 := Nat.pow_le_pow_right (by decide) hD
    exact_mod_cast this
  exact ⟨a p hp, by omega⟩
/-- one state's places -/
theorem tl_fnd {w h : Int} (hw : 1 ≤ w) (hw2 : w ≤ 1000000000000000000000000000000) (hh : 1 ≤ h) (hh2 : h ≤ 1000000000000000000000000000000) {D : Nat} {κ : KT} (hk : κ.1.2.2.length ≤ 9) {times : Int} (t0 : 0 ≤ times) (t1 : times ≤ 4 ^ 50) {F : List (List Bool × Int)} (nd : (tKeys F).Nodup) (few : F.length < sizeLine) {Y J : Store}
    (a0 a1 a2 a3 a4 a7 a9 a10 a11 a12 a13 a14 a15 a20 a21 a22 a23 b25 b26 : Option R) : ∃ c25 c26 J', tyF ⟨[a0, a1, a2, a3, a4, some (.p (.int w)), some (.p (.int h)), a7, some (.p (.int (D : Int))), a9, a10, a11, a12, a13, a14, a15, some (.p (s3D κ.1)), some (.p (.bl κ.2.1)), some (.p (.bl κ.2.2)), some (.p (.int times)), a20, a21, a22, a23, some (.r Y.length), b25, b26, none, none, none, none, none, none], Y ++ (.mu (.dt (F.map (entD bsD))) :: J)⟩ =
      .ok .nx ⟨[a0, a1, a2, a3, a4, some (.p (.int w)), some (.p (.int h)), a7, some (.p (.int (D : Int))), a9, a10, a11, a12, a13, a14, a15, some (.p (s3D κ.1)), some (.p (.bl κ.2.1)), some (.p (.bl κ.2.2)), some (.p (.int times)), a20, a21, a22, a23, some (.r Y.length), c25, c26, none, none, none, none, none, none], Y ++ (.mu (.dt ((tAdd F (truthsK κ) (times * (w / 2 ^ D + b2 κ.2.1) * (h / 2 ^ D + b2 κ.2.2))).map (entD bsD))) :: J')⟩ := by
  obtain ⟨⟨a, d, k⟩, f, g⟩ := κ
  simp only at hk
  have p := two_pos D
  have hb : ∀ b : Bool, (if b = true then (1 : Int) else 0) = b2 b := fun b => rfl
  have b01 : ∀ b : Bool, 0 ≤ b2 b ∧ b2 b ≤ 1 := fun b => by cases b <;> decide
  have q1 : 0 ≤ w / 2 ^ D := Int.ediv_nonneg (by omega) (by omega)
  have q2 : w / 2 ^ D ≤ w := Int.ediv_le_self _ (by omega)
  have q3 : 0 ≤ h / 2 ^ D := Int.ediv_nonneg (by omega) (by omega)
  have q4 : h / 2 ^ D ≤ h := Int.ediv_le_self _ (by omega)
  have e30 : (1000000000000000000000000000000 : Int) + 1 < ((2 ^ 110 : Nat) : Int) := by decide
  have e50 : (4 : Int) ^ 50 < ((2 ^ 110 : Nat) : Int) := by decide
  have bf := b01 f
  have bg := b01 g
  have m1 : CMulW times (w / 2 ^ D + b2 f) := cmulw (n := 110) (m := 110) (Bt.of (by omega)) (Bt.of (by omega))
  have m1' : times * (w / 2 ^ D + b2 f) < ((2 ^ 220 : Nat) : Int) ∧ 0 ≤ times * (w / 2 ^ D + b2 f) := by
    refine ⟨?_, Int.mul_nonneg t0 (by omega)⟩
    have a1 : times * (w / 2 ^ D + b2 f) ≤ 4 ^ 50 * (w / 2 ^ D + b2 f) := Int.mul_le_mul_of_nonneg_right t1 (by omega)
    have a2 : (4 : Int) ^ 50 * (w / 2 ^ D + b2 f) ≤ 4 ^ 50 * 1000000000000000000000000000001 := Int.mul_le_mul_of_nonneg_left (by omega) (by decide)
    have a3 : (4 : Int) ^ 50 * 1000000000000000000000000000001 < ((2 ^ 220 : Nat) : Int) := by decide
    omega
  have m2 : CMulW (times * (w / 2 ^ D + b2 f)) (h / 2 ^ D + b2 g) := cmulw (n := 220) (m := 110) (Bt.of (by omega)) (Bt.of (by omega))
  have sh := fun (v : Int) S => opShr_i (i := v) (S := S) (Int.natCast_nonneg D)
  simp only [Int.toNat_natCast] at sh
  have body : ∀ x ∈ k, lcB [32] [32] unp1 tYesM (Dd.bin opEqD (vr 32) (ci 1)) (Dd.D.int x) ⟨[a0, a1, a2, a3, a4, some (.p (.int w)), some (.p (.int h)), a7, some (.p (.int (D : Int))), a9, a10, a11, a12, a13, a14, a15, some (.p (s3D (a, d, k))), some (.p (.bl f)), some (.p (.bl g)), some (.p (.int times)), a20, a21, a22, a23, some (.r Y.length), b25, b26, none, none, none, none, none, none], Y ++ (.mu (.dt (F.map (entD bsD))) :: J)⟩ = .ok (some (Dd.D.bl (decide (x = 1)))) ⟨[a0, a1, a2, a3, a4, some (.p (.int w)), some (.p (.int h)), a7, some (.p (.int (D : Int))), a9, a10, a11, a12, a13, a14, a15, some (.p (s3D (a, d, k))), some (.p (.bl f)), some (.p (.bl g)), some (.p (.int times)), a20, a21, a22, a23, some (.r Y.length), b25, b26, none, none, none, none, none, none], Y ++ (.mu (.dt (F.map (entD bsD))) :: J)⟩ := fun x _ => by
    simp! []
  refine ⟨some (.p (bsD (truthsK ((a, d, k), f, g)))), some (.p (.int (times * (w / 2 ^ D + b2 f) * (h / 2 ^ D + b2 g)))), J ++ [.mu (.lst (k.map fun x => Dd.D.bl (decide (x = 1))))], ?_⟩
  have fold : Dd.D.tup (k.map fun x => Dd.D.bl (decide (x = 1))) = bsD (truthsK ((a, d, k), f, g)) := by
    unfold bsD truthsK
    rw [List.map_map]; rfl
  unfold tyF
  simp! [s3_ix2]
  rw [lcL_mapf (ok := fun _ => True) trivial k [] body (by simp; omega), lcFin_ok (by simp; omega)]
  have ln : (Y ++ (Cell.mu (.dt (F.map (entD bsD))) :: J)).length = Y.length + (J.length + 1) := by simp
  have gt : ∀ c : Cell, (Y ++ (Cell.mu (.dt (F.map (entD bsD))) :: (J ++ [c])))[Y.length + (J.length + 1)]? = some c := fun c => by
    rw [get_app]
    show (J ++ [c])[J.length]? = _
    simp
  rw [ln]
  simp! [gt, fold]
  simp! [sh, hb, opMul_i m1, opMul_i m2, sDset_ap, dgetE_ap, dchk_x, dget_x (key_bs _) nk_bs nkB_inj]
  rw [dset_x (key_bs _) nk_bs nkB_inj nd few]
end Lib

set_option Elab.async false
set_option linter.all false
set_option maxRecDepth 100000
set_option exponentiation.threshold 2000
namespace Lib
open PySem PySem.Spec PyProof.Rows L2 Dd
/-! ### tally, the whole -/
/-- what is found: apart, each of n truths -/
structure FndOk (n : Nat) (F : List (List Bool × Int)) : Prop where
  nd : (tKeys F).Nodup
  ln : ∀ bs ∈ tKeys F, bs.length = n
theorem FndOk.add {n : Nat} {F : List (List Bool × Int)} (h : FndOk n F) {bs : List Bool} (hb : bs.length = n) (v : Int) : FndOk n (tAdd F bs v) :=
  ⟨tAdd_nodup h.nd, fun q hq => by
    rw [tAdd_keys] at hq
    split at hq
    · exact h.ln q hq
    · rcases List.mem_append.mp hq with hq | hq
      · exact h.ln q hq
      · rw [List.mem_singleton.mp hq]; exact hb⟩
def fndStep (w h : Int) (D : Nat) (d : List (List Bool × Int)) (p : KT × Int) : List (List Bool × Int) := tAdd d (truthsK p.1) (p.2 * (w / 2 ^ D + b2 p.1.2.1) * (h / 2 ^ D + b2 p.1.2.2))
theorem tl_fit {w h : Int} (hw : 1 ≤ w) (hw2 : w ≤ 1000000000000000000000000000000) (hh : 1 ≤ h) (hh2 : h ≤ 1000000000000000000000000000000) {D n : Nat} (n5 : n ≤ 5) {Y : Store} {a0 a1 a2 a3 a4 a7 a9 a10 a11 a12 a13 a14 a15 a20 a21 a22 a23 : Option R} : ∀ (T : List (KT × Int)) (F : List (List Bool × Int)) (J : Store) (b16 b17 b18 b19 b25 b26 : Option R), (∀ p ∈ T, KIn n p.1 ∧ 0 ≤ p.2 ∧ p.2 ≤ 4 ^ 50) → FndOk n F → ∃ c16 c17 c18 c19 c25 c26 J',
    loopL (fun _ => True) (fun ds => gsC (gT 3 (gsC (gN 16) (gsC (gN 17) (gsC (gN 18) gsN)))) (gsC (gN 19) gsN) ds >>= fun _ => tyF) ((T.map (entD ktD)).map fun p => [p.1, p.2])
      ⟨[a0, a1, a2, a3, a4, some (.p (.int w)), some (.p (.int h)), a7, some (.p (.int (D : Int))), a9, a10, a11, a12, a13, a14, a15, b16, b17, b18, b19, a20, a21, a22, a23, some (.r Y.length), b25, b26, none, none, none, none, none, none], Y ++ (.mu (.dt (F.map (entD bsD))) :: J)⟩ =
      .ok .nx ⟨[a0, a1, a2, a3, a4, some (.p (.int w)), some (.p (.int h)), a7, some (.p (.int (D : Int))), a9, a10, a11, a12, a13, a14, a15, c16, c17, c18, c19, a20, a21, a22, a23, some (.r Y.length), c25, c26, none, none, none, none, none, none], Y ++ (.mu (.dt ((T.foldl (fndStep w h D) F).map (entD bsD))) :: J')⟩
  | [], F, J, b16, b17, b18, b19, b25, b26, _, fo => ⟨_, _, _, _, _, _, J, loopL_nil (ok := fun _ => True) trivial⟩
  | (κ, t) :: T, F, J, b16, b17, b18, b19, b25, b26, hT, fo => by
    obtain ⟨hκ, t0, t1⟩ := hT (κ, t) (by simp)
    have hb : (truthsK κ).length = n := by unfold truthsK; rw [List.length_map]; exact hκ.lk
    obtain ⟨p25, p26, J1, e1⟩ := tl_fnd hw hw2 hh hh2 (D := D) (κ := κ) (by rw [hκ.lk]; omega) t0 t1 fo.nd (found_few n5 fo.nd fo.ln) (Y := Y) (J := J) a0 a1 a2 a3 a4 a7 a9 a10 a11 a12 a13 a14 a15 a20 a21 a22 a23 b25 b26
    obtain ⟨c16, c17, c18, c19, c25, c26, J2, e2⟩ := tl_fit hw hw2 hh hh2 (D := D) n5 (Y := Y) (a0 := a0) (a1 := a1) (a2 := a2) (a3 := a3) (a4 := a4) (a7 := a7) (a9 := a9) (a10 := a10) (a11 := a11) (a12 := a12) (a13 := a13) (a14 := a14) (a15 := a15) (a20 := a20) (a21 := a21) (a22 := a22) (a23 := a23) T _ J1 (some (.p (s3D κ.1))) (some (.p (.bl κ.2.1))) (some (.p (.bl κ.2.2))) (some (.p (.int t))) p25 p26 (fun q hq => hT q (by simp [hq])) (fo.add hb (t * (w / 2 ^ D + b2 κ.2.1) * (h / 2 ^ D + b2 κ.2.2)))
    refine ⟨c16, c17, c18, c19, c25, c26, J2, ?_⟩
    show loopL _ _ ([ktD κ, .int t] :: (T.map (entD ktD)).map fun p => [p.1, p.2]) _ = _
    rw [loopL_nx (ok := fun _ => True) trivial (show _ = Res.ok Fl.nx _ by rw [bind_bnd]; unfold ktD; simp! []; exact e1)]
    exact e2
def mvL (l t : Int) (L : Look) : Look := ⟨L.lv, L.dg, L.rt + l, L.sh + t⟩
/-- the depth of the deepest -/
def dpL : List Look → Nat
  | [] => 0
  | L :: Ls => max L.lv.length (dpL Ls)
theorem dpL_max : ∀ (looks : List Look) (n : Int), (looks.map fun L => ((L.lv.length : Nat) : Int)).foldl max n = max n ((dpL looks : Nat) : Int) ∨ looks = [] ∧ (looks.map fun L => ((L.lv.length : Nat) : Int)).foldl max n = n
  | [], n => .inr ⟨rfl, rfl⟩
  | L :: Ls, n => by
    left
    show (Ls.map _).foldl max (max n (L.lv.length : Int)) = max n ((max L.lv.length (dpL Ls) : Nat) : Int)
    rcases dpL_max Ls (max n (L.lv.length : Int)) with h | ⟨rfl, h⟩
    · rw [h]; omega
    · rw [h]; show _ = max n ((max L.lv.length 0 : Nat) : Int); omega
theorem dpL_maxI {looks : List Look} (hne : looks ≠ []) : maxI (looks.map fun L => ((L.lv.length : Nat) : Int)) = ((dpL looks : Nat) : Int) := by
  cases looks with
  | nil => exact (hne rfl).elim
  | cons L Ls =>
    show (Ls.map _).foldl max ((L.lv.length : Nat) : Int) = ((max L.lv.length (dpL Ls) : Nat) : Int)
    rcases dpL_max Ls ((L.lv.length : Nat) : Int) with h | ⟨rfl, h⟩
    · rw [h]; omega
    · rw [h]; show _ = ((max L.lv.length 0 : Nat) : Int); omega
theorem dpL_le : ∀ {looks : List Look} {L : Look}, L ∈ looks → L.lv.length ≤ dpL looks
  | L' :: Ls, L, h => by
    show _ ≤ max L'.lv.length (dpL Ls)
    rcases List.mem_cons.mp h with e | h
    · rw [e]; omega
    · have := dpL_le h; omega
theorem dpL_50 : ∀ {looks : List Look}, (∀ L ∈ looks, LkOk L) → dpL looks ≤ 50
  | [], _ => Nat.zero_le _
  | L :: Ls, h => by
    show max L.lv.length (dpL Ls) ≤ 50
    have a := (h L (by simp)).n
    have b := dpL_50 (looks := Ls) fun q hq => h q (by simp [hq])
    omega
theorem tally_rest {mv : List Look} (ok : ∀ L ∈ mv, LkOk L) (h5 : mv.length ≤ 5) (ws : Option (List Int)) {w h : Int} (w1 : 1 ≤ w) (w2 : w ≤ 1000000000000000000000000000000) (h1 : 1 ≤ h) (h2 : h ≤ 1000000000000000000000000000000) {D : Nat} (hD : D ≤ 50) {st X : Store} (hX : ∃ G, X = st ++ G) (a0 a2 a3 a4 a9 : Option R) :
    WpF (Dd.finish st.length ((dt1E (tupE (aC (vr 10) (aC (cb false) (aC (cb false) aN)))) (ci 1) ⟨[a0, some (.p (wtD ws)), a2, a3, a4, some (.p (.int w)), some (.p (.int h)), some (.p (.lst (mv.map lkD))), some (.p (.int (D : Int))), a9, some (.p (s3D (key0 mv).1)), none, none, none, none, none, none, none, none, none, none, none, none, none, none, none, none, none, none, none, none, none, none], X⟩).bnd fun a S => (Res.ok Fl.nx ⟨S.sl.set 11 (some a), S.st⟩).bnd (seqK (sSq tyS (sSq (sSet 24 dtE) (sSq tyG (sRt (vr 24))))))))
      fun a' st' => a' = FR.new (.dt ((tallyF mv ws w h D).map (entD bsD))) ∧ st' = st := by
  have k0 : Dd.D.tup [s3D (key0 mv).1, .bl false, .bl false] = ktD (key0 mv) := rfl
  rw [dt1E_ap]
  simp! [bnd_bnd, k0, dt1_x (key_kt _)]
  have so0 : StsOk mv.length [(key0 mv, 1)] := ⟨by simp [tKeys], fun κ hκ => by
    have e : κ = key0 mv := by simpa [tKeys] using hκ
    subst e
    refine ⟨?_, ?_, ?_, fun v hv => ?_, fun v hv => ?_, fun v hv => ?_⟩
    · show (mv.map _).length = _; rw [List.length_map]
    · show (mv.map _).length = _; rw [List.length_map]
    · show (mv.map _).length = _; rw [List.length_map]
    · obtain ⟨_, _, rfl⟩ := List.mem_map.mp hv; decide
    · obtain ⟨_, _, rfl⟩ := List.mem_map.mp hv; decide
    · obtain ⟨_, _, rfl⟩ := List.mem_map.mp hv; decide⟩
  unfold tyS
  simp! [bnd_bnd, rngK1_n (d := D) (by omega)]
  refine wpf_bnd (wp_loop (I := fun j S => ∃ (X J : Store) (b12 b13 b14 b15 b16 b17 b18 b19 b20 b21 b22 b23 : Option R), S = ⟨[a0, some (.p (wtD ws)), a2, a3, a4, some (.p (.int w)), some (.p (.int h)), some (.p (.lst (mv.map lkD))), some (.p (.int (D : Int))), a9, some (.p (s3D (key0 mv).1)), some (.r X.length), b12, b13, b14, b15, b16, b17, b18, b19, b20, b21, b22, b23, none, none, none, none, none, none, none, none, none], X ++ (.mu (.dt ((tRun (stepK mv ws w h) (key0 mv) j).map (entD ktD))) :: J)⟩ ∧ (∃ G, X = st ++ G) ∧ StsOk mv.length (tRun (stepK mv ws w h) (key0 mv) j)) ?_ ?_ ?_ ?_)
  · refine ⟨X, [], none, none, none, none, none, none, none, none, none, none, none, none, ?_, hX, so0⟩
    have e0 : (tRun (stepK mv ws w h) (key0 mv) 0).map (entD ktD) = [entD ktD (key0 mv, 1)] := rfl
    rw [e0]
  · intros; trivial
  · rintro j q S hj ⟨X, J, b12, b13, b14, b15, b16, b17, b18, b19, b20, b21, b22, b23, rfl, ⟨G, hG⟩, so⟩
    obtain ⟨rfl, hjD⟩ := intsFrom_at (show (Dd.intsFrom 0 D)[j]? = some q from hj)
    have z0 : 0 + (j : Int) = (j : Int) := by omega
    obtain ⟨c14, c15, c16, c17, c18, c19, c20, c21, c22, c23, e, so2⟩ := tl_dig ok h5 (ws := ws) (w := w) (h := h) (s := j) (X := X) (J := J) so a0 a2 a3 a4 (some (.p (.int (D : Int)))) a9 (some (.p (s3D (key0 mv).1))) b13 b14 b15 b16 b17 b18 b19 b20 b21 b22 b23 none none none
    rw [bind_bnd]
    simp! [bnd_bnd, z0]
    rw [e]
    exact wp_ok ⟨X ++ (.dead :: J), [], _, _, _, _, _, _, _, _, _, _, _, _, rfl, ⟨G ++ (.dead :: J), by rw [hG, List.append_assoc]⟩, so2⟩
  · rintro S ⟨X, J, b12, b13, b14, b15, b16, b17, b18, b19, b20, b21, b22, b23, rfl, ⟨G, hG⟩, so⟩
    have eD : (Dd.intsFrom 0 D).length = D := intsFrom_length
    rw [eD] at so ⊢
    have hl : (X ++ (.mu (.dt ((tRun (stepK mv ws w h) (key0 mv) D).map (entD ktD))) :: J)).length = (X ++ (Cell.dead :: J)).length := by simp
    have hs : X ++ (Cell.dead :: (J ++ [.mu (.dt [])])) = (X ++ (Cell.dead :: J)) ++ (.mu (.dt (([] : List (List Bool × Int)).map (entD bsD))) :: []) := by simp
    obtain ⟨c16, c17, c18, c19, c25, c26, J', e⟩ := tl_fit w1 w2 h1 h2 (D := D) (n := mv.length) h5 (Y := X ++ (.dead :: J)) (a0 := a0) (a1 := some (.p (wtD ws))) (a2 := a2) (a3 := a3) (a4 := a4) (a7 := some (.p (.lst (mv.map lkD)))) (a9 := a9) (a10 := some (.p (s3D (key0 mv).1))) (a11 := some (.r X.length)) (a12 := b12) (a13 := b13) (a14 := b14) (a15 := b15) (a20 := b20) (a21 := b21) (a22 := b22) (a23 := b23) (tRun (stepK mv ws w h) (key0 mv) D) [] [] b16 b17 b18 b19 none none (fun p hp => ⟨so.ki p.1 (List.mem_map.mpr ⟨p, hp, rfl⟩), times_bd _ _ hD hp⟩) ⟨by simp [tKeys], fun bs hb => by simp [tKeys] at hb⟩
    have hY : ∃ G', X ++ (Cell.dead :: J) = st ++ G' := ⟨G ++ (.dead :: J), by rw [hG, List.append_assoc]⟩
    show WpF (Dd.finish st.length (sSq (sSet 24 dtE) (sSq tyG (sRt (vr 24))) _)) _
    rw [sSq_ap, sSet_ap, dtE_ap, hl, List.append_assoc, List.cons_append]
    generalize hYe : X ++ (Cell.dead :: J) = Y at *
    unfold tyG
    simp! [bnd_bnd, ditE_ap, dit_x]
    rw [hs, e]
    obtain ⟨G', rfl⟩ := hY
    have g0 : ((st ++ G') ++ (Cell.mu (.dt (((tRun (stepK mv ws w h) (key0 mv) D).foldl (fndStep w h D) []).map (entD bsD))) :: J'))[(st ++ G').length]? = some (.mu (.dt (((tRun (stepK mv ws w h) (key0 mv) D).foldl (fndStep w h D) []).map (entD bsD)))) := by rw [get_app0]; rfl
    have fin : Dd.finish st.length (.ok (.rt (.r (st ++ G').length)) ⟨[a0, some (.p (wtD ws)), a2, a3, a4, some (.p (.int w)), some (.p (.int h)), some (.p (.lst (mv.map lkD))), some (.p (.int (D : Int))), a9, some (.p (s3D (key0 mv).1)), some (.r X.length), b12, b13, b14, b15, c16, c17, c18, c19, b20, b21, b22, b23, some (.r (st ++ G').length), c25, c26, none, none, none, none, none, none], (st ++ G') ++ (Cell.mu (.dt (((tRun (stepK mv ws w h) (key0 mv) D).foldl (fndStep w h D) []).map (entD bsD))) :: J')⟩) = .ok (.new (.dt (((tRun (stepK mv ws w h) (key0 mv) D).foldl (fndStep w h D) []).map (entD bsD)))) st := by
      rw [finish_r, finishR_mu g0 (by simp), List.append_assoc, take_app]
    show WpF (Dd.finish st.length (.ok (.rt (.r (st ++ G').length)) _)) _
    rw [fin]
    exact wpf_ok ⟨rfl, rfl⟩
theorem tally_i {looks : List Look} (ok : ∀ L ∈ looks, LkOk L) (hne : looks ≠ []) (h5 : looks.length ≤ 5) (ws : Option (List Int)) {l t w h : Int} (win : WinOk l t w h) (st : Store) :
    s_tally [.p (.lst (looks.map lkD)), .p (wtD ws), .p (winD l t w h)] st = .ok (.new (.dt ((tallyF (looks.map (mvL l t)) ws w h (dpL looks)).map (entD bsD)))) st := by
  obtain ⟨-, -, -, -, w1, w2, h1, h2⟩ := win
  refine fin_eq ?_
  unfold s_tally
  rw [tally_eq]
  unfold tyW winD
  simp! [bnd_bnd]
  have bm : ∀ L ∈ looks, lcB [27, 28, 29, 30] [27, 28, 29, 30] unpT tYesM (tupE (aC (vr 27) (aC (vr 28) (aC (Dd.bin opAdd (vr 29) (vr 3)) (aC (Dd.bin opAdd (vr 30) (vr 4)) aN))))) (lkD L) ⟨[some (.p (.lst (looks.map lkD))), some (.p (wtD ws)), some (.p (.tup [.int l, .int t, .int w, .int h])), some (.p (.int l)), some (.p (.int t)), some (.p (.int w)), some (.p (.int h)), none, none, none, none, none, none, none, none, none, none, none, none, none, none, none, none, none, none, none, none, none, none, none, none, none, none], st⟩ = .ok (some (lkD (mvL l t L))) ⟨[some (.p (.lst (looks.map lkD))), some (.p (wtD ws)), some (.p (.tup [.int l, .int t, .int w, .int h])), some (.p (.int l)), some (.p (.int t)), some (.p (.int w)), some (.p (.int h)), none, none, none, none, none, none, none, none, none, none, none, none, none, none, none, none, none, none, none, none, none, none, none, none, none, none], st⟩ := fun L _ => by
    unfold lkD
    rw [lcBT_ap rfl]
    simp! []
    rfl
  rw [lcL_mapf (ok := fun _ => True) trivial looks [] bm (by simp; omega), lcFin_ok (by simp; omega)]
  have mv : List.map (fun d => lkD (mvL l t d)) looks = (looks.map (mvL l t)).map lkD := by rw [List.map_map]; rfl
  rw [mv]
  simp! [bnd_bnd, sPur_ap]
  have bl : ∀ L ∈ looks, lcB [31] [31] unp1 tYesM (opA (op1 opLen) (aC (Dd.bin opIx (vr 31) (ci 0)) aN)) (lkD L) ⟨[some (.p (.lst (looks.map lkD))), some (.p (wtD ws)), some (.p (.tup [.int l, .int t, .int w, .int h])), some (.p (.int l)), some (.p (.int t)), some (.p (.int w)), some (.p (.int h)), some (.p (.lst ((looks.map (mvL l t)).map lkD))), none, none, none, none, none, none, none, none, none, none, none, none, none, none, none, none, none, none, none, none, none, none, none, none, none], st ++ [Cell.fz ((looks.map (mvL l t)).map lkD)]⟩ = .ok (some (.int ((L.lv.length : Nat) : Int))) ⟨[some (.p (.lst (looks.map lkD))), some (.p (wtD ws)), some (.p (.tup [.int l, .int t, .int w, .int h])), some (.p (.int l)), some (.p (.int t)), some (.p (.int w)), some (.p (.int h)), some (.p (.lst ((looks.map (mvL l t)).map lkD))), none, none, none, none, none, none, none, none, none, none, none, none, none, none, none, none, none, none, none, none, none, none, none, none, none], st ++ [Cell.fz ((looks.map (mvL l t)).map lkD)]⟩ := fun L _ => by
    unfold lkD
    simp! [lvD_len]
  rw [lcL_mapf (ok := fun _ => True) trivial looks [] bl (by simp; omega), lcFin_ok (by simp; omega)]
  have di : looks.map (fun L => D.int ((L.lv.length : Nat) : Int)) = (looks.map fun L => ((L.lv.length : Nat) : Int)).map D.int := by rw [List.map_map]; rfl
  have l0 : 0 < (looks.map fun L => ((L.lv.length : Nat) : Int)).length := by
    cases looks with
    | nil => exact (hne rfl).elim
    | cons a b => simp
  have mk : ∀ (d : D) (S : Sg), mulK (looks.length : Int) S (some [d]) = .ok (.r S.st.length) ⟨S.sl, S.st ++ [.mu (.lst (List.replicate looks.length d))]⟩ := fun d S => by
    unfold mulK
    simp only
    have e : (List.replicate (looks.length : Int).toNat [d]).flatten = List.replicate looks.length d := by
      rw [Int.toNat_natCast]
      generalize looks.length = m
      induction m with
      | zero => rfl
      | succ m ih => rw [List.replicate_succ, List.flatten_cons, ih]; rfl
    rw [if_pos ⟨by omega, by omega, by rw [sizeLine_eq]; simp; omega⟩, e]
  rw [di]
  simp! [bnd_bnd, extK, intsOf_map, if_pos l0, dpL_maxI hne, opMul_r, mk, List.length_map]
  rw [if_pos (by simpa using l0)]
  have ok2 : ∀ L ∈ looks.map (mvL l t), LkOk L := fun L hL => by
    obtain ⟨L', hL', rfl⟩ := List.mem_map.mp hL
    have o := ok L' hL'
    exact ⟨o.p, o.n, o.d⟩
  have bg : D.tup [D.tup (List.replicate looks.length (D.int 0)), D.tup (List.replicate looks.length (D.int 0)), D.tup (List.replicate looks.length (D.int 2))] = s3D (key0 (looks.map (mvL l t))).1 := by
    unfold s3D key0
    simp only [List.map_map]
    have r : ∀ v : Int, List.replicate looks.length (D.int v) = looks.map fun _ => D.int v := fun v => by rw [List.map_const']
    rw [r, r]; rfl
  rw [bg]
  exact tally_rest ok2 (by simpa using h5) ws w1 w2 h1 h2 (dpL_50 ok) ⟨_, rfl⟩ _ _ _ _ _
end Lib

set_option Elab.async false
set_option linter.all false
set_option maxRecDepth 100000
set_option exponentiation.threshold 2000
namespace Lib
open PySem PySem.Spec PyProof.Rows L2 Dd
/-! ### plates and conditions -/
structure Plt where
  ls : List (List Int)
  k : Int
  x : Int
  y : Int
structure PltOk (P : Plt) : Prop where
  p : Lvs P.ls
  n1 : 1 ≤ P.ls.length
  n : P.ls.length ≤ 50
  k0 : 0 ≤ P.k
  k1 : P.k ≤ 4 ^ P.ls.length
  x0 : -(1000000000000000000000000000000 : Int) ≤ P.x
  x1 : P.x ≤ (1000000000000000000000000000000 : Int)
  y0 : -(1000000000000000000000000000000 : Int) ≤ P.y
  y1 : P.y ≤ (1000000000000000000000000000000 : Int)
def pltD (P : Plt) : D := .tup [.scr (lvD P.ls), .int P.k, .int P.x, .int P.y]
structure Cnd where
  n : Nat
  x : Int
  y : Int
  b : Bool
def cndD (c : Cnd) : D := .tup [.int (c.n : Int), .int c.x, .int c.y, .bl c.b]
structure CndOk (m : Nat) (c : Cnd) : Prop where
  n : c.n < m
  x0 : -(1000000000000000000000000000000 : Int) ≤ c.x
  x1 : c.x ≤ (1000000000000000000000000000000 : Int)
  y0 : -(1000000000000000000000000000000 : Int) ≤ c.y
  y1 : c.y ≤ (1000000000000000000000000000000 : Int)
def dgsK (k : Int) (n : Nat) : List Int := if k = 4 ^ n then List.replicate n 4 else digs k n
def lookP (P : Plt) (x y : Int) : Look := ⟨P.ls, dgsK P.k P.ls.length, x - P.x, y - P.y⟩
def noPlt : Plt := ⟨[], 0, 0, 0⟩
def lookC (ps : List Plt) (c : Cnd) : Look := lookP (ps.getD c.n noPlt) c.x c.y
theorem dgsK_len (k : Int) (n : Nat) : (dgsK k n).length = n := by
  unfold dgsK
  split
  · exact List.length_replicate ..
  · exact digs_len k n
theorem look_ok {P : Plt} (h : PltOk P) (x y : Int) : LkOk (lookP P x y) := ⟨h.p, h.n, (dgsK_len _ _).symm⟩
theorem digs_range (k : Int) : ∀ n : Nat, digs k n = (List.range n).map fun i => k / 4 ^ (n - 1 - i) % 4
  | 0 => rfl
  | n + 1 => by
    rw [List.range_succ_eq_map, List.map_cons, List.map_map]
    show k / 4 ^ n % 4 :: digs k n = _
    rw [digs_range k n]
    congr 1
    refine List.map_congr_left fun i hi => ?_
    show _ = k / 4 ^ (n + 1 - 1 - (i + 1)) % 4
    rw [show n + 1 - 1 - (i + 1) = n - 1 - i by omega]
theorem getD_mem {α : Type} {l : List α} {i : Nat} (h : i < l.length) (d : α) : l.getD i d ∈ l := by
  rw [List.getD_eq_getElem?_getD, List.getElem?_eq_getElem h]
  exact List.getElem_mem h
theorem looks_of_i {ps : List Plt} (hp : ∀ P ∈ ps, PltOk P) {cs : List Cnd} (hc : ∀ c ∈ cs, CndOk ps.length c) (h9 : cs.length ≤ 9) (st : Store) :
    s_looks_of [.p (.lst (ps.map pltD)), .p (.lst (cs.map cndD))] st = .ok (.new (.lst ((cs.map (lookC ps)).map lkD))) st := by
  refine fin_eq ?_
  unfold s_looks_of b_looks_of
  simp! [bnd_bnd]
  refine wpf_bnd (wp_loop (I := fun j S => ∃ (J : Store) (s3 s4 s5 s6 s7 s8 s9 s10 s11 s12 s13 : Option R), S = ⟨[some (.p (.lst (ps.map pltD))), some (.p (.lst (cs.map cndD))), some (.r st.length), s3, s4, s5, s6, s7, s8, s9, s10, s11, s12, s13, none], st ++ (.mu (.lst (((cs.take j).map (lookC ps)).map lkD)) :: J)⟩) ?_ ?_ ?_ ?_)
  · exact ⟨[], none, none, none, none, none, none, none, none, none, none, none, rfl⟩
  · intros; trivial
  · rintro j d S hj ⟨J, s3, s4, s5, s6, s7, s8, s9, s10, s11, s12, s13, rfl⟩
    rw [List.getElem?_map] at hj
    have j1 : j < cs.length := by
      refine Classical.byContradiction fun hn => ?_
      rw [List.getElem?_eq_none (by omega)] at hj; cases hj
    have hcj : cs[j]? = some cs[j] := List.getElem?_eq_getElem j1
    rw [hcj] at hj
    cases hj
    have cok := hc cs[j] (List.getElem_mem j1)
    have et : cs.take (j + 1) = cs.take j ++ [cs[j]] := by rw [List.take_add_one, hcj]; rfl
    have hlt : (((cs.take j).map (lookC ps)).map lkD).length < 1000000 := by simp; omega
    generalize cs[j] = c at *
    obtain ⟨n, x, y, b⟩ := c
    have hn : n < ps.length := cok.n
    have hpm := getD_mem hn noPlt
    have P1 := hp _ hpm
    have gp : ∀ S, ixK (ps.map pltD) (n : Int) S = .ok (.p (pltD (ps.getD n noPlt))) S := fun S => ixK_of (atI_of (Int.natCast_nonneg n) (by
      rw [Int.toNat_natCast, List.getElem?_map, List.getD_eq_getElem?_getD, List.getElem?_eq_getElem hn]; rfl))
    rw [et, List.map_append, List.map_append]
    have el : [({ n := n, x := x, y := y, b := b } : Cnd)].map (lookC ps) = [lookP (ps.getD n noPlt) x y] := rfl
    rw [el]
    generalize ps.getD n noPlt = P at *
    have dp := fun S => depth_p P.ls S
    have sp := fun S => shades_p P.ls P1.n S
    rw [bind_bnd]
    simp! [bnd_bnd, cndD, gp, pltD, dp, sp, rngK1_n (d := P.ls.length) (by have := P1.n; omega)]
    have bdy : ∀ i ∈ List.range P.ls.length, lcB [14] [14] unp1 tYesM (eIf (tst (vr 12)) (ci 4) (Dd.bin opBand (Dd.bin opShr (vr 8) (Dd.bin opMul (ci 2) (Dd.bin opSub (Dd.bin opSub (vr 11) (ci 1)) (vr 14)))) (ci 3))) (.int (i : Int)) ⟨[some (.p (.lst (ps.map pltD))), some (.p (.lst (cs.map cndD))), some (.r st.length), some (.p (.int (n : Int))), some (.p (.int x)), some (.p (.int y)), some (.p (.bl b)), some (.p (.scr (lvD P.ls))), some (.p (.int P.k)), some (.p (.int P.x)), some (.p (.int P.y)), some (.p (.int (P.ls.length : Int))), some (.p (.bl (decide (P.k = 4 ^ P.ls.length)))), s13, none], st ++ (.mu (.lst (((cs.take j).map (lookC ps)).map lkD)) :: J)⟩ = .ok (some (.int (if P.k = 4 ^ P.ls.length then 4 else P.k / 4 ^ (P.ls.length - 1 - i) % 4))) ⟨[some (.p (.lst (ps.map pltD))), some (.p (.lst (cs.map cndD))), some (.r st.length), some (.p (.int (n : Int))), some (.p (.int x)), some (.p (.int y)), some (.p (.bl b)), some (.p (.scr (lvD P.ls))), some (.p (.int P.k)), some (.p (.int P.x)), some (.p (.int P.y)), some (.p (.int (P.ls.length : Int))), some (.p (.bl (decide (P.k = 4 ^ P.ls.length)))), s13, none], st ++ (.mu (.lst (((cs.take j).map (lookC ps)).map lkD)) :: J)⟩ := fun i hi => by
      have hi := List.mem_range.mp hi
      have h50 := P1.n
      have er : (P.ls.length : Int) - 1 - (i : Int) = ((P.ls.length - 1 - i : Nat) : Int) := by omega
      have l50 : P.ls.length - 1 - i ≤ 50 := by omega
      by_cases hk : P.k = 4 ^ P.ls.length
      · simp! [hk]
      · simp! [hk, er, opMul_i (two_len l50), shr_four', band3]
    have hr : List.map (fun i : Nat => D.int (if P.k = 4 ^ P.ls.length then 4 else P.k / 4 ^ (P.ls.length - 1 - i) % 4)) (List.range P.ls.length) = (dgsK P.k P.ls.length).map .int := by
      unfold dgsK
      by_cases hk : P.k = 4 ^ P.ls.length
      · rw [if_pos hk]
        simp only [if_pos hk]
        rw [List.map_const', List.length_range, List.map_replicate]
      · rw [if_neg hk, digs_range, List.map_map]
        simp only [if_neg hk]; rfl
    have h50 := P1.n
    rw [intsFrom_range, lcL_mapf (ok := fun _ => True) trivial _ [] bdy (by simp; omega), lcFin_ok (by simp; omega), hr]
    have ln : (st ++ (Cell.mu (.lst (((cs.take j).map (lookC ps)).map lkD)) :: J)).length = st.length + (J.length + 1) := by simp
    rw [ln]
    have gt : ∀ c : Cell, (st ++ (Cell.mu (.lst (((cs.take j).map (lookC ps)).map lkD)) :: (J ++ [c])))[st.length + (J.length + 1)]? = some c := fun c => by
      rw [get_app]
      show (J ++ [c])[J.length]? = _
      simp
    have se : ∀ c c' : Cell, (st ++ (Cell.mu (.lst (((cs.take j).map (lookC ps)).map lkD)) :: (J ++ [c]))).set (st.length + (J.length + 1)) c' = st ++ (Cell.mu (.lst (((cs.take j).map (lookC ps)).map lkD)) :: (J ++ [c'])) := fun c c' => by
      rw [set_app, List.set_cons_succ]
      congr 2
      rw [List.set_append_right _ _ (Nat.le_refl _)]; simp
    simp! [bnd_bnd, sPur_ap, gt, se, appK_ap hlt]
    exact wp_ok ⟨_, _, _, _, _, _, _, _, _, _, _, _, rfl⟩
  · rintro S ⟨J, s3, s4, s5, s6, s7, s8, s9, s10, s11, s12, s13, rfl⟩
    rw [List.length_map, List.take_length]
    have g0 : (st ++ (Cell.mu (.lst ((cs.map (lookC ps)).map lkD)) :: J))[st.length]? = some (.mu (.lst ((cs.map (lookC ps)).map lkD))) := by rw [get_app0]; rfl
    simp! [bnd_bnd, finishR_mu g0 (Nat.le_refl _)]
    exact wpf_ok ⟨rfl, rfl⟩
theorem is_plate_ok {P : Plt} (h : PltOk P) (st : Store) : s_is_plate [.p (pltD P)] st = .ok (.val (.bl true)) st := by
  unfold s_is_plate b_is_plate pltD
  have a := fun v st => is_coordinate_i v st
  have b := fun v st => is_shade_i P.ls h.n v st
  simp! [a, b, h.k0, h.k1, h.x0, h.x1, h.y0, h.y1, opNeD_i]
theorem require_plates_ok {ps : List Plt} (hp : ∀ P ∈ ps, PltOk P) {m : Nat} (h1 : 1 ≤ ps.length) (hm : ps.length ≤ m) (st : Store) : s_require_plates [.p (.lst (ps.map pltD)), .p (.int (m : Int))] st = .ok (.val .non) st := by
  refine fin_eq ?_
  unfold s_require_plates b_require_plates
  have e1 : (1 : Int) ≤ (ps.length : Int) := by omega
  have e2 : (ps.length : Int) ≤ (m : Int) := by omega
  simp! [bnd_bnd, List.length_map, e1, e2]
  refine wp_fin (wp_loop (I := fun j S => ∃ s2 s3, S = ⟨[some (.p (.lst (ps.map pltD))), some (.p (.int (m : Int))), s2, s3], st⟩) ⟨none, none, rfl⟩ (fun _ _ _ => trivial) ?_ ?_)
  · rintro j d S hj ⟨s2, s3, rfl⟩
    obtain ⟨d', rfl, hd⟩ := numbered_at hj
    rw [List.getElem?_map] at hd
    cases q : ps[j]? with
    | none => rw [q] at hd; cases hd
    | some P =>
      rw [q] at hd
      cases hd
      have pk := fun st => is_plate_ok (hp P (List.mem_of_getElem? q)) st
      rw [bind_bnd]
      simp! [bnd_bnd, pk]
      exact wp_ok ⟨_, _, rfl⟩
  · rintro S ⟨s2, s3, rfl⟩
    simp! [bnd_bnd]
    exact wpf_ok ⟨rfl, rfl⟩
end Lib

set_option Elab.async false
set_option linter.all false
set_option maxRecDepth 100000
set_option exponentiation.threshold 2000
namespace Lib
open PySem PySem.Spec PyProof.Rows L2 Dd
/-! ### count_matches -/
theorem sm2_move (F : Int → Int → Int) (l t : Int) (w h : Nat) : sm2 (fun x y => F (x + l) (y + t)) 0 0 w h = sm2 F l t w h := by
  unfold sm2
  have e : ∀ y, sm w (fun x => F (x + l) (y + t)) 0 = sm w (fun x => F x (y + t)) l := fun y => by
    have := sm_shift (fun x => F x (y + t)) l w 0
    rw [Int.zero_add] at this; exact this
  simp only [e]
  have := sm_shift (fun y => sm w (fun x => F x y) l) t h 0
  rw [Int.zero_add] at this; exact this
/-- whether the plate of a condition has a dot -/
def seenC (ps : List Plt) (c : Cnd) (x y : Int) : Bool := decide (thr (ps.getD c.n noPlt).ls (x + (c.x - (ps.getD c.n noPlt).x)) (y + (c.y - (ps.getD c.n noPlt).y)) < (ps.getD c.n noPlt).k)
theorem truths_seen {ps : List Plt} (hp : ∀ P ∈ ps, PltOk P) {cs : List Cnd} (hc : ∀ c ∈ cs, CndOk ps.length c) {D : Nat} (hD : ∀ L ∈ cs.map (lookC ps), L.lv.length ≤ D) (l t x y : Int) :
    truthsAt ((cs.map (lookC ps)).map (mvL l t)) D x y = cs.map fun c => seenC ps c (x + l) (y + t) := by
  unfold truthsAt
  rw [List.map_map, List.map_map]
  refine List.map_congr_left fun c hcm => ?_
  have P1 := hp _ (getD_mem (hc c hcm).n noPlt)
  have hd : (ps.getD c.n noPlt).ls.length ≤ D := hD _ (List.mem_map.mpr ⟨c, hcm, rfl⟩)
  show decide (kdL ((ps.getD c.n noPlt).ls.take D) (dgsK (ps.getD c.n noPlt).k (ps.getD c.n noPlt).ls.length) (x + (c.x - (ps.getD c.n noPlt).x + l)) (y + (c.y - (ps.getD c.n noPlt).y + t)) = 1) = _
  unfold seenC
  rw [show x + (c.x - (ps.getD c.n noPlt).x + l) = x + l + (c.x - (ps.getD c.n noPlt).x) by omega, show y + (c.y - (ps.getD c.n noPlt).y + t) = y + t + (c.y - (ps.getD c.n noPlt).y) by omega]
  exact decide_eq_decide.mpr (st_end P1.p P1.n1 P1.k0 P1.k1 rfl hd _ _)
end Lib

set_option Elab.async false
set_option linter.all false
set_option maxRecDepth 100000
set_option exponentiation.threshold 2000
namespace Lib
open PySem PySem.Spec PyProof.Rows L2 Dd
/-! ### the law's plates and conditions -/
def lpD (P : Plt) : D := .tup [.lst (lvD P.ls), .int P.k, .int P.x, .int P.y]
def scrD (P : Plt) : D := .scr (lvD P.ls)
end Lib

set_option Elab.async false
set_option linter.all false
set_option maxRecDepth 100000
set_option exponentiation.threshold 2000
namespace Lib
open PySem PySem.Spec PyProof.Rows L2 Dd
/-! ### the law's plates and conditions, drawn -/
section
variable {st J : Store} {n : Nat} {c a x y z : Cell}
theorem gs1 : (st.set n c ++ (a :: (J ++ [x])))[st.length + (J.length + 1)]? = some x := by
  rw [← List.length_set (as := st) (i := n) (a := c), get_app]
  show (J ++ [x])[J.length]? = _
  simp
theorem ss1 : (st.set n c ++ (a :: (J ++ [x]))).set (st.length + (J.length + 1)) y = st.set n c ++ (a :: (J ++ [y])) := by
  rw [← List.length_set (as := st) (i := n) (a := c), set_app, List.set_cons_succ]
  congr 2
  rw [List.set_append_right _ _ (Nat.le_refl _)]; simp
theorem gs2 : (st.set n c ++ (a :: (J ++ [x, y])))[st.length + (J.length + 1 + 1)]? = some y := by
  rw [← List.length_set (as := st) (i := n) (a := c), get_app]
  show (J ++ [x, y])[J.length + 1]? = _
  rw [List.getElem?_append_right (by omega), show J.length + 1 - J.length = 1 by omega]; rfl
theorem gs0 : (st.set n c ++ (a :: J))[st.length]? = some a := by
  rw [← List.length_set (as := st) (i := n) (a := c), get_app0]; rfl
end
end Lib

set_option Elab.async false
set_option linter.all false
set_option maxRecDepth 100000
set_option exponentiation.threshold 2000
namespace Lib
open PySem PySem.Spec PyProof.Rows L2 Dd
end Lib

set_option Elab.async false
set_option linter.all false
set_option maxRecDepth 100000
set_option exponentiation.threshold 2000
namespace Lib
open PySem PySem.Spec PyProof.Rows L2 Dd
/-! ### what decides -/
def bl (ls : List (List Int)) : Nat → List Sn → List (Int × Int)
  | _, [] => []
  | c, p :: r => if p.2 = true then bl ls (c + 1) r else (thr ls p.1.1 p.1.2, (c : Int)) :: bl ls (c + 1) r
/-- the first contradiction -/
def bad (ls : List (List Int)) (L : List Sn) (i : Nat) : Bool := decide ((bnds ls (L.take (i + 1))).2 < (bnds ls (L.take (i + 1))).1)
section
variable {ls : List (List Int)} {L : List Sn} (h50 : ls.length ≤ 50) (hp : Lvs ls) (hl : 1 ≤ L.length) (hl2 : L.length ≤ 400) (hL : ∀ p ∈ L, SnOk p)
include h50 hp hl hl2 hL
end
end Lib

set_option Elab.async false
set_option linter.all false
set_option maxRecDepth 100000
set_option exponentiation.threshold 2000
namespace Lib
open PySem PySem.Spec PyProof.Rows L2 Dd
/-! ### plates and conditions as data of their own -/
section
variable {α : Type} {g : α → PyData}
end
end Lib

set_option Elab.async false
set_option linter.all false
set_option maxRecDepth 100000
set_option exponentiation.threshold 2000
namespace Lib
open PySem PySem.Spec PyProof.Rows L2 Dd
/-! ### the cells of a law -/
/-! ### plates and conditions without their first entry -/
/-! ### sums of truths -/
end Lib

set_option Elab.async false
set_option linter.all false
set_option maxRecDepth 100000
set_option exponentiation.threshold 2000
namespace Lib
open PySem PySem.Spec PyProof.Rows L2 Dd
/-! ### sums over periods -/
/-! ### the greatest depth -/
theorem two_cast (n : Nat) : ((2 ^ n : Nat) : Int) = (2 : Int) ^ n := by rw [Int.natCast_pow]; rfl
/-! ### counts are the same in each period, and of what is moved -/
/-! ### bounds of counts -/
end Lib
namespace Lib
open PySem PySem.Spec PyProof.Rows L2 Dd
/-! ### sums that are listed -/
end Lib

set_option Elab.async false
set_option linter.all false
set_option maxRecDepth 100000
set_option exponentiation.threshold 2000
namespace Lib
open PySem PySem.Spec PyProof.Rows L2 Dd
/-! ### fractions in lowest terms -/
/-- by halving; the lower number is 2 ^ n -/
def low : Nat → Nat → Nat × Nat
  | 0, m => (m, 1)
  | n + 1, m => if m % 2 = 0 then low n (m / 2) else (m, 2 ^ (n + 1))
/-! ### the longest period -/
end Lib
namespace Lib
open PySem PySem.Spec PyProof.Rows L2 Dd
/-! ### one condition alone; plates moved -/
end Lib

set_option Elab.async false
set_option linter.all false
set_option maxRecDepth 100000
set_option exponentiation.threshold 2000
namespace Lib
open PySem PySem.Spec PyProof.Rows L2 Dd
/-! ### conditions on one screen -/
def cE (x y : Int) (b : Bool) : Cnd := ⟨0, x, y, b⟩
section
variable {ls : List (List Int)} (lok : LvOk ls) {k : Int} (k0 : 0 ≤ k) (k1 : k ≤ 4 ^ ls.length)
include lok k0 k1
end
end Lib
namespace Lib
open PySem PySem.Spec PyProof.Rows L2 Dd
/-! ### sums, set side by side -/
end Lib

set_option Elab.async false
set_option linter.all false
set_option maxRecDepth 100000
set_option exponentiation.threshold 2000
namespace Lib
open PySem PySem.Spec PyProof.Rows L2 Dd
/-! ### inks: the plain part -/
theorem tally_W {looks : List Look} (hl : ∀ L ∈ looks, L.lv.length = L.dg.length) (g : List Bool → Int) (w h D : Nat) :
    tW g (tallyF looks none w h D) = sm2 (fun x y => g (truthsAt looks D x y)) 0 0 w h := by
  have c2 : ((2 ^ D : Nat) : Int) = 2 ^ D := by simp
  unfold tallyF
  rw [tW_found, tRun_W]
  show (0 : Int) + _ = _
  rw [Int.zero_add]
  have F0 : ∀ x y : Int, 0 ≤ x → x < 2 ^ D → 0 ≤ y → y < 2 ^ D → oV (fun κ => plK w h D κ * g (truthsK κ)) (kRun (stepK looks none w h) (key0 looks) D x y) = ((h / 2 ^ D : Nat) + (if y < ((h % 2 ^ D : Nat) : Int) then 1 else 0)) * (((w / 2 ^ D : Nat) + (if x < ((w % 2 ^ D : Nat) : Int) then 1 else 0)) * g (truthsAt looks D x y)) := fun x y x0 x1 y0 y1 => by
    rw [run_key hl]
    have ex : x % 2 ^ D = x := Int.emod_eq_of_lt x0 x1
    have ey : y % 2 ^ D = y := Int.emod_eq_of_lt y0 y1
    have e1 : ((w % 2 ^ D : Nat) : Int) = (w : Int) % 2 ^ D := by simp
    have e2 : ((h % 2 ^ D : Nat) : Int) = (h : Int) % 2 ^ D := by simp
    have e3 : ((w / 2 ^ D : Nat) : Int) = (w : Int) / 2 ^ D := by simp
    have e4 : ((h / 2 ^ D : Nat) : Int) = (h : Int) / 2 ^ D := by simp
    rw [if_pos (show mayK none (kindsK looks D x y) = true from rfl)]
    show plK w h D (keyS looks w h D x y) * g (truthsK (keyS looks w h D x y)) = _
    rw [truths_key]
    unfold plK keyS b2
    simp only [ex, ey, decide_eq_true_eq]
    rw [e1, e2, e3, e4, ← Int.mul_assoc]
    congr 1
    rw [Int.mul_comm]
  have P0 : 0 < 2 ^ D := Nat.pos_of_ne_zero (by simp)
  rw [sm_congr (G := fun y => ((h / 2 ^ D : Nat) + (if y < ((h % 2 ^ D : Nat) : Int) then 1 else 0)) * sm w (fun x => g (truthsAt looks D x y)) 0) (2 ^ D) 0 fun y y0 y1 => ?_]
  · unfold sm2
    rw [sm_fold (fun y => sm w (fun x => g (truthsAt looks D x y)) 0) (2 ^ D) P0 (fun y => by
      refine sm_congr w 0 fun x _ _ => ?_
      have := truths_per looks D x y 0 1
      rw [Int.zero_mul, Int.add_zero, Int.one_mul] at this
      rw [c2, this]) h]
  · rw [sm_fold (fun x => g (truthsAt looks D x y)) (2 ^ D) P0 (fun x => by
      have := truths_per looks D x y 1 0
      rw [Int.zero_mul, Int.add_zero, Int.one_mul] at this
      rw [c2, this]) w, ← sm_mul]
    rw [Int.zero_add, c2] at y1
    refine sm_congr _ _ fun x x0 x1 => ?_
    rw [Int.zero_add, c2] at x1
    exact F0 x y x0 x1 y0 y1
/-! the keys -/
theorem fold_sts {mv : List Look} (ok : ∀ L ∈ mv, LkOk L) {ws : Option (List Int)} {w h : Int} {s : Nat} : ∀ (d acc : List (KT × Int)), (∀ κ ∈ tKeys d, KIn mv.length κ) → StsOk mv.length acc → StsOk mv.length (d.foldl (tFour (stepK mv ws w h s)) acc)
  | [], acc, _, so => so
  | (κ, t) :: d, acc, hd, so => fold_sts ok d _ (fun μ hμ => hd μ (List.mem_cons_of_mem _ hμ)) (so.four ok (hd κ (by simp [tKeys])))
theorem run_sts {mv : List Look} (ok : ∀ L ∈ mv, LkOk L) {ws : Option (List Int)} {w h : Int} : ∀ s : Nat, StsOk mv.length (tRun (stepK mv ws w h) (key0 mv) s)
  | 0 => ⟨by simp [tRun, tKeys], fun κ hκ => by
    have e : κ = key0 mv := by simpa [tRun, tKeys] using hκ
    subst e
    refine ⟨?_, ?_, ?_, fun v hv => ?_, fun v hv => ?_, fun v hv => ?_⟩
    · show (mv.map _).length = _; rw [List.length_map]
    · show (mv.map _).length = _; rw [List.length_map]
    · show (mv.map _).length = _; rw [List.length_map]
    · obtain ⟨_, _, rfl⟩ := List.mem_map.mp hv; decide
    · obtain ⟨_, _, rfl⟩ := List.mem_map.mp hv; decide
    · obtain ⟨_, _, rfl⟩ := List.mem_map.mp hv; decide⟩
  | s + 1 => fold_sts ok _ [] (run_sts ok s).ki ⟨by simp [tKeys], fun κ hκ => by simp [tKeys] at hκ⟩
theorem fold_fnd {n : Nat} {w h : Int} {D : Nat} : ∀ (S : List (KT × Int)) (d : List (List Bool × Int)), (∀ κ ∈ tKeys S, KIn n κ) → FndOk n d → FndOk n (S.foldl (fun d p => tAdd d (truthsK p.1) (p.2 * (w / 2 ^ D + b2 p.1.2.1) * (h / 2 ^ D + b2 p.1.2.2))) d)
  | [], d, _, f => f
  | (κ, t) :: S, d, hS, f => fold_fnd S _ (fun μ hμ => hS μ (List.mem_cons_of_mem _ hμ)) (f.add (by
    have := (hS κ (by simp [tKeys])).lk
    unfold truthsK; rw [List.length_map]; exact this) _)
theorem tally_fnd {mv : List Look} (ok : ∀ L ∈ mv, LkOk L) (ws : Option (List Int)) (w h : Int) (D : Nat) : FndOk mv.length (tallyF mv ws w h D) :=
  fold_fnd _ [] (run_sts ok D).ki ⟨by simp [tKeys], fun bs hb => by simp [tKeys] at hb⟩
/-! the number of a set -/
def idxB : List Bool → Nat
  | [] => 0
  | b :: r => bN b + 2 * idxB r
theorem idxB_lt : ∀ bs : List Bool, idxB bs < 2 ^ bs.length
  | [] => by decide
  | b :: r => by
    have := idxB_lt r
    have := bN_lt b
    show bN b + 2 * idxB r < 2 ^ (r.length + 1)
    rw [Nat.pow_succ]; omega
/-- what is found, so far -/
def fndL (n : Nat) (es : List (List Bool × Int)) : List Int := (List.range (2 ^ n)).map fun s => tW (fun bs => if idxB bs = s then 1 else 0) es
theorem tW_snoc (f : List Bool → Int) (e : List Bool × Int) : ∀ es : List (List Bool × Int), tW f (es ++ [e]) = tW f es + e.2 * f e.1
  | [] => by show e.2 * f e.1 + 0 = 0 + _; omega
  | a :: es => by
    show a.2 * f a.1 + tW f (es ++ [e]) = a.2 * f a.1 + tW f es + _
    rw [tW_snoc f e es]; omega
theorem fndL_len (n : Nat) (es : List (List Bool × Int)) : (fndL n es).length = 2 ^ n := by unfold fndL; simp
theorem fndL_get {n s : Nat} (hs : s < 2 ^ n) (es : List (List Bool × Int)) : (fndL n es)[s]? = some (tW (fun bs => if idxB bs = s then 1 else 0) es) := by
  unfold fndL
  rw [List.getElem?_map, List.getElem?_range hs]; rfl
theorem fndL_snoc {n : Nat} (es : List (List Bool × Int)) (bs : List Bool) (m : Int) : fndL n (es ++ [(bs, m)]) = (fndL n es).set (idxB bs) (tW (fun b => if idxB b = idxB bs then 1 else 0) es + m) := by
  refine List.ext_getElem? fun s => ?_
  by_cases hs : s < 2 ^ n
  · rw [fndL_get hs, tW_snoc, List.getElem?_set]
    by_cases e : idxB bs = s
    · rw [if_pos e, if_pos (show idxB bs < (fndL n es).length by rw [fndL_len, e]; exact hs)]
      subst e
      simp
    · rw [if_neg e, fndL_get hs]
      simp [e]
  · rw [List.getElem?_eq_none (by rw [fndL_len]; omega), List.getElem?_eq_none (by rw [List.length_set, fndL_len]; omega)]
/-! the walk -/
def inkC (n : Nat) : List Cnd := (List.range n).map fun i => ⟨i, 0, 0, true⟩
theorem inkC_ok (n : Nat) : ∀ c ∈ inkC n, CndOk n c := fun c h => by
  obtain ⟨i, hi, rfl⟩ := List.mem_map.mp h
  exact ⟨List.mem_range.mp hi, by show -(1000000000000000000000000000000 : Int) ≤ (0 : Int); decide, by show (0 : Int) ≤ (1000000000000000000000000000000 : Int); decide, by show -(1000000000000000000000000000000 : Int) ≤ (0 : Int); decide, by show (0 : Int) ≤ (1000000000000000000000000000000 : Int); decide⟩
theorem inkC_len (n : Nat) : (inkC n).length = n := by unfold inkC; simp
/-- whether a plate has a dot -/
def dotP (P : Plt) (x y : Int) : Bool := decide (thr P.ls (x - P.x) (y - P.y) < P.k)
theorem seen_ink (ps : List Plt) (x y : Int) : (inkC ps.length).map (fun c => seenC ps c x y) = ps.map fun P => dotP P x y := by
  unfold inkC
  rw [List.map_map]
  refine List.ext_getElem? fun i => ?_
  by_cases hi : i < ps.length
  · rw [List.getElem?_map, List.getElem?_range hi, List.getElem?_map, List.getElem?_eq_getElem hi]
    show some (seenC ps ⟨i, 0, 0, true⟩ x y) = some (dotP ps[i] x y)
    congr 1
    unfold seenC dotP
    show decide (thr (ps.getD i noPlt).ls (x + (0 - (ps.getD i noPlt).x)) (y + (0 - (ps.getD i noPlt).y)) < (ps.getD i noPlt).k) = _
    rw [List.getD_eq_getElem?_getD, List.getElem?_eq_getElem hi]
    show decide (thr ps[i].ls (x + (0 - ps[i].x)) (y + (0 - ps[i].y)) < ps[i].k) = _
    rw [show x + (0 - ps[i].x) = x - ps[i].x by omega, show y + (0 - ps[i].y) = y - ps[i].y by omega]
  · rw [List.getElem?_eq_none (by simp; omega), List.getElem?_eq_none (by simp; omega)]
/-- how many places have just the set s -/
def icnt (ps : List Plt) (l t w h : Int) (s : Nat) : Int := sm2 (fun x y => if idxB (ps.map fun P => dotP P x y) = s then 1 else 0) l t w.toNat h.toNat
def inkL (ps : List Plt) (l t w h : Int) : List Int := (List.range (2 ^ ps.length)).map (icnt ps l t w h)
theorem ink_fnd {ps : List Plt} (hp : ∀ P ∈ ps, PltOk P) (l t : Int) {w h : Int} (w0 : 0 ≤ w) (h0 : 0 ≤ h) : fndL ps.length (tallyF (((inkC ps.length).map (lookC ps)).map (Lib.mvL l t)) none w h (dpL ((inkC ps.length).map (lookC ps)))) = inkL ps l t w h := by
  obtain ⟨w', rfl⟩ := Int.eq_ofNat_of_zero_le w0
  obtain ⟨h', rfl⟩ := Int.eq_ofNat_of_zero_le h0
  have hc := inkC_ok ps.length
  have hl : ∀ L ∈ ((inkC ps.length).map (lookC ps)).map (Lib.mvL l t), L.lv.length = L.dg.length := fun L hL => by
    obtain ⟨L', hL', rfl⟩ := List.mem_map.mp hL
    obtain ⟨c, hcm, rfl⟩ := List.mem_map.mp hL'
    exact (dgsK_len _ _).symm
  unfold fndL inkL
  refine List.map_congr_left fun s _ => ?_
  rw [tally_W hl]
  unfold icnt
  rw [Int.toNat_natCast, Int.toNat_natCast]
  have e : ∀ x y, truthsAt (((inkC ps.length).map (lookC ps)).map (Lib.mvL l t)) (dpL ((inkC ps.length).map (lookC ps))) x y = ps.map fun P => dotP P (x + l) (y + t) := fun x y => by
    rw [truths_seen hp hc (fun L hL => dpL_le hL) l t x y, seen_ink]
  simp only [e]
  exact sm2_move (fun x y => if idxB (ps.map fun P => dotP P x y) = s then (1 : Int) else 0) l t w' h'
end Lib

set_option Elab.async false
set_option linter.all false
set_option maxRecDepth 100000
set_option exponentiation.threshold 2000
namespace Lib
open PySem PySem.Spec PyProof.Rows L2 Dd
/-! ### inks: the walk -/
theorem sAugS_ap (g : Int → Int → Int) (fo fi fe : M R) (S : Sg) : sAugS g fo fi fe S = (fo S).bnd fun o S => (fi S).bnd fun i S => (getAtI o i S).bnd fun old S => (fe S).bnd fun x S => (augAt g o i old x S).bnd fun _ S => .ok .nx S := by
  unfold sAugS
  rw [bind_bnd]
  refine bnd_ext fun o S1 => ?_
  rw [bind_bnd]
  refine bnd_ext fun i S2 => ?_
  rw [bind_bnd]
  refine bnd_ext fun old S3 => ?_
  rw [bind_bnd]
  refine bnd_ext fun x S4 => ?_
  rw [bind_bnd]
  rfl
def setV : Nat → List Bool → List Int
  | _, [] => []
  | k, true :: r => 2 ^ k :: setV (k + 1) r
  | k, false :: r => setV (k + 1) r
theorem setV_sum : ∀ (k : Nat) (bs : List Bool), (setV k bs).sum = 2 ^ k * ((idxB bs : Nat) : Int)
  | k, [] => by show (0 : Int) = 2 ^ k * 0; omega
  | k, b :: r => by
    have ih := setV_sum (k + 1) r
    rw [Int.pow_succ, Int.mul_assoc] at ih
    cases b
    · show (setV (k + 1) r).sum = 2 ^ k * ((0 + 2 * idxB r : Nat) : Int)
      rw [ih]; congr 1; omega
    · show (2 ^ k :: setV (k + 1) r).sum = 2 ^ k * ((1 + 2 * idxB r : Nat) : Int)
      rw [List.sum_cons, ih, show ((1 + 2 * idxB r : Nat) : Int) = 1 + 2 * (idxB r : Int) by omega, Int.mul_add, Int.mul_one]
def pB : List D → Bool
  | [_, .bl b] => b
  | _ => false
def gB : List D → D
  | [.int i, _] => .int (2 ^ i.toNat)
  | _ => .non
theorem setV_num : ∀ (k : Nat) (bs : List Bool), ((Dd.numbered k (bs.map .bl)).filter pB).map gB = (setV k bs).map D.int
  | k, [] => rfl
  | k, b :: r => by
    have ih := setV_num (k + 1) r
    cases b
    · show ((([D.int (k : Int), .bl false] : List D) :: Dd.numbered (k + 1) (r.map .bl)).filter pB).map gB = (setV (k + 1) r).map D.int
      rw [List.filter_cons_of_neg (by simp [pB]), ih]
    · show ((([D.int (k : Int), .bl true] : List D) :: Dd.numbered (k + 1) (r.map .bl)).filter pB).map gB = (2 ^ k :: setV (k + 1) r).map D.int
      rw [List.filter_cons_of_pos (by simp [pB]), List.map_cons, ih]
      show D.int (2 ^ ((k : Int)).toNat) :: _ = _
      rw [Int.toNat_natCast]; rfl
theorem setV_len : ∀ (k : Nat) (bs : List Bool), (setV k bs).length ≤ bs.length
  | _, [] => Nat.le_refl _
  | k, true :: r => by have := setV_len (k + 1) r; show (setV (k + 1) r).length + 1 ≤ r.length + 1; omega
  | k, false :: r => by have := setV_len (k + 1) r; show (setV (k + 1) r).length ≤ r.length + 1; omega
theorem ink_list_i {ps : List Plt} (hp : ∀ P ∈ ps, PltOk P) (p1 : 1 ≤ ps.length) (p5 : ps.length ≤ 5) {l t w h : Int} (win : WinOk l t w h) (st : Store) :
    s_ink_list [.p (.lst (ps.map pltD)), .p (winD l t w h)] st = .ok (.new (.lst ((inkL ps l t w h).map .int))) st := by
  obtain ⟨-, -, -, -, w1, -, h1, -⟩ := id win
  have hc := inkC_ok ps.length
  have ok : ∀ L ∈ (inkC ps.length).map (lookC ps), LkOk L := fun L hL => by
    obtain ⟨c, hcm, rfl⟩ := List.mem_map.mp hL
    exact look_ok (hp _ (getD_mem (hc c hcm).n noPlt)) _ _
  have ok2 : ∀ L ∈ ((inkC ps.length).map (lookC ps)).map (Lib.mvL l t), LkOk L := fun L hL => by
    obtain ⟨L', hL', rfl⟩ := List.mem_map.mp hL
    have o := ok L' hL'
    exact ⟨o.p, o.n, o.d⟩
  have hln : ((inkC ps.length).map (lookC ps)).length = ps.length := by rw [List.length_map, inkC_len]
  have hne : (inkC ps.length).map (lookC ps) ≠ [] := by
    intro z
    rw [z] at hln
    simp at hln; omega
  have ti := fun st => tally_i ok hne (by omega) none win st
  have lo := fun st => looks_of_i hp hc (by rw [inkC_len]; omega) st
  have fo := tally_fnd ok2 none w h (dpL ((inkC ps.length).map (lookC ps)))
  have fin := ink_fnd hp l t (w := w) (h := h) (by omega) (by omega)
  have fq : (List.range ps.length).map (fun i : Nat => D.tup [.int (i : Int), .int 0, .int 0, .bl true]) = (inkC ps.length).map cndD := by
    unfold inkC; rw [List.map_map]; rfl
  rw [List.length_map, hln] at fo
  have wn : wtD none = D.non := rfl
  rw [wn] at ti
  generalize tallyF (((inkC ps.length).map (lookC ps)).map (Lib.mvL l t)) none w h (dpL ((inkC ps.length).map (lookC ps))) = F at *
  refine fin_eq ?_
  unfold s_ink_list b_ink_list
  simp! [bnd_bnd, List.length_map, rngK1_n (d := ps.length) (by omega)]
  rw [intsFrom_range, lcL_mapf (g := fun i : Nat => D.tup [.int (i : Int), .int 0, .int 0, .bl true]) trivial (List.range ps.length) [] (fun i hi => by simp! []) (by simp; omega), lcFin_ok (by simp; omega), List.nil_append, fq]
  have c2 : (2 : Int) ^ ps.length = ((2 ^ ps.length : Nat) : Int) := by rw [two_cast]
  have n32 : 2 ^ ps.length ≤ 32 := Nat.pow_le_pow_right (by decide) p5
  have di : ∀ (sl : List (Option R)) (a b c d : Cell), ditK (.r (st.length + 2)) ⟨sl, st ++ [a, b, .mu (.dt (F.map (entD bsD))), c, d]⟩ = .ok ⟨fun _ => True, (F.map (entD bsD)).map fun p => [p.1, p.2]⟩ ⟨sl, st ++ [a, b, .dead, c, d]⟩ := fun sl a b c d => by
    have e := dit_x (sl := sl) (X := st ++ [a, b]) (J := [c, d]) (kvs := F.map (entD bsD))
    simpa using e
  have f0 : List.replicate (2 ^ ps.length) (D.int 0) = (fndL ps.length []).map .int := by
    unfold fndL
    rw [List.map_map]
    refine List.ext_getElem? fun i => ?_
    by_cases hi : i < 2 ^ ps.length
    · rw [List.getElem?_replicate, if_pos hi, List.getElem?_map, List.getElem?_range hi]; rfl
    · rw [List.getElem?_eq_none (by simp; omega), List.getElem?_eq_none (by simp; omega)]
  simp! [bnd_bnd, lo, ti, List.length_map, opShl_i (cshl1 (j := (ps.length : Int)) (by omega) (by omega)), shl_two, c2, opMul_r, mulK_rep (k := 2 ^ ps.length) (by omega), ditE_ap, di]
  rw [f0]
  refine wpf_bnd (wp_loop (I := fun j S => ∃ (s5 s6 : Option R) (J : Store), S = ⟨[some (.p (.lst (ps.map pltD))), some (.p (winD l t w h)), some (.p (.lst (((inkC ps.length).map (lookC ps)).map lkD))), some (.r (st.length + 2)), some (.r (st.length + 4)), s5, s6, none, none], st ++ (.fz ((inkC ps.length).map cndD) :: .fz (((inkC ps.length).map (lookC ps)).map lkD) :: .dead :: .mu (.lst [.int 0]) :: .mu (.lst ((fndL ps.length (F.take j)).map .int)) :: J)⟩) ⟨none, none, [], rfl⟩ (fun _ _ _ => trivial) ?_ ?_)
  · rintro j d S hj ⟨s5, s6, J, rfl⟩
    rw [List.map_map, List.getElem?_map] at hj
    cases hF : F[j]? with
    | none => rw [hF] at hj; cases hj
    | some e =>
      rw [hF] at hj
      cases hj
      obtain ⟨bs, m⟩ := e
      have bl : bs.length = ps.length := fo.ln bs (List.mem_map.mpr ⟨(bs, m), List.mem_of_getElem? hF, rfl⟩)
      have il : idxB bs < 2 ^ ps.length := by rw [← bl]; exact idxB_lt bs
      have et : F.take (j + 1) = F.take j ++ [(bs, m)] := by rw [List.take_add_one, hF]; rfl
      rw [et, fndL_snoc]
      have gi := fndL_get il (F.take j)
      have ln := fndL_len ps.length (F.take j)
      generalize fndL ps.length (F.take j) = V at *
      generalize tW (fun b => if idxB b = idxB bs then 1 else 0) (F.take j) = o at *
      have gx : ∀ a b c d e : Cell, (st ++ (a :: b :: c :: d :: e :: J))[st.length + 4]? = some e := fun a b c d e => by rw [get_app]; rfl
      have gx2 : ∀ a b c d e f : Cell, (st ++ (a :: b :: c :: d :: e :: (J ++ [f])))[st.length + 4]? = some e := fun a b c d e f => by rw [get_app]; rfl
      have sx2 : ∀ a b c d e e' f : Cell, (st ++ (a :: b :: c :: d :: e :: (J ++ [f]))).set (st.length + 4) e' = st ++ (a :: b :: c :: d :: e' :: (J ++ [f])) := fun a b c d e e' f => by rw [set_app]; rfl
      show Wp ((gsC (gN 5) (gsC (gN 6) gsN) [bsD bs, .int m] >>= fun _ => _) _) _
      rw [bind_bnd]
      have fb : ∀ d ∈ Dd.numbered 0 (bs.map D.bl), ∃ (i : Nat) (b : Bool), d = [.int (i : Int), .bl b] ∧ i < 5 := fun d hd => by
        obtain ⟨i, hi⟩ := List.mem_iff_getElem?.mp hd
        obtain ⟨d', rfl, hd'⟩ := numbered_at hi
        rw [List.getElem?_map] at hd'
        cases hb : bs[i]? with
        | none => rw [hb] at hd'; cases hd'
        | some b =>
          rw [hb] at hd'
          cases hd'
          exact ⟨0 + i, b, rfl, by have := (List.getElem?_eq_some_iff.mp hb).1; omega⟩
      have ns := setV_num 0 bs
      have nl := setV_len 0 bs
      have sv := setV_sum 0 bs
      rw [Int.pow_zero, Int.one_mul] at sv
      simp! [bnd_bnd, sAugS_ap, bsD]
      rw [lcL_filter (p := pB) (g := gB) trivial _ _ (fun d hd => by
        obtain ⟨i, b, rfl, i5⟩ := fb d hd
        cases b
        · show _ = Res.ok none _
          rw [lcBW_t (ks := [7, 8]) (ds := [D.int (i : Int), .bl false]) rfl]
          simp! [lcbK_f]
        · show _ = Res.ok (some (D.int (2 ^ ((i : Int)).toNat))) _
          rw [lcBW_t (ks := [7, 8]) (ds := [D.int (i : Int), .bl true]) rfl]
          simp! [lcbK_t, opShl_i (cshl1 (j := (i : Int)) (by omega) (by omega)), Int.one_mul]) (by rw [numbered_length, List.length_map]; simp; omega), List.nil_append, ns, lcFin_ok (by rw [List.length_map]; omega)]
      have ga : ∀ S : Sg, S.st[st.length + 4]? = some (.mu (.lst (V.map .int))) → getAtI (.r (st.length + 4)) (.p (.int ((idxB bs : Nat) : Int))) S = .ok o S := fun S h => by
        unfold getAtI
        simp only [asI, h]
        rw [if_pos (by omega), Int.toNat_natCast, List.getElem?_map, gi]; rfl
      have au : ∀ S : Sg, S.st[st.length + 4]? = some (.mu (.lst (V.map .int))) → augAt (fun i j => i + j) (.r (st.length + 4)) (.p (.int ((idxB bs : Nat) : Int))) o (.p (.int m)) S = .ok () ⟨S.sl, S.st.set (st.length + 4) (.mu (.lst ((V.set (idxB bs) (o + m)).map .int)))⟩ := fun S h => by
        show setAt (.r (st.length + 4)) (.p (.int ((idxB bs : Nat) : Int))) (.int (o + m)) S = _
        rw [setAt_ap, h, setK_at (by omega) (by rw [List.length_map, ln]; omega), Int.toNat_natCast, List.map_set]
      simp! [bnd_bnd, sv]
      rw [ga _ (gx2 ..), bnd_ok]
      simp! [bnd_bnd]
      rw [au _ (gx2 ..), sx2]
      exact wp_ok ⟨_, _, _, rfl⟩
  · rintro S ⟨s5, s6, J, rfl⟩
    have lF : ((F.map (entD bsD)).map fun p => [p.1, p.2]).length = F.length := by simp
    rw [lF, List.take_length, fin]
    have g0 : ∀ a b c d e : Cell, (st ++ (a :: b :: c :: d :: e :: J))[st.length + 4]? = some e := fun a b c d e => by rw [get_app]; rfl
    simp! [bnd_bnd]
    rw [finishR_mu (g0 ..) (by omega), List.take_append_of_le_length (Nat.le_refl _), List.take_length]
    exact wpf_ok ⟨rfl, rfl⟩
end Lib

set_option Elab.async false
set_option linter.all false
set_option maxRecDepth 100000
set_option exponentiation.threshold 2000
namespace Lib
open PySem PySem.Spec PyProof.Rows L2 Dd
/-! ### inks asked; the second family of plates -/
theorem ink_counts_i {ps : List Plt} (hp : ∀ P ∈ ps, PltOk P) (p1 : 1 ≤ ps.length) (p3 : ps.length ≤ 3) {l t w h : Int} (win : WinOk l t w h) (st : Store) :
    s_ink_counts [.p (.lst (ps.map pltD)), .p (winD l t w h)] st = .ok (.new (.lst ((inkL ps l t w h).map .int))) st := by
  have a := fun st => require_plates_ok hp (m := 3) p1 p3 st
  have c := fun st => require_window_ok win st
  have d := fun st => ink_list_i hp p1 (by omega) win st
  simp only [Int.cast_ofNat_Int] at a
  refine fin_eq ?_
  unfold s_ink_counts b_ink_counts
  simp! [bnd_bnd, a, c, d]
  rw [finishR_mu (o := .lst ((inkL ps l t w h).map .int)) (by simp) (Nat.le_refl _), List.take_append_of_le_length (Nat.le_refl _), List.take_length]
  exact wpf_ok ⟨rfl, rfl⟩
theorem cutD_1 {l : List D} (h : 1 ≤ l.length) : Dd.cutD l (some 1) none = l.drop 1 := by
  cases l with
  | nil => simp at h
  | cons a r =>
    unfold Dd.cutD HT.sIx
    simp only [List.length_cons]
    rw [if_neg (by decide), show min (1 : Int).toNat (r.length + 1) = 1 by simp]
    show List.take (r.length + 1 - 1) r = r
    simp
theorem covered_i {ps : List Plt} (hp : ∀ P ∈ ps, PltOk P) (p1 : 1 ≤ ps.length) (p3 : ps.length ≤ 3) {l t w h : Int} (win : WinOk l t w h) (st : Store) :
    s_covered [.p (.lst (ps.map pltD)), .p (winD l t w h)] st = .ok (.val (.int ((inkL ps l t w h).drop 1).sum)) st := by
  have a := fun st => require_plates_ok hp (m := 3) p1 p3 st
  have c := fun st => require_window_ok win st
  have d := fun st => ink_list_i hp p1 (by omega) win st
  simp only [Int.cast_ofNat_Int] at a
  have il : (inkL ps l t w h).length = 2 ^ ps.length := by unfold inkL; simp
  have n32 : 2 ^ ps.length ≤ 8 := Nat.pow_le_pow_right (by decide) p3
  have n1 : 1 ≤ 2 ^ ps.length := Nat.pow_pos (by decide)
  have sl := fun S => slK_ap (l := (inkL ps l t w h).map D.int) (lo := some 1) (hi := none) (S := S) (h := by rw [List.length_map]; omega)
  refine fin_eq ?_
  unfold s_covered b_covered
  simp! [bnd_bnd, a, c, d, slE_ap, opt1_ci, opt0_ap, opSl_r, sl, cutD_1 (l := (inkL ps l t w h).map D.int) (by rw [List.length_map]; omega), ← List.map_drop]
  exact wpf_ok ⟨rfl, rfl⟩
noncomputable def plT1 : M Fl := (sSq (sSet 6 (bin opIx (lstE (aC (bin opSub (callM s_z_law_pick 2 (aC (vr 0) (aC (ci 7) aN))) (ci 3)) (aC (bin opSub (callM s_z_law_pick 2 (aC (vr 0) (aC (bin opAdd (bin opMul (ci 2) (bin opPow (ci 10) (ci 30))) (ci 1)) aN))) (bin opPow (ci 10) (ci 30))) aN))) (opA (op1 opInt) (aC (bin opEqD (callM s_z_law_pick 2 (aC (vr 0) (aC (ci 4) aN))) (ci 0)) aN)))) (sEx (methM isLst opApp (vr 3) (aC (tupE (aC (vr 5) (aC (callM s_z_law_shade_v1 2 (aC (vr 0) (aC (vr 5) aN))) (aC (vr 6) (aC (bin opSub (callM s_z_law_pick 2 (aC (vr 0) (aC (ci 7) aN))) (ci 3)) aN))))) aN))))
noncomputable def plW1 : M Fl := (sSq (sSet 3 (lstE aN)) (sSq (sFor (itR1 (aC (vr 1) aN)) (gN 4) (sSq (sSet 5 (pur (callM s_z_law_levels_v1 2 (aC (vr 0) (aC (vr 2) aN))))) (sSq (sIf (mAnd (tst (bin opNeE (vr 3) (lstE aN))) (tst (bin opEqD (callM s_z_law_pick 2 (aC (vr 0) (aC (ci 3) aN))) (ci 0)))) (sSet 5 (bin opIx (bin opIx (vr 3) (ci 0)) (ci 0))) sNx) plT1))) (sRt (vr 3))))
theorem plates1_eq : b_z_law_plates_v1 = plW1 := rfl
theorem plT1_w {st J : Store} {n : Nat} {c : Cell} {C : Nat} (hn : n < st.length) (B : BagC c C) (hC : C + 8 ≤ 1000000) {ps : List Plt} (hl : ps.length ≤ 9) {ls : List (List Int)} (lok : LvOk ls) (s1 s2 s4 s6 : Option R) :
    Wp (plT1 ⟨[some (.r n), s1, s2, some (.r st.length), s4, some (.p (.lst (lvD ls))), s6], st.set n c ++ (.mu (.lst (ps.map lpD)) :: J)⟩) fun f S' => f = .nx ∧ ∃ c' P s6' J', (PltOk P ∧ P.ls = ls) ∧ S' = ⟨[some (.r n), s1, s2, some (.r st.length), s4, some (.p (.lst (lvD ls))), s6'], st.set n c' ++ (.mu (.lst ((ps ++ [P]).map lpD)) :: J')⟩ ∧ BagC c' (C + 8) := by
  have l1 : (ps.map lpD).length < 1000000 := by rw [List.length_map]; omega
  have p30 : CPowW 10 30 := by decide
  have e30 : (10 : Int) ^ (30 : Int).toNat = (1000000000000000000000000000000 : Int) := by decide
  have m2 : CMulW 2 (1000000000000000000000000000000 : Int) := by decide
  unfold plT1
  simp! [bnd_bnd]
  refine wp_bnd (wp_draw (pick_d (m := 7) (by decide) (by decide)) hn B (by omega) fun _ c1 ⟨a, e, a0, a1⟩ B1 => ?_); subst e
  simp! [bnd_bnd, opPow_i p30, e30, opMul_i m2]
  refine wp_bnd (wp_draw (pick_d (m := 2000000000000000000000000000001) (by decide) (by decide)) hn B1 (by omega) fun _ c2 ⟨b, e, b0, b1⟩ B2 => ?_); subst e
  simp! [bnd_bnd, opPow_i p30, e30]
  refine wp_bnd (wp_draw (pick_d (m := 4) (by decide) (by decide)) hn B2 (by omega) fun _ c3 ⟨u, e, u0, u1⟩ B3 => ?_); subst e
  obtain ⟨x, hx, x0, x1⟩ : ∃ x : Int, (∀ S, ixK [D.int (a - 3), D.int (b - (1000000000000000000000000000000 : Int))] (if decide (u = 0) = true then 1 else 0) S = .ok (.p (.int x)) S) ∧ -(1000000000000000000000000000000 : Int) ≤ x ∧ x ≤ (1000000000000000000000000000000 : Int) := by
    by_cases hu : u = 0
    · exact ⟨b - (1000000000000000000000000000000 : Int), fun S => by simp! [hu], by omega, by omega⟩
    · exact ⟨a - 3, fun S => by simp! [hu], by omega, by omega⟩
  simp! [bnd_bnd, gs1, hx]
  refine wp_bnd (wp_draw (shade1_d (ls := ls) lok.2.1) hn B3 (by omega) fun _ c4 ⟨k, e, k0, k1⟩ B4 => ?_); subst e
  simp! [bnd_bnd]
  refine wp_bnd (wp_draw (pick_d (m := 7) (by decide) (by decide)) hn B4 (by omega) fun _ c5 ⟨y, e, y0, y1⟩ B5 => ?_); subst e
  simp! [bnd_bnd, gs0, appK_ap l1]
  have mP : ps.map lpD ++ [D.tup [D.lst (lvD ls), .int k, .int x, .int (y - 3)]] = (ps ++ [(⟨ls, k, x, y - 3⟩ : Plt)]).map lpD := by simp [lpD]
  rw [mP]
  exact wp_ok ⟨rfl, c5, ⟨ls, k, x, y - 3⟩, _, _, ⟨⟨lok.2.2, lok.1, lok.2.1, k0, by show k ≤ 4 ^ ls.length; omega, x0, x1, by show -(1000000000000000000000000000000 : Int) ≤ y - 3; omega, by show y - 3 ≤ (1000000000000000000000000000000 : Int); omega⟩, rfl⟩, rfl, BagC.mono B5 (by omega)⟩
theorem plates1_d {many most : Nat} (hm : many ≤ 9) (h1 : 1 ≤ most) (h50 : most ≤ 50) : DrawsL s_z_law_plates_v1 (fun n => [.r n, .p (.int (many : Int)), .p (.int (most : Int))]) (fun v => ∃ ps : List Plt, v = ps.map lpD ∧ ps.length = many ∧ ∀ P ∈ ps, PltOk P ∧ P.ls.length ≤ most) (many * 260) := by
  apply drL_of
  intro st n c C hn hb hC
  unfold s_z_law_plates_v1
  rw [plates1_eq]
  unfold plW1
  simp! [bnd_bnd, rngK1_n (d := many) (by omega)]
  refine wpf_bnd (wp_loop (I := fun j S => ∃ (c' : Cell) (ps : List Plt) (J : Store) (s4 s5 s6 : Option R), S = ⟨[some (.r n), some (.p (.int (many : Int))), some (.p (.int (most : Int))), some (.r st.length), s4, s5, s6], st.set n c' ++ (.mu (.lst (ps.map lpD)) :: J)⟩ ∧ ps.length = j ∧ (∀ P ∈ ps, PltOk P ∧ P.ls.length ≤ most) ∧ BagC c' (C + j * 260)) ?_ ?_ ?_ ?_)
  · exact ⟨c, [], [], none, none, none, rfl, rfl, fun P hP => by simp at hP, by simpa using hb⟩
  · intros; trivial
  · rintro j q S hj ⟨c', ps, J, s4, s5, s6, rfl, hl, hp, B⟩
    have hjm := (intsFrom_at hj).2
    have hj2 : (j + 1) * 260 ≤ many * 260 := Nat.mul_le_mul_right _ hjm
    rw [bind_bnd]
    simp! [bnd_bnd]
    refine wp_bnd (wp_drawL (levels1_d (most := (most : Int)) (by omega) (by omega)) hn B (by omega) fun _ c2 ⟨ls, e, lok, hls⟩ B2 => ?_)
    subst e
    have fin : ∀ (c3 : Cell) (C3 : Nat) (ls3 : List (List Int)) (J3 : Store), LvOk ls3 ∧ ls3.length ≤ most → BagC c3 C3 → C3 ≤ C + j * 260 + 251 → Wp (plT1 ⟨[some (.r n), some (.p (.int (many : Int))), some (.p (.int (most : Int))), some (.r st.length), some (.p q), some (.p (.lst (lvD ls3))), s6], st.set n c3 ++ (.mu (.lst (ps.map lpD)) :: J3)⟩) fun f S' => f = .nx ∧ ∃ (c' : Cell) (ps : List Plt) (J : Store) (s4 s5 s6 : Option R), S' = ⟨[some (.r n), some (.p (.int (many : Int))), some (.p (.int (most : Int))), some (.r st.length), s4, s5, s6], st.set n c' ++ (.mu (.lst (ps.map lpD)) :: J)⟩ ∧ ps.length = j + 1 ∧ (∀ P ∈ ps, PltOk P ∧ P.ls.length ≤ most) ∧ BagC c' (C + (j + 1) * 260) := fun c3 C3 ls3 J3 lok3 B3 h3 => by
      refine wp_imp (plT1_w hn B3 (by omega) (by omega) lok3.1 _ _ _ _) fun f S' ⟨e, c', P, s6', J', hP, e2, B4⟩ => ⟨e, c', ps ++ [P], J', _, _, _, e2, by simp [hl], fun Q hQ => ?_, BagC.mono B4 (by omega)⟩
      rcases List.mem_append.mp hQ with h | h
      · exact hp Q h
      · rw [List.mem_singleton.mp h]; exact ⟨hP.1, by rw [hP.2]; exact lok3.2⟩
    simp! [bnd_bnd, gs1, ss1]
    rw [opNeE_e (l := ps.map lpD) (by rw [getLst_r]; show getLK _ = _; rw [gs0]; rfl) (by rw [getLst_r]; show getLK _ = _; rw [gs2]; rfl)]
    by_cases hnil : ps = []
    · subst hnil
      simp! [bnd_bnd, List.isEmpty_nil]
      refine wp_imp (fin c2 _ ls _ ⟨lok, by omega⟩ B2 (by omega)) ?_
      rintro f S' ⟨rfl, h⟩
      exact h
    · obtain ⟨Q, qs, hQ⟩ : ∃ Q qs, ps = Q :: qs := by
        cases ps with
        | nil => exact (hnil rfl).elim
        | cons Q qs => exact ⟨Q, qs, rfl⟩
      have ne : (ps.map lpD).isEmpty = false := by rw [hQ]; rfl
      simp! [bnd_bnd, ne]
      refine wp_bnd (wp_draw (pick_d (m := 3) (by decide) (by decide)) hn B2 (by omega) fun _ c3 ⟨u, e, u0, u1⟩ B3 => ?_)
      subst e
      have ix : ∀ S, ixK (ps.map lpD) 0 S = .ok (.p (lpD Q)) S := fun S => by rw [hQ]; exact ixK_0
      have Q1 := hp Q (by rw [hQ]; simp)
      by_cases hu : u = 0
      · simp! [bnd_bnd, hu, gs0, ix, lpD]
        refine wp_imp (fin c3 _ Q.ls _ ⟨⟨Q1.1.n1, Q1.1.n, Q1.1.p⟩, Q1.2⟩ B3 (by omega)) ?_
        rintro f S' ⟨rfl, h⟩
        exact h
      · simp! [bnd_bnd, hu]
        refine wp_imp (fin c3 _ ls _ ⟨lok, by omega⟩ B3 (by omega)) ?_
        rintro f S' ⟨rfl, h⟩
        exact h
  · rintro S ⟨c', ps, J, s4, s5, s6, rfl, hl, hp, B⟩
    rw [Dd.intsFrom_length] at hl B
    simp! [bnd_bnd]
    rw [finishR_mu (o := .lst (ps.map lpD)) gs0 (Nat.le_refl _), take_set_app]
    exact wpf_ok ⟨_, c', rfl, rfl, ⟨ps, rfl, hl, hp⟩, B⟩
end Lib

set_option Elab.async false
set_option linter.all false
set_option maxRecDepth 100000
set_option exponentiation.threshold 2000
set_option maxHeartbeats 2000000
namespace Lib
open PySem PySem.Spec PyProof.Rows L2 Dd
/-- a loop whose turn with number n raises -/
theorem loop_exc {β : Type} {ok : Sg → Prop} {body : β → M Fl} {x : Xn} {P : Sg → Prop} : ∀ {n : Nat} {l : List β} {d : β} {S : Sg} (I : Nat → Sg → Prop), l[n]? = some d → I 0 S → (∀ j S, I j S → ok S) →
    (∀ j d S, j < n → l[j]? = some d → I j S → ∃ S', body d S = .ok .nx S' ∧ I (j + 1) S') → (∀ S, I n S → ∃ S', body d S = .exc x S' ∧ P S') → ∃ S', loopL ok body l S = .exc x S' ∧ P S'
  | 0, l, d, S, I, hd, h0, hok, hs, he => by
    cases l with
    | nil => cases hd
    | cons e r =>
      cases hd
      obtain ⟨S', e1, p⟩ := he S h0
      exact ⟨S', by rw [loop_cons (hok _ _ h0), e1, bnd_exc], p⟩
  | n + 1, l, d, S, I, hd, h0, hok, hs, he => by
    cases l with
    | nil => cases hd
    | cons e r =>
      obtain ⟨S1, e1, i1⟩ := hs 0 e S (by omega) rfl h0
      obtain ⟨S', e2, p⟩ := loop_exc (n := n) (l := r) (d := d) (S := S1) (fun j => I (j + 1)) (by simpa using hd) i1 (fun j S h => hok _ _ h) (fun j d S hj h i => hs (j + 1) d S (by omega) (by simpa using h) i) he
      exact ⟨S', by rw [loop_cons (hok _ _ h0), e1, bnd_ok]; exact e2, p⟩
/-! plates, refused -/
def isTupD : D → Bool
  | .tup _ => true | _ => false
def isLstD : D → Bool
  | .lst _ => true | _ => false
theorem is_coordinate_d {d : D} (h : okD d = true) (st : Store) : s_is_coordinate [.p d] st = .ok (.val (.bl (wholeD d (-(1000000000000000000000000000000 : Int)) (1000000000000000000000000000000 : Int)))) st := by
  unfold s_is_coordinate b_is_coordinate
  simp! [is_whole_d h]
/-- a value that is no plate -/
def BadPl (d : D) : Prop := (okD d = true ∧ isTupD d = false) ∨ (∃ l, d = .tup l ∧ l.length ≠ 4) ∨ (∃ a b c e, d = .tup [a, b, c, e] ∧ okD a = true ∧ isScr a = false) ∨
  ∃ A b c e, A.length ≤ 50 ∧ d = .tup [.scr (lvD A), b, c, e] ∧ okD b = true ∧ okD c = true ∧ okD e = true ∧ (wholeD b 0 (4 ^ A.length) && (wholeD c (-(1000000000000000000000000000000 : Int)) (1000000000000000000000000000000 : Int) && wholeD e (-(1000000000000000000000000000000 : Int)) (1000000000000000000000000000000 : Int))) = false
theorem is_plate_x {d : D} (h : BadPl d) (st : Store) : s_is_plate [.p d] st = .ok (.val (.bl false)) st := by
  rcases h with ⟨h, ht⟩ | ⟨l, rfl, hl⟩ | ⟨a, b, c, e, rfl, h, hs⟩ | ⟨A, b, c, e, hA, rfl, h1, h2, h3, hw⟩
  · have : isaD "tuple" d = false := by
      rw [isaD_tuple]
      cases d <;> first | rfl | (cases ht; done)
    unfold s_is_plate b_is_plate
    simp! [isK_okD h, this]
  · have n4 : ¬ ((l.length : Nat) : Int) = 4 := by omega
    have n5 : decide (((l.length : Nat) : Int) = 4) = false := decide_eq_false n4
    unfold s_is_plate b_is_plate
    simp! [isK_okD (d := .tup l) rfl, isaD_tuple, n5, if_neg n4]
  · unfold s_is_plate b_is_plate
    simp! [isK_okD (d := .tup [a, b, c, e]) rfl, isaD_tuple, opNeD_i, isCK_okD h, hs]
  · unfold s_is_plate b_is_plate
    cases q1 : wholeD b 0 (4 ^ A.length)
    · simp! [isK_okD (d := .tup [.scr (lvD A), b, c, e]) rfl, isaD_tuple, opNeD_i, is_shade_d hA h1, q1]
    · cases q2 : wholeD c (-(1000000000000000000000000000000 : Int)) (1000000000000000000000000000000 : Int)
      · simp! [isK_okD (d := .tup [.scr (lvD A), b, c, e]) rfl, isaD_tuple, opNeD_i, is_shade_d hA h1, q1, is_coordinate_d h2, q2]
      · rw [q1, q2] at hw
        have q3 : wholeD e (-(1000000000000000000000000000000 : Int)) (1000000000000000000000000000000 : Int) = false := by simpa using hw
        simp! [isK_okD (d := .tup [.scr (lvD A), b, c, e]) rfl, isaD_tuple, opNeD_i, is_shade_d hA h1, q1, is_coordinate_d h2, q2, is_coordinate_d h3, q3]
theorem require_plates_n {d : D} (h : okD d = true) (hl : isLstD d = false) (m : Nat) (st : Store) : s_require_plates [.p d, .p (.int (m : Int))] st = .exc ⟨102, .non⟩ st := by
  have : isaD "list" d = false := by
    rw [isaD_list]
    cases d <;> first | rfl | (cases hl; done)
  unfold s_require_plates b_require_plates
  simp! [isK_okD h, this, sRaiseF_ap, finish_exc]
theorem require_plates_l {l : List D} {m : Nat} (h : l.length = 0 ∨ m < l.length) (st : Store) : s_require_plates [.p (.lst l), .p (.int (m : Int))] st = .exc ⟨102, .non⟩ st := by
  have hh : ¬ ((1 : Int) ≤ (l.length : Int) ∧ (l.length : Int) ≤ (m : Int)) := by omega
  unfold s_require_plates b_require_plates
  rcases h with h | h
  · have e1 : ¬ (1 : Int) ≤ (l.length : Int) := by omega
    simp! [isK_okD (d := .lst l) rfl, isaD_list, e1, sRaiseF_ap, finish_exc]
  · have e2 : ¬ (l.length : Int) ≤ (m : Int) := by omega
    by_cases e1 : (1 : Int) ≤ (l.length : Int)
    · simp! [isK_okD (d := .lst l) rfl, isaD_list, e1, e2, sRaiseF_ap, finish_exc]
    · simp! [isK_okD (d := .lst l) rfl, isaD_list, e1, sRaiseF_ap, finish_exc]
theorem require_plates_b {l : List D} {m n : Nat} {d : D} (h1 : 1 ≤ l.length) (hm : l.length ≤ m) (hd : l[n]? = some d) (hb : BadPl d) (hg : ∀ j d', j < n → l[j]? = some d' → ∃ P, PltOk P ∧ d' = pltD P) (st : Store) :
    s_require_plates [.p (.lst l), .p (.int (m : Int))] st = .exc ⟨102, .int (n : Int)⟩ st := by
  have e1 : (1 : Int) ≤ (l.length : Int) := by omega
  have e2 : (l.length : Int) ≤ (m : Int) := by omega
  have nn : ∀ (k : Nat) (l : List D) (n : Nat) (d : D), l[n]? = some d → (Dd.numbered k l)[n]? = some [.int ((k + n : Nat) : Int), d] := by
    intro k l
    induction l generalizing k with
    | nil => intro n d h; cases h
    | cons a r ih =>
      intro n d h
      cases n with
      | zero => cases h; rfl
      | succ n =>
        have := ih (k + 1) n d (by simpa using h)
        rw [show k + 1 + n = k + (n + 1) by omega] at this
        simpa [Dd.numbered] using this
  unfold s_require_plates b_require_plates
  simp! [isK_okD (d := .lst l) rfl, isaD_list, e1, e2]
  obtain ⟨S', e, hS⟩ := loop_exc (ok := fun _ => True) (body := fun d => (gsC (gN 2) (gsC (gN 3) gsN) d >>= fun _ => sIf (mNot (tst (callM s_is_plate 1 (aC (vr 3) aN)))) (sRaiseF 102 (vr 2)) sNx : M Fl)) (x := ⟨102, .int (n : Int)⟩) (P := fun S => S.st = st)
    (n := n) (l := Dd.numbered 0 l) (S := ⟨[some (.p (.lst l)), some (.p (.int (m : Int))), none, none], st⟩) (fun _ S => ∃ s2 s3, S = ⟨[some (.p (.lst l)), some (.p (.int (m : Int))), s2, s3], st⟩) (nn 0 l n d hd) ⟨_, _, rfl⟩ (fun _ _ _ => trivial)
    (fun j dd S hj hdd ⟨s2, s3, hS⟩ => by
      subst hS
      obtain ⟨d', rfl, h'⟩ := numbered_at hdd
      obtain ⟨P, hP, rfl⟩ := hg j d' hj h'
      refine ⟨_, by rw [bind_bnd]; simp! [fun st => is_plate_ok hP st]; rfl, _, _, rfl⟩)
    (fun S ⟨s2, s3, hS⟩ => by
      subst hS
      refine ⟨_, by rw [bind_bnd]; simp! [fun st => is_plate_x hb st, sRaiseF_ap, Nat.zero_add]; rfl, rfl⟩)
  rw [e, finish_exc, hS, List.take_of_length_le (Nat.le_refl _)]
end Lib

set_option Elab.async false
set_option linter.all false
set_option maxRecDepth 100000
set_option exponentiation.threshold 2000
namespace Lib
open PySem PySem.Spec PyProof.Rows L2 Dd
theorem made1_i {ps : List Plt} (hp : ∀ P ∈ ps, PltOk P) (h9 : ps.length ≤ 9) (st : Store) : s_z_law_made_v1 [.p (.lst (ps.map lpD))] st = .ok (.new (.lst (ps.map pltD))) st := by
  refine fin_eq ?_
  unfold s_z_law_made_v1 b_z_law_made_v1
  simp! [bnd_bnd]
  refine wpf_bnd (wp_loop (I := fun j S => ∃ (J : Store) (s3 s4 s5 s6 s7 : Option R), S = ⟨[some (.p (.lst (ps.map lpD))), some (.r st.length), some (.r (st.length + 1)), s3, s4, s5, s6, s7, none], st ++ (.mu (.lst ((ps.take j).map scrD)) :: .mu (.lst ((ps.take j).map pltD)) :: J)⟩) ⟨[], none, none, none, none, none, rfl⟩ (fun _ _ _ => trivial) ?_ ?_)
  · rintro j d S hj ⟨J, s3, s4, s5, s6, s7, rfl⟩
    rw [List.getElem?_map] at hj
    have j1 : j < ps.length := by
      refine Classical.byContradiction fun hn => ?_
      rw [List.getElem?_eq_none (by omega)] at hj; cases hj
    have hcj : ps[j]? = some ps[j] := List.getElem?_eq_getElem j1
    rw [hcj] at hj
    cases hj
    have P1 := hp ps[j] (List.getElem_mem j1)
    have et : ps.take (j + 1) = ps.take j ++ [ps[j]] := by rw [List.take_add_one, hcj]; rfl
    have tl : (ps.take j).length ≤ 9 := by rw [List.length_take]; omega
    rw [et]
    generalize ps[j] = P at *
    generalize ps.take j = T at *
    rw [bind_bnd]
    simp! [bnd_bnd, lpD]
    refine wp_bnd (wp_lcFin (wp_lc (I := fun i acc S => ∃ J', acc = ((T.take i).filter fun Q => decide (Q.ls = P.ls)).map scrD ∧ S = ⟨[some (.p (.lst (ps.map lpD))), some (.r st.length), some (.r (st.length + 1)), some (.p (.lst (lvD P.ls))), some (.p (.int P.k)), some (.p (.int P.x)), some (.p (.int P.y)), s7, none], st ++ (.mu (.lst (T.map scrD)) :: .mu (.lst (T.map pltD)) :: J')⟩) ⟨J, rfl, rfl⟩ ?_ ?_ ?_ ?_))
    · rintro i acc S ⟨J', _, rfl⟩
      show getLK _ = _
      rw [get_app0]; rfl
    · rw [List.length_map]; omega
    · rintro i q acc S hi hla ⟨J', rfl, rfl⟩
      rw [List.getElem?_map] at hi
      have i1 : i < T.length := by
        refine Classical.byContradiction fun hn => ?_
        rw [List.getElem?_eq_none (by omega)] at hi; cases hi
      have hci : T[i]? = some T[i] := List.getElem?_eq_getElem i1
      rw [hci] at hi
      cases hi
      have eti : T.take (i + 1) = T.take i ++ [T[i]] := by rw [List.take_add_one, hci]; rfl
      rw [eti, List.filter_append]
      generalize T[i] = Q at *
      have gx : ∀ a b c : Cell, (st ++ (a :: b :: (J' ++ [c])))[st.length + (J'.length + 1 + 1)]? = some c := fun a b c => by
        rw [get_app]
        show (J' ++ [c])[J'.length]? = _
        simp
      by_cases hq : Q.ls = P.ls
      · simp! [bnd_bnd, lcB1_t, scrD, levels_p, opEqD_K, dataR_r, gx, dataK_lv, dataR_p, toPy_lst_lv, eqDK_ll, hq, lcbK_t]
        refine wp_ok ⟨J' ++ [.mu (.lst (lvD P.ls))], ?_, rfl⟩
        rw [List.filter_cons_of_pos (by simpa using hq), List.map_append]
        show _ = _ ++ [scrD Q]
        unfold scrD
        rw [hq]
      · simp! [bnd_bnd, lcB1_t, scrD, levels_p, opEqD_K, dataR_r, gx, dataK_lv, dataR_p, toPy_lst_lv, eqDK_ll, hq, lcbK_f]
        refine wp_ok ⟨J' ++ [.mu (.lst (lvD Q.ls))], ?_, rfl⟩
        rw [List.filter_cons_of_neg (by simpa using hq), List.filter_nil, List.append_nil]
    · rintro acc S ⟨J', rfl, rfl⟩
      rw [show (T.map scrD).length = T.length from List.length_map .., List.take_length]
      refine ⟨by rw [List.length_map]; exact Nat.le_trans (List.length_filter_le _ _) (by omega), ?_⟩
      have hsame : ∀ Q ∈ T.filter (fun Q => decide (Q.ls = P.ls)), Q.ls = P.ls := fun Q hQ => by simpa using (List.mem_filter.mp hQ).2
      generalize T.filter (fun Q => decide (Q.ls = P.ls)) = E at *
      have l1 : (T.map scrD).length < 1000000 := by rw [List.length_map]; omega
      have l2 : (T.map pltD).length < 1000000 := by rw [List.length_map]; omega
      have lok : LvOk P.ls := ⟨P1.n1, P1.n, P1.p⟩
      have fP : D.tup [D.scr (lvD P.ls), .int P.k, .int P.x, .int P.y] = pltD P := rfl
      have fS : D.scr (lvD P.ls) = scrD P := rfl
      have mP : T.map pltD ++ [pltD P] = (T ++ [P]).map pltD := by simp
      have mS : T.map scrD ++ [scrD P] = (T ++ [P]).map scrD := by simp
      have gx : ∀ a b c : Cell, (st ++ (a :: b :: (J' ++ [c])))[st.length + (J'.length + 1 + 1)]? = some c := fun a b c => by
        rw [get_app]
        show (J' ++ [c])[J'.length]? = _
        simp
      have sx : ∀ a b c c' : Cell, (st ++ (a :: b :: (J' ++ [c]))).set (st.length + (J'.length + 1 + 1)) c' = st ++ (a :: b :: (J' ++ [c'])) := fun a b c c' => by
        rw [set_app, List.set_cons_succ, List.set_cons_succ]
        congr 3
        rw [List.set_append_right _ _ (Nat.le_refl _)]; simp
      have gy : ∀ a b c c2 : Cell, (st ++ (a :: b :: (J' ++ [c, c2])))[st.length + (J'.length + 1 + 1 + 1)]? = some c2 := fun a b c c2 => by
        rw [get_app]
        show (J' ++ [c, c2])[J'.length + 1]? = _
        rw [List.getElem?_append_right (by omega), show J'.length + 1 - J'.length = 1 by omega]; rfl
      have gz : ∀ a b c c2 c3 : Cell, (st ++ (a :: b :: (J' ++ [c, c2, c3])))[st.length + (J'.length + 1 + 1 + 1 + 1)]? = some c3 := fun a b c c2 c3 => by
        rw [get_app]
        show (J' ++ [c, c2, c3])[J'.length + 1 + 1]? = _
        rw [List.getElem?_append_right (by omega), show J'.length + 1 + 1 - J'.length = 2 by omega]; rfl
      have sz : ∀ a b c c2 c3 c' : Cell, (st ++ (a :: b :: (J' ++ [c, c2, c3]))).set (st.length + (J'.length + 1 + 1 + 1 + 1)) c' = st ++ (a :: b :: (J' ++ [c, c2, c'])) := fun a b c c2 c3 c' => by
        rw [set_app, List.set_cons_succ, List.set_cons_succ]
        congr 3
        rw [List.set_append_right _ _ (by omega), show J'.length + 1 + 1 - J'.length = 2 by omega]; rfl
      have ixs : ∀ (x : D) (S : Sg), ixK (T.map scrD ++ [x]) (-1) S = .ok (.p x) S := fun x S => ixK_snoc
      have s0 : ∀ (a b a' : Cell) (r : Store), (st ++ (a :: b :: r)).set st.length a' = st ++ (a' :: b :: r) := fun a b a' r => by rw [set_app0]; rfl
      simp! [bnd_bnd, sPur_ap, gx, sx]
      rw [opNeE_e (l := E.map scrD) rfl (by rw [getLst_r]; show getLK _ = _; rw [gy]; rfl)]
      cases E with
      | nil =>
        simp! [bnd_bnd, List.isEmpty_nil, screen_make P.ls lok, gz, sz, pureC_obj objD_scr, appK_ap l1, appK_ap l2, ixs, fP]
        rw [fS, mP, mS]
        exact wp_ok ⟨_, _, _, _, _, _, rfl⟩
      | cons Q E =>
        have hq := hsame Q (by simp)
        have fQ : scrD Q = D.scr (lvD P.ls) := by unfold scrD; rw [hq]
        simp! [bnd_bnd, List.isEmpty_cons, fQ, appK_ap l1, appK_ap l2, ixs, fP]
        rw [fS, mP, mS]
        exact wp_ok ⟨_, _, _, _, _, _, rfl⟩
  · rintro S ⟨J, s3, s4, s5, s6, s7, rfl⟩
    rw [show (ps.map lpD).length = ps.length from List.length_map .., List.take_length]
    have g0 : ∀ a b : Cell, (st ++ (a :: b :: J))[st.length + 1]? = some b := fun a b => by rw [get_app]; rfl
    simp! [bnd_bnd]
    rw [finishR_mu (g0 ..) (by omega), List.take_append_of_le_length (Nat.le_refl _), List.take_length]
    exact wpf_ok ⟨rfl, rfl⟩
end Lib

set_option Elab.async false
set_option linter.all false
set_option maxRecDepth 100000
set_option exponentiation.threshold 2000
set_option maxHeartbeats 2000000
namespace Lib
open PySem PySem.Spec PyProof.Rows L2 Dd
/-! what is shown of data, of the empty dict, of texts -/
theorem opReprE_e {S : Sg} : opReprE (.p .edct) S = .ok (.p (.str (Str.ofString "{}"))) S := Eq.trans rfl rfl
theorem opReprE_s {z : Str} {S : Sg} (h : (reprText z).length ≤ 1000) : opReprE (.p (.str z)) S = .ok (.p (.str (reprText z))) S := if_pos (Nat.le_trans h (by rw [sizeLine_eq]; decide))
def shOk (p : PyData) : Bool := p.showable && !p.hasDict && decide (p.depth ≤ 64) && decide (p.shown.length ≤ 1000) && PyData.strOk p.shown
def rpOk (d : D) : Bool := match d with
  | .edct => true
  | .str z => decide ((reprText z).length ≤ 1000) && PyData.strOk (reprText z)
  | d => match toPy d with
    | some (.int i) => decide (i.natAbs.log2 < 1920) && PyData.strOk (toString i)
    | some (.list xs) => shOk (.list xs)
    | some (.tuple xs) => shOk (.tuple xs)
    | some (.bool b) => true
    | some .none => true
    | _ => false
theorem shOk_iff {p : PyData} (h : shOk p = true) : (p.showable = true ∧ p.hasDict = false ∧ p.depth ≤ 64 ∧ p.shown.length ≤ sizeLine) ∧ PyData.strOk p.shown = true := by
  unfold shOk at h
  simp only [Bool.and_eq_true, Bool.not_eq_true', decide_eq_true_eq] at h
  obtain ⟨⟨⟨⟨h1, h2⟩, h3⟩, h4⟩, h5⟩ := h
  exact ⟨⟨h1, h2, h3, Nat.le_trans h4 (by rw [sizeLine_eq]; decide)⟩, h5⟩
theorem reprE_ok {d : D} (h : rpOk d = true) : ∃ T, PyData.strOk T = true ∧ ∀ S, opReprE (.p d) S = .ok (.p (.str T)) S := by
  have gen : ∀ p, toPy d = some p → (match p with
    | .int i => decide (i.natAbs.log2 < 1920) && PyData.strOk (toString i)
    | .list xs => shOk (.list xs)
    | .tuple xs => shOk (.tuple xs)
    | .bool b => true
    | .none => true
    | _ => false) = true → ∃ T, PyData.strOk T = true ∧ ∀ S, opRepr (.p d) S = .ok (.p (.str T)) S := fun p hp h => by
    have e : ∀ S, dataR (.p d) S = some p := fun S => by rw [dataR_p, hp]
    cases p with
    | none => exact ⟨Str.ofString "None", by decide +kernel, fun S => by unfold opRepr; rw [e S] <;> rfl⟩
    | bool b => exact ⟨_, (by cases b <;> decide +kernel : PyData.strOk (if b = true then (Str.ofString "True") else (Str.ofString "False")) = true), fun S => by unfold opRepr; rw [e S] <;> rfl⟩
    | int i =>
      simp only [Bool.and_eq_true, decide_eq_true_eq] at h
      exact ⟨_, h.2, fun S => by unfold opRepr; rw [e S]; exact if_pos h.1⟩
    | str z => cases h
    | list xs =>
      obtain ⟨a, b⟩ := shOk_iff h
      exact ⟨_, b, fun S => by unfold opRepr; rw [e S]; exact if_pos a⟩
    | tuple xs =>
      obtain ⟨a, b⟩ := shOk_iff h
      exact ⟨_, b, fun S => by unfold opRepr; rw [e S]; exact if_pos a⟩
    | dict kv => cases h
  unfold rpOk at h
  cases d with
  | edct => exact ⟨Str.ofString "{}", by decide +kernel, fun S => opReprE_e⟩
  | str z =>
    simp only [Bool.and_eq_true, decide_eq_true_eq] at h
    exact ⟨_, h.2, fun S => opReprE_s h.1⟩
  | _ =>
    simp only at h
    split at h <;> first
      | (rename_i p hp; exact gen _ hp h)
      | (rename_i hp; exact gen _ hp h)
      | (cases h; done)
theorem class_y {f : D} {T : Str} (hr : ∀ S, opRepr (.p f) S = .ok (.p (.str T)) S) (hl : T.length ≤ 100) (st : Store) : s_z_law_class_v2 [.p (.exn 102 f)] st = .ok (.val (.str (Str.ofString "InvalidPlates" ++ (Str.ofString " " ++ T)))) st := by
  have hk : 100 ≤ 102 ∧ 102 ≤ 119 := by omega
  unfold s_z_law_class_v2 b_z_law_class_v2
  simp! [isX_ap, isXK_n hk, opAdd_pr, catK_ap]
  obtain ⟨ps, hps⟩ : ∃ ps : List (Str × Bool), ps = [(Str.ofString "InvalidLevels", xsub 102 101), (Str.ofString "InvalidPlates", xsub 102 102), (Str.ofString "InvalidConditions", xsub 102 103), (Str.ofString "InvalidSeen", xsub 102 104), (Str.ofString "InvalidText", xsub 102 105), (Str.ofString "TooDeep", xsub 102 106), (Str.ofString "OverInk", xsub 102 107),
    (Str.ofString "InvalidScreen", xsub 102 108), (Str.ofString "InvalidShade", xsub 102 109), (Str.ofString "Nothing", xsub 102 118), (Str.ofString "InvalidWindow", xsub 102 110), (Str.ofString "InvalidPlace", xsub 102 111), (Str.ofString "InvalidSide", xsub 102 112), (Str.ofString "InvalidKind", xsub 102 113), (Str.ofString "InvalidRows", xsub 102 115),
    (Str.ofString "InvalidNumber", xsub 102 114), (Str.ofString "InvalidLimit", xsub 102 116), (Str.ofString "InvalidOperation", xsub 102 117), (Str.ofString "InvalidCommand", xsub 102 119)] := ⟨_, rfl⟩
  have e1 : ([D.tup [.str (Str.ofString "InvalidLevels"), .bl (xsub 102 101)], .tup [.str (Str.ofString "InvalidPlates"), .bl (xsub 102 102)], .tup [.str (Str.ofString "InvalidConditions"), .bl (xsub 102 103)], .tup [.str (Str.ofString "InvalidSeen"), .bl (xsub 102 104)],
    .tup [.str (Str.ofString "InvalidText"), .bl (xsub 102 105)], .tup [.str (Str.ofString "TooDeep"), .bl (xsub 102 106)], .tup [.str (Str.ofString "OverInk"), .bl (xsub 102 107)], .tup [.str (Str.ofString "InvalidScreen"), .bl (xsub 102 108)], .tup [.str (Str.ofString "InvalidShade"), .bl (xsub 102 109)],
    .tup [.str (Str.ofString "Nothing"), .bl (xsub 102 118)], .tup [.str (Str.ofString "InvalidWindow"), .bl (xsub 102 110)], .tup [.str (Str.ofString "InvalidPlace"), .bl (xsub 102 111)], .tup [.str (Str.ofString "InvalidSide"), .bl (xsub 102 112)], .tup [.str (Str.ofString "InvalidKind"), .bl (xsub 102 113)], .tup [.str (Str.ofString "InvalidRows"), .bl (xsub 102 115)],
    .tup [.str (Str.ofString "InvalidNumber"), .bl (xsub 102 114)], .tup [.str (Str.ofString "InvalidLimit"), .bl (xsub 102 116)], .tup [.str (Str.ofString "InvalidOperation"), .bl (xsub 102 117)], .tup [.str (Str.ofString "InvalidCommand"), .bl (xsub 102 119)]] : List D) = ps.map fun p => D.tup [.str p.1, .bl p.2] := by
    rw [hps]; rfl
  have e2 : ps.length ≤ 1000 := by rw [hps]; simp
  have e3 : ps.filter (·.2) = [(Str.ofString "InvalidPlates", true)] := by
    rw [hps]; decide +kernel
  have n6 : inV (.str (Str.ofString "InvalidPlates")) [.str (Str.ofString "InvalidPlates"), .str (Str.ofString "InvalidSeen")] = true := by decide +kernel
  have n7 : ∀ S : Sg, inK false (.str (Str.ofString "InvalidPlates")) (some [D.str (Str.ofString "InvalidPlates"), D.str (Str.ofString "InvalidSeen")]) S = .ok (.p (.bl true)) S := fun S => by
    rw [inK_ap (vs := [.str (Str.ofString "InvalidPlates"), .str (Str.ofString "InvalidSeen")]) rfl, n6] <;> rfl
  have l1 : (Str.ofString " ").length = 1 := by decide
  have l2 : (Str.ofString "InvalidPlates").length = 13 := by decide
  have n8 : ∀ S : Sg, opAdd (.p (.str (Str.ofString " "))) (.p (.str T)) S = .ok (.p (.str (Str.ofString " " ++ T))) S := fun S => opAdd_sx (by omega)
  have la : (Str.ofString " " ++ T).length = (Str.ofString " ").length + T.length := by rw [TL.len_tl, TL.len_tl, TL.len_tl, TL.tl_append, List.length_append]
  have n9 : ∀ S : Sg, opAdd (.p (.str (Str.ofString "InvalidPlates"))) (.p (.str (Str.ofString " " ++ T))) S = .ok (.p (.str (Str.ofString "InvalidPlates" ++ (Str.ofString " " ++ T)))) S := fun S => opAdd_sx (by omega)
  have fi : 101 ≤ 102 ∧ 102 ≤ 107 ∧ fldN 102 = Str.ofString "item" := ⟨by decide, by decide, rfl⟩
  rw [e1]
  rw [lc_pairs (by first | trivial | simp! []) ps e2 (fun p _ => by
    rw [lcBT_t (by rfl)]
    cases hp : p.2 <;> simp! [setS, lcbK, hp])]
  simp! [lcFin_ok, e3, sPur_ap, isVE_ap, isVK_n hk, ixK0, n7, attX_ap, attXK_n fi, hr, n8, n9]
end Lib

set_option Elab.async false
set_option linter.all false
set_option maxRecDepth 100000
set_option exponentiation.threshold 2000
namespace Lib
open PySem PySem.Spec PyProof.Rows L2 Dd
theorem cutD_from {α : Type} {l : List α} {n : Nat} : Dd.cutD l (some (n : Int)) none = l.drop n := by
  unfold Dd.cutD HT.sIx
  simp only
  rw [if_neg (show ¬ ((n : Int) < 0) by omega), Int.toNat_natCast]
  by_cases h : n ≤ l.length
  · rw [Nat.min_eq_left h, List.take_of_length_le]
    rw [List.length_drop]; omega
  · rw [Nat.min_eq_right (show l.length ≤ n by omega), List.drop_eq_nil_of_le (show l.length ≤ n by omega), List.drop_eq_nil_of_le (Nat.le_refl _), List.take_nil]
end Lib

set_option Elab.async false
set_option linter.all false
set_option maxRecDepth 100000
set_option maxHeartbeats 4000000
namespace K29
open PySem PySem.Spec PyProof.Rows L2 Dd Lib
noncomputable def b_z_law_bad_plates : M Fl :=
    (sSq (sSet 1 (propU 0 s_Screen_shades (vr 0)))
    (sSq (sSet 2 (lstE (aC cn (aC (ci 0) (aC (cs "") (aC (tupE aN) (aC (lstE aN) (aC edE (aC (vr 0) (aC (tupE (aC (vr 0) aN)) (aC (tupE (aC (vr 0) (aC (ci 1) (aC (ci 0) aN)))) (aC (tupE (aC (vr 0) (aC (ci 1) (aC (ci 0) (aC (ci 0) (aC (ci 0) aN)))))) (aC (lstE (aC (vr 0) (aC (ci 1) (aC (ci 0) (aC (ci 0) aN))))) aN)))))))))))))
    (sSq (sSet 2 (bin opAdd (vr 2) (lstE (aC (tupE (aC cn (aC (ci 1) (aC (ci 0) (aC (ci 0) aN))))) (aC (tupE (aC (propU 0 s_Screen_levels (vr 0)) (aC (ci 1) (aC (ci 0) (aC (ci 0) aN))))) (aC (tupE (aC (ci 1) (aC (vr 0) (aC (ci 0) (aC (ci 0) aN))))) aN))))))
    (sSq (sFor (itL (tupE (aC cn (aC (cb true) (aC (cs "1") (aC (uNeg (ci 1)) (aC (bin opAdd (vr 1) (ci 1)) (aC (lstE (aC (ci 1) aN)) aN)))))))) (gN 3) (sEx (methM isLst opApp (vr 2) (aC (tupE (aC (vr 0) (aC (vr 3) (aC (ci 0) (aC (ci 0) aN))))) aN))))
    (sSq (sFor (itL (tupE (aC cn (aC (cb false) (aC (cs "0") (aC (bin opAdd (bin opPow (ci 10) (ci 30)) (ci 1)) (aC (bin opSub (bin opSub (ci 0) (bin opPow (ci 10) (ci 30))) (ci 1)) (aC (tupE (aC (ci 0) aN)) aN)))))))) (gN 3) (sSet 2 (bin opAdd (vr 2) (lstE (aC (tupE (aC (vr 0) (aC (ci 1) (aC (vr 3) (aC (ci 0) aN))))) (aC (tupE (aC (vr 0) (aC (ci 1) (aC (ci 0) (aC (vr 3) aN))))) aN))))))
    (sRt (vr 2)))))))
noncomputable def s_z_law_bad_plates : Fn := runF 4 b_z_law_bad_plates

noncomputable def b_z_law_told : M Fl :=
    (sSq (sPar 3 4 (aC cn (aC (opA (op1 opReprE) (aC (vr 2) aN)) aN)))
    (sSq (sTry 5 (sIf (tst (bin opEqD (vr 0) (ci 0))) (sEx (callM s_ink_counts 2 (aC (vr 1) (aC (vr 2) aN)))) (sEx (callM s_covered 2 (aC (vr 1) (aC (vr 2) aN))))) (sSet 3 (vr 5)))
    (sSq (sIf (tst (bin opNeD (opA (op1 opReprE) (aC (vr 2) aN)) (vr 4))) (sRt (cs "changed")) sNx)
    (sRt (eIf (tst (isN (vr 3))) (cs "fine") (callM s_z_law_class_v2 1 (aC (vr 3) aN)))))))
noncomputable def s_z_law_told : Fn := runF 6 b_z_law_told

noncomputable def b_z_law_both : M Fl :=
    (sRt (bin opEqD (lcE [3] [3] unp1 (itL (tupE (aC (ci 0) (aC (ci 1) aN)))) tYesM (callM s_z_law_told 3 (aC (vr 3) (aC (vr 0) (aC (vr 1) aN))))) (bin opMul (lstE (aC (vr 2) aN)) (ci 2))))
noncomputable def s_z_law_both : Fn := runF 4 b_z_law_both

noncomputable def b_z_law_right : M Fl :=
    (sSq (sSet 1 (pur (callM s_z_law_made_v1 1 (aC (pur (callM s_z_law_plates_v1 3 (aC (vr 0) (aC (bin opAdd (ci 1) (callM s_z_law_pick 2 (aC (vr 0) (aC (ci 3) aN)))) (aC (ci 4) aN))))) aN))))
    (sSq (sSet 2 (tupE (aC (ci 0) (aC (ci 0) (aC (ci 1) (aC (ci 1) aN))))))
    (sSq (sFor (itL (lstE (aC cn (aC (ci 0) (aC (cb true) (aC (cs "") (aC (tupE aN) (aC edE (aC (lstE aN) (aC (opA (op1 opTuple) (aC (vr 1) aN)) (aC (bin opIx (vr 1) (ci 0)) (aC (slE (bin opMul (vr 1) (ci 4)) opt0 (opt1 (ci 4))) (aC (bin opMul (lstE (aC cn aN)) (ci 4)) (aC (bin opPow (ci 10) (ci 40)) aN)))))))))))))) (gN 3) (sIf (mOr (mNot (tst (callM s_z_law_both 3 (aC (vr 3) (aC (vr 2) (aC (cs "InvalidPlates None") aN)))))) (mNot (tst (callM s_z_law_both 3 (aC (vr 3) (aC cn (aC (cs "InvalidPlates None") aN))))))) (sRt (cb false)) sNx))
    (sSq (sFor (itL (callM s_z_law_bad_plates 1 (aC (bin opIx (bin opIx (vr 1) (ci 0)) (ci 0)) aN))) (gN 3) (sSq (sSet 4 (callM s_z_law_pick 2 (aC (vr 0) (aC (opA (op1 opLen) (aC (vr 1) aN)) aN))))
    (sFor (itL (tupE (aC (bin opAdd (bin opAdd (slE (vr 1) opt0 (opt1 (vr 4))) (lstE (aC (vr 3) aN))) (slE (vr 1) (opt1 (bin opAdd (vr 4) (ci 1))) opt0)) (aC (bin opAdd (slE (vr 1) opt0 (opt1 (vr 4))) (slE (lstE (aC (vr 3) (aC cn aN))) opt0 (opt1 (bin opSub (ci 3) (vr 4))))) aN)))) (gN 5) (sIf (mNot (tst (callM s_z_law_both 3 (aC (vr 5) (aC cn (aC (bin opAdd (cs "InvalidPlates ") (opA (op1 opRepr) (aC (vr 4) aN))) aN)))))) (sRt (cb false)) sNx))))
    (sSq (sFor (itL (callM s_z_law_bad_windows 0 aN)) (gN 3) (sIf (mNot (tst (callM s_z_law_both 3 (aC (vr 1) (aC (vr 3) (aC (cs "InvalidWindow") aN)))))) (sRt (cb false)) sNx))
    (sSq (sPar 6 7 (aC (bin opPow (ci 10) (ci 30)) (aC (propU 0 s_Screen_shades (bin opIx (bin opIx (vr 1) (ci 0)) (ci 0))) aN)))
    (sSq (sSet 8 (pur (lstE (aC (tupE (aC (bin opIx (bin opIx (vr 1) (ci 0)) (ci 0)) (aC (ci 0) (aC (vr 6) (aC (bin opSub (ci 0) (vr 6)) aN))))) (aC (tupE (aC (bin opIx (bin opIx (vr 1) (ci 0)) (ci 0)) (aC (vr 7) (aC (bin opSub (ci 0) (vr 6)) (aC (vr 6) aN))))) aN)))))
    (sRt (eAnd (callM s_z_law_both 3 (aC (vr 8) (aC (tupE (aC (vr 6) (aC (bin opSub (ci 0) (vr 6)) (aC (vr 6) (aC (vr 6) aN))))) (aC (cs "fine") aN)))) (callM s_z_law_both 3 (aC (vr 1) (aC (tupE (aC (bin opSub (ci 0) (vr 6)) (aC (vr 6) (aC (ci 1) (aC (ci 1) aN))))) (aC (cs "fine") aN)))))))))))))
noncomputable def s_z_law_right : Fn := runF 9 b_z_law_right

noncomputable def b_law : M Fl :=
    (sSq (sFor (itL (bin opAdd (slE (vr 0) opt0 (opt1 (ci 6))) (lstE (aC (ci 0) aN)))) (gN 1) (sSq (sSet 2 (callM s_z_law_bag 1 (aC (vr 1) aN)))
    (sIf (mNot (tst (callM s_z_law_right 1 (aC (vr 2) aN)))) (sRt (cb false)) sNx)))
    (sRt (cb true)))
noncomputable def s_law : Fn := runF 3 b_law
end K29

set_option Elab.async false
set_option linter.all false
set_option maxRecDepth 100000
set_option maxHeartbeats 4000000
namespace K29
open PySem PySem.Spec PyProof.Rows L2 Dd Lib
def top (i : Nat) : Stmt := PySem.Challenge.pw_ditherdepths_k29_errors_of_inks.main.body.getD i (.Pass ⟨0, 0, 0, 0⟩)
structure Fx (K : PySem.W.Frag) (mg : Str → Option Value) (cls A : Nat → Addr) (FD : Nat → FuncData) : Prop where
  f_z_law_bag : Fun K "_law_bag" "_law_bag" (top 53) (A 0) (FD 0)
  b_z_law_bag : Binds K (FD 0) ["cell"] []
  m_z_law_bag : mg "_law_bag" = some (.ref (A 0))
  f_is_int : Fun K "is_int" "is_int" (top 1) (A 1) (FD 1)
  b_is_int : Binds K (FD 1) ["value"] []
  m_is_int : mg "is_int" = some (.ref (A 1))
  f_is_level : Fun K "is_level" "is_level" (top 30) (A 2) (FD 2)
  b_is_level : Binds K (FD 2) ["value"] []
  m_is_level : mg "is_level" = some (.ref (A 2))
  f_Screen___init : Fun K "__init__" "Screen.__init__" (inClass (top 31) 0) (A 3) (FD 3)
  b_Screen___init : Binds K (FD 3) ["self", "levels"] []
  mk0 : Mk K (cls 0) (A 3)
  f_Screen_levels : Fun K "levels" "Screen.levels" (inClass (top 31) 2) (A 4) (FD 4)
  b_Screen_levels : Binds K (FD 4) ["self"] []
  p_Screen_levels : ∃ pA, PropOf K (cls 0) "levels" pA (A 4)
  f_z_law_made_v1 : Fun K "_law_made" "_law_made" (top 58) (A 5) (FD 5)
  b_z_law_made_v1 : Binds K (FD 5) ["plates"] []
  m_z_law_made_v1 : mg "_law_made" = some (.ref (A 5))
  f_Screen_shades : Fun K "shades" "Screen.shades" (inClass (top 31) 5) (A 6) (FD 6)
  b_Screen_shades : Binds K (FD 6) ["self"] []
  p_Screen_shades : ∃ pA, PropOf K (cls 0) "shades" pA (A 6)
  f_z_law_bad_plates : Fun K "_law_bad_plates" "_law_bad_plates" (top 63) (A 7) (FD 7)
  b_z_law_bad_plates : Binds K (FD 7) ["screen"] []
  m_z_law_bad_plates : mg "_law_bad_plates" = some (.ref (A 7))
  f_z_law_bad_windows : Fun K "_law_bad_windows" "_law_bad_windows" (top 60) (A 8) (FD 8)
  b_z_law_bad_windows : Binds K (FD 8) [] []
  m_z_law_bad_windows : mg "_law_bad_windows" = some (.ref (A 8))
  f_z_law_pick : Fun K "_law_pick" "_law_pick" (top 54) (A 9) (FD 9)
  b_z_law_pick : Binds K (FD 9) ["bag", "many"] []
  m_z_law_pick : mg "_law_pick" = some (.ref (A 9))
  f_z_law_levels_v1 : Fun K "_law_levels" "_law_levels" (top 55) (A 10) (FD 10)
  b_z_law_levels_v1 : Binds K (FD 10) ["bag", "most"] []
  m_z_law_levels_v1 : mg "_law_levels" = some (.ref (A 10))
  f_z_law_shade_v1 : Fun K "_law_shade" "_law_shade" (top 56) (A 11) (FD 11)
  b_z_law_shade_v1 : Binds K (FD 11) ["bag", "levels"] []
  m_z_law_shade_v1 : mg "_law_shade" = some (.ref (A 11))
  f_z_law_plates_v1 : Fun K "_law_plates" "_law_plates" (top 57) (A 12) (FD 12)
  b_z_law_plates_v1 : Binds K (FD 12) ["bag", "many", "most"] []
  m_z_law_plates_v1 : mg "_law_plates" = some (.ref (A 12))
  f_z_law_class_v2 : Fun K "_law_class" "_law_class" (top 59) (A 13) (FD 13)
  b_z_law_class_v2 : Binds K (FD 13) ["caught"] []
  m_z_law_class_v2 : mg "_law_class" = some (.ref (A 13))
  f_is_whole : Fun K "is_whole" "is_whole" (top 2) (A 14) (FD 14)
  b_is_whole : Binds K (FD 14) ["value", "low", "high"] []
  m_is_whole : mg "is_whole" = some (.ref (A 14))
  f_is_shade : Fun K "is_shade" "is_shade" (top 29) (A 15) (FD 15)
  b_is_shade : Binds K (FD 15) ["screen", "value"] []
  m_is_shade : mg "is_shade" = some (.ref (A 15))
  f_is_coordinate : Fun K "is_coordinate" "is_coordinate" (top 38) (A 16) (FD 16)
  b_is_coordinate : Binds K (FD 16) ["value"] []
  m_is_coordinate : mg "is_coordinate" = some (.ref (A 16))
  f_is_plate : Fun K "is_plate" "is_plate" (top 39) (A 17) (FD 17)
  b_is_plate : Binds K (FD 17) ["value"] []
  m_is_plate : mg "is_plate" = some (.ref (A 17))
  f_require_plates : Fun K "require_plates" "require_plates" (top 40) (A 18) (FD 18)
  b_require_plates : Binds K (FD 18) ["value", "most"] []
  m_require_plates : mg "require_plates" = some (.ref (A 18))
  f_is_window : Fun K "is_window" "is_window" (top 35) (A 19) (FD 19)
  b_is_window : Binds K (FD 19) ["value"] []
  m_is_window : mg "is_window" = some (.ref (A 19))
  f_require_window : Fun K "require_window" "require_window" (top 36) (A 20) (FD 20)
  b_require_window : Binds K (FD 20) ["value"] []
  m_require_window : mg "require_window" = some (.ref (A 20))
  f_Screen_depth : Fun K "depth" "Screen.depth" (inClass (top 31) 3) (A 21) (FD 21)
  b_Screen_depth : Binds K (FD 21) ["self"] []
  p_Screen_depth : ∃ pA, PropOf K (cls 0) "depth" pA (A 21)
  f_looks_of : Fun K "looks_of" "looks_of" (top 41) (A 22) (FD 22)
  b_looks_of : Binds K (FD 22) ["plates", "conditions"] []
  m_looks_of : mg "looks_of" = some (.ref (A 22))
  f_bit_of : Fun K "bit_of" "bit_of" (top 42) (A 23) (FD 23)
  b_bit_of : Binds K (FD 23) ["value", "spot"] []
  m_bit_of : mg "bit_of" = some (.ref (A 23))
  f_step_of : Fun K "step_of" "step_of" (top 43) (A 24) (FD 24)
  b_step_of : Binds K (FD 24) ["looks", "spot", "state", "x", "y"] []
  m_step_of : mg "step_of" = some (.ref (A 24))
  f_may_be : Fun K "may_be" "may_be" (top 44) (A 25) (FD 25)
  b_may_be : Binds K (FD 25) ["kinds", "wanted"] []
  m_may_be : mg "may_be" = some (.ref (A 25))
  f_less_so_far : Fun K "less_so_far" "less_so_far" (top 45) (A 26) (FD 26)
  b_less_so_far : Binds K (FD 26) ["value", "bound", "is_less"] []
  m_less_so_far : mg "less_so_far" = some (.ref (A 26))
  f_tally : Fun K "tally" "tally" (top 46) (A 27) (FD 27)
  b_tally : Binds K (FD 27) ["looks", "wanted", "window"] []
  m_tally : mg "tally" = some (.ref (A 27))
  f_ink_list : Fun K "ink_list" "ink_list" (top 49) (A 28) (FD 28)
  b_ink_list : Binds K (FD 28) ["plates", "window"] []
  m_ink_list : mg "ink_list" = some (.ref (A 28))
  f_ink_counts : Fun K "ink_counts" "ink_counts" (top 50) (A 29) (FD 29)
  b_ink_counts : Binds K (FD 29) ["plates", "window"] []
  m_ink_counts : mg "ink_counts" = some (.ref (A 29))
  f_covered : Fun K "covered" "covered" (top 51) (A 30) (FD 30)
  b_covered : Binds K (FD 30) ["plates", "window"] []
  m_covered : mg "covered" = some (.ref (A 30))
  f_z_law_told : Fun K "_law_told" "_law_told" (top 61) (A 31) (FD 31)
  b_z_law_told : Binds K (FD 31) ["way", "plates", "window"] []
  m_z_law_told : mg "_law_told" = some (.ref (A 31))
  f_z_law_both : Fun K "_law_both" "_law_both" (top 62) (A 32) (FD 32)
  b_z_law_both : Binds K (FD 32) ["plates", "window", "due"] []
  m_z_law_both : mg "_law_both" = some (.ref (A 32))
  f_z_law_right : Fun K "_law_right" "_law_right" (top 64) (A 33) (FD 33)
  b_z_law_right : Binds K (FD 33) ["bag"] []
  m_z_law_right : mg "_law_right" = some (.ref (A 33))
  f_law : Fun K "law" "law" (top 65) (A 34) (FD 34)
  b_law : Binds K (FD 34) ["script"] []
  m_law : mg "law" = some (.ref (A 34))
  cf0 : ClsF K (cls 0)
  c0 : mg "Screen" = some (.ref (cls 0))
  na_own_levels : NoAttr K (cls 0) "own_levels"
  xs : Xcs K cls
  xfs : ∀ k, 101 ≤ k → k ≤ 107 → XfF K cls k
  gx100 : mg "DitherError" = some (.ref (cls 100))
  gx101 : mg "InvalidLevels" = some (.ref (cls 101))
  gx102 : mg "InvalidPlates" = some (.ref (cls 102))
  gx103 : mg "InvalidConditions" = some (.ref (cls 103))
  gx104 : mg "InvalidSeen" = some (.ref (cls 104))
  gx105 : mg "InvalidText" = some (.ref (cls 105))
  gx106 : mg "TooDeep" = some (.ref (cls 106))
  gx107 : mg "OverInk" = some (.ref (cls 107))
  gx108 : mg "InvalidScreen" = some (.ref (cls 108))
  gx109 : mg "InvalidShade" = some (.ref (cls 109))
  gx110 : mg "InvalidWindow" = some (.ref (cls 110))
  gx111 : mg "InvalidPlace" = some (.ref (cls 111))
  gx112 : mg "InvalidSide" = some (.ref (cls 112))
  gx113 : mg "InvalidKind" = some (.ref (cls 113))
  gx114 : mg "InvalidNumber" = some (.ref (cls 114))
  gx115 : mg "InvalidRows" = some (.ref (cls 115))
  gx116 : mg "InvalidLimit" = some (.ref (cls 116))
  gx117 : mg "InvalidOperation" = some (.ref (cls 117))
  gx118 : mg "Nothing" = some (.ref (cls 118))
  gx119 : mg "InvalidCommand" = some (.ref (cls 119))
  xi110 : PySem.W.excIn K (cls 110) veT "ValueError.__new__" = true
  n_ValueError : mg "ValueError" = none
  n_all : mg "all" = none
  n_bool : mg "bool" = none
  n_enumerate : mg "enumerate" = none
  n_int : mg "int" = none
  n_isinstance : mg "isinstance" = none
  n_len : mg "len" = none
  n_list : mg "list" = none
  n_max : mg "max" = none
  n_range : mg "range" = none
  n_repr : mg "repr" = none
  n_sorted : mg "sorted" = none
  n_sum : mg "sum" = none
  n_tuple : mg "tuple" = none
  n_zip : mg "zip" = none
  k_MOST_INKS : ∃ t, mg "MOST_INKS" = some (.int 3 t)
  k_MOST_LEVELS : ∃ t, mg "MOST_LEVELS" = some (.int 50 t)
  k_MOST_PLACE : ∃ t, mg "MOST_PLACE" = some (.int 1000000000000000000000000000000 t)
section
variable {P : Program} {w : World} {K : PySem.W.Frag} {mg : Str → Option Value} {base : Heap} {cls A : Nat → Addr} {FD : Nat → FuncData}
theorem sc_z_law_bag : FnScope ["cell"] ["cell"] (defScope (top 53)) := ⟨rfl, rfl, rfl, by decide +kernel, rfl, by decide +kernel, by decide +kernel⟩
theorem ok_z_law_bag (T : Fx K mg cls A FD) : FnG P w K mg base 1 (A 0) (FD 0) ["cell"] (spF (⟨K, cls⟩ : Cg) 1 s_z_law_bag) :=
  fn_ok (N := ["cell"]) (ps := ["cell"]) (k := 0) (h := b_z_law_bag) T.f_z_law_bag sc_z_law_bag fun cdv A0 outer s0 H0 E0 hG hr tk =>
    (sss_one (ss_ret (se_lst (sa_cons (e_max2 rfl T.n_max se_int (e_sub (v_ 0) (e_pow se_int se_int))) (sa_cons (v_ 0) (sa_cons se_int sa_nil))))))

theorem sc_is_int : FnScope ["value"] ["value"] (defScope (top 1)) := ⟨rfl, rfl, rfl, by decide +kernel, rfl, by decide +kernel, by decide +kernel⟩
theorem ok_is_int (T : Fx K mg cls A FD) : FnG P w K mg base 1 (A 1) (FD 1) ["value"] (spF (⟨K, cls⟩ : Cg) 1 s_is_int) :=
  fn_ok (N := ["value"]) (ps := ["value"]) (k := 0) (h := b_is_int) T.f_is_int sc_is_int fun cdv A0 outer s0 H0 E0 hG hr tk =>
    (sss_one (ss_ret (se_and (e_isB "int" (by decide) T.cf0 T.n_isinstance T.n_int (by decide +kernel) rfl (v_ 0)) (se_one (se_not (e_isB "bool" (by decide) T.cf0 T.n_isinstance T.n_bool (by decide +kernel) rfl (v_ 0)))))))

theorem sc_is_level : FnScope ["value", "number"] ["value"] (defScope (top 30)) := ⟨rfl, rfl, rfl, by decide +kernel, rfl, by decide +kernel, by decide +kernel⟩
theorem ok_is_level (T : Fx K mg cls A FD) : FnG P w K mg base 2 (A 2) (FD 2) ["value"] (spF (⟨K, cls⟩ : Cg) 1 s_is_level) :=
  fn_ok (N := ["value", "number"]) (ps := ["value"]) (k := 1) (h := b_is_level) T.f_is_level sc_is_level fun cdv A0 outer s0 H0 E0 hG hr tk =>
    (sss_cons (ss_if (st_bool (sw_or (st_not (st_val (e_isB "tuple" (by decide) T.cf0 T.n_isinstance T.n_tuple (by decide +kernel) rfl (v_ 0)))) (sw_or (t_ne hr rfl (e_len rfl T.n_len (v_ 0)) se_int) (sw_or1 (st_not (st_val (e_all rfl rfl T.n_all (lc1_ (by rfl) rfl sc_is_level.nd (si_seq rfl (v_ 0)) (blkOk_by (own := [("number", 1)]) (by rfl)) (by decide) (fun _ _ _ _ _ => (pg_name (i := 1) sc_is_level.nd rfl (Or.inl rfl))) (fun _ _ _ _ _ => sts_nil) (fun _ _ _ _ _ => (se_call (ok_is_int T) hG (hr.mono (by omega)) (by rfl) T.m_is_int T.f_is_int.kp T.b_is_int takesW0 (sa_cons (v_ 1) sa_nil))))))))))) (sss_one (ss_ret se_bl)) sss_nil)
    (sss_one (ss_ret (e_eq hr rfl (e_sorted rfl T.n_sorted (v_ 0)) (se_lst (sa_cons se_int (sa_cons se_int (sa_cons se_int (sa_cons se_int sa_nil)))))))))

theorem sc_Screen___init : FnScope ["self", "levels", "spot", "level"] ["self", "levels"] (defScope (inClass (top 31) 0)) := ⟨rfl, rfl, rfl, by decide +kernel, rfl, by decide +kernel, by decide +kernel⟩
theorem ok_Screen___init (T : Fx K mg cls A FD) : FnG P w K mg base 3 (A 3) (FD 3) ["self", "levels"] (spF (⟨K, cls⟩ : Cg) 2 s_Screen___init) :=
  fn_ok (N := ["self", "levels", "spot", "level"]) (ps := ["self", "levels"]) (k := 2) (h := b_Screen___init) T.f_Screen___init sc_Screen___init fun cdv A0 outer s0 H0 E0 hG hr tk =>
    (sss_cons (ss_if (st_bool (sw_or (st_not (st_val (e_isB "list" (by decide) T.cf0 T.n_isinstance T.n_list (by decide +kernel) rfl (v_ 1)))) (sw_or1 (st_not (st_chain op_le op_le (od_I0 fun _ _ _ => repB) (od_I0 fun _ _ _ => repB) se_int (e_len rfl T.n_len (v_ 1)) (T.k_MOST_LEVELS.elim fun _ h => e_gI h)))))) (sss_one (ss_raiseF (kr := 0) "InvalidLevels" rfl rfl tk T.xs (by omega) (by omega) (T.xfs 101 (by omega) (by omega)) (hr.mono (by omega)) T.gx101 se_non)) sss_nil)
    (sss_cons (ss_forT (n := 2) (passes_of rfl) rfl rfl (si_enum rfl (by rfl) T.n_enumerate (v_ 1)) (sgs_cons (sg_name sc_Screen___init.nd (i := 2) rfl (Or.inl rfl)) (sgs_cons (sg_name sc_Screen___init.nd (i := 3) rfl (Or.inl rfl)) sgs_nil)) (gsC_noexc gN_noexc (gsC_noexc gN_noexc gsN_noexc)) (sss_one (ss_if (st_not (st_val (se_call (ok_is_level T) hG (hr.mono (by omega)) (by rfl) T.m_is_level T.f_is_level.kp T.b_is_level tk (sa_cons (v_ 3) sa_nil)))) (sss_one (ss_raiseF (kr := 0) "InvalidLevels" rfl rfl tk T.xs (by omega) (by omega) (T.xfs 101 (by omega) (by omega)) (hr.mono (by omega)) T.gx101 (v_ 2))) sss_nil)) (gsC_len gN_noexc (gsC_len gN_noexc gsN_len)))
    (sss_one (ss_fld (e_tuple rfl T.n_tuple (v_ 1)) (v_ 0) T.cf0.cl T.na_own_levels))))

theorem sc_Screen_levels : FnScope ["self"] ["self"] (defScope (inClass (top 31) 2)) := ⟨rfl, rfl, rfl, by decide +kernel, rfl, by decide +kernel, by decide +kernel⟩
theorem ok_Screen_levels (T : Fx K mg cls A FD) : FnG P w K mg base 1 (A 4) (FD 4) ["self"] (spF (⟨K, cls⟩ : Cg) 1 s_Screen_levels) :=
  fn_ok (N := ["self"]) (ps := ["self"]) (k := 0) (h := b_Screen_levels) T.f_Screen_levels sc_Screen_levels fun cdv A0 outer s0 H0 E0 hG hr tk =>
    (sss_one (ss_ret (e_list rfl rfl T.n_list (se_attr rfl (v_ 0) T.cf0.cl T.na_own_levels))))

theorem sc_z_law_made_v1 : FnScope ["plates", "screens", "found", "levels", "shade", "x", "y", "alike", "screen"] ["plates"] (defScope (top 58)) := ⟨rfl, rfl, rfl, by decide +kernel, rfl, by decide +kernel, by decide +kernel⟩
theorem ok_z_law_made_v1 (T : Fx K mg cls A FD) : FnG P w K mg base 5 (A 5) (FD 5) ["plates"] (spF (⟨K, cls⟩ : Cg) 1 s_z_law_made_v1) :=
  fn_ok (N := ["plates", "screens", "found", "levels", "shade", "x", "y", "alike", "screen"]) (ps := ["plates"]) (k := 4) (h := b_z_law_made_v1) T.f_z_law_made_v1 sc_z_law_made_v1 fun cdv A0 outer s0 H0 E0 hG hr tk =>
    (sss_cons (ss_par rfl sc_z_law_made_v1.nd (i := 1) (j := 2) rfl rfl (by decide) rfl rfl (sa_cons (se_lst sa_nil) (sa_cons (se_lst sa_nil) sa_nil)) rfl)
    (sss_cons (ss_for (passes_of rfl) rfl (si_seq rfl (v_ 0)) (sg_tup rfl rfl (sgs_cons (sg_name sc_z_law_made_v1.nd (i := 3) rfl (Or.inr rfl)) (sgs_cons (sg_name sc_z_law_made_v1.nd (i := 4) rfl (Or.inl rfl)) (sgs_cons (sg_name sc_z_law_made_v1.nd (i := 5) rfl (Or.inl rfl)) (sgs_cons (sg_name sc_z_law_made_v1.nd (i := 6) rfl (Or.inl rfl)) sgs_nil))))) (gT_noexc (gsC_noexc gN_noexc (gsC_noexc gN_noexc (gsC_noexc gN_noexc (gsC_noexc gN_noexc gsN_noexc))))) (sss_cons (ss_thenPur (slc1_ (by rfl) rfl sc_z_law_made_v1.nd (j := 7) rfl rfl rfl (si_seq rfl (v_ 1)) (blkOk_by (own := [("screen", 8)]) (by rfl)) (by decide) (fun _ _ _ _ _ => (pg_name (i := 8) sc_z_law_made_v1.nd rfl (Or.inl rfl))) (fun _ _ _ _ _ => (sts_one (t_eq hr rfl (T.p_Screen_levels.elim fun _ h => se_prop (v_ 8) T.cf0.cl h (ok_Screen_levels T) hG (hr.mono (by omega)) T.b_Screen_levels) (v_ 3)))) (fun _ _ _ _ _ => (v_ 8))))
    (sss_cons (ss_expr (e_app rfl (v_ 1) (se_if (t_neE hr rfl (v_ 7) (se_lst sa_nil)) (se_ix rfl (v_ 7) se_int) (se_make T.mk0 (ok_Screen___init T) hG (hr.mono (by omega)) (by rfl) T.c0 T.b_Screen___init tk (sa_cons (v_ 3) sa_nil)))))
    (sss_one (ss_expr (e_app rfl (v_ 2) (se_tup (sa_cons (se_ix rfl (v_ 1) (e_neg se_int)) (sa_cons (v_ 4) (sa_cons (v_ 5) (sa_cons (v_ 6) sa_nil)))))))))))
    (sss_one (ss_ret (v_ 2)))))

theorem sc_Screen_shades : FnScope ["self"] ["self"] (defScope (inClass (top 31) 5)) := ⟨rfl, rfl, rfl, by decide +kernel, rfl, by decide +kernel, by decide +kernel⟩
theorem ok_Screen_shades (T : Fx K mg cls A FD) : FnG P w K mg base 1 (A 6) (FD 6) ["self"] (spF (⟨K, cls⟩ : Cg) 1 s_Screen_shades) :=
  fn_ok (N := ["self"]) (ps := ["self"]) (k := 0) (h := b_Screen_shades) T.f_Screen_shades sc_Screen_shades fun cdv A0 outer s0 H0 E0 hG hr tk =>
    (sss_one (ss_ret (e_shl se_int (e_mul se_int (e_len rfl T.n_len (se_attr rfl (v_ 0) T.cf0.cl T.na_own_levels))))))

theorem sc_z_law_bad_plates : FnScope ["screen", "most", "found", "bad"] ["screen"] (defScope (top 63)) := ⟨rfl, rfl, rfl, by decide +kernel, rfl, by decide +kernel, by decide +kernel⟩
theorem ok_z_law_bad_plates (T : Fx K mg cls A FD) : FnG P w K mg base 3 (A 7) (FD 7) ["screen"] (spF (⟨K, cls⟩ : Cg) 1 s_z_law_bad_plates) :=
  fn_ok (N := ["screen", "most", "found", "bad"]) (ps := ["screen"]) (k := 2) (h := b_z_law_bad_plates) T.f_z_law_bad_plates sc_z_law_bad_plates fun cdv A0 outer s0 H0 E0 hG hr tk =>
    (sss_cons (ss_set sc_z_law_bad_plates.nd (i := 1) rfl (Or.inl rfl) (T.p_Screen_shades.elim fun _ h => se_prop (v_ 0) T.cf0.cl h (ok_Screen_shades T) hG (hr.mono (by omega)) T.b_Screen_shades))
    (sss_cons (ss_set sc_z_law_bad_plates.nd (i := 2) rfl (Or.inl rfl) (se_lst (sa_cons se_non (sa_cons se_int (sa_cons se_str (sa_cons (se_tup sa_nil) (sa_cons (se_lst sa_nil) (sa_cons se_edct (sa_cons (v_ 0) (sa_cons (se_tup (sa_cons (v_ 0) sa_nil)) (sa_cons (se_tup (sa_cons (v_ 0) (sa_cons se_int (sa_cons se_int sa_nil)))) (sa_cons (se_tup (sa_cons (v_ 0) (sa_cons se_int (sa_cons se_int (sa_cons se_int (sa_cons se_int sa_nil)))))) (sa_cons (se_lst (sa_cons (v_ 0) (sa_cons se_int (sa_cons se_int (sa_cons se_int sa_nil))))) sa_nil)))))))))))))
    (sss_cons (ss_set sc_z_law_bad_plates.nd (i := 2) rfl (Or.inl rfl) (e_add (v_ 2) (se_lst (sa_cons (se_tup (sa_cons se_non (sa_cons se_int (sa_cons se_int (sa_cons se_int sa_nil))))) (sa_cons (se_tup (sa_cons (T.p_Screen_levels.elim fun _ h => se_prop (v_ 0) T.cf0.cl h (ok_Screen_levels T) hG (hr.mono (by omega)) T.b_Screen_levels) (sa_cons se_int (sa_cons se_int (sa_cons se_int sa_nil))))) (sa_cons (se_tup (sa_cons se_int (sa_cons (v_ 0) (sa_cons se_int (sa_cons se_int sa_nil))))) sa_nil))))))
    (sss_cons (ss_for (passes_of rfl) rfl (si_seq rfl (se_tup (sa_cons se_non (sa_cons se_bl (sa_cons se_str (sa_cons (e_neg se_int) (sa_cons (e_add (v_ 1) se_int) (sa_cons (se_lst (sa_cons se_int sa_nil)) sa_nil)))))))) (sg_name sc_z_law_bad_plates.nd (i := 3) rfl (Or.inl rfl)) gN_noexc (sss_one (ss_expr (e_app rfl (v_ 2) (se_tup (sa_cons (v_ 0) (sa_cons (v_ 3) (sa_cons se_int (sa_cons se_int sa_nil)))))))))
    (sss_cons (ss_for (passes_of rfl) rfl (si_seq rfl (se_tup (sa_cons se_non (sa_cons se_bl (sa_cons se_str (sa_cons (e_add (e_pow se_int se_int) se_int) (sa_cons (e_sub (e_sub se_int (e_pow se_int se_int)) se_int) (sa_cons (se_tup (sa_cons se_int sa_nil)) sa_nil)))))))) (sg_name sc_z_law_bad_plates.nd (i := 3) rfl (Or.inl rfl)) gN_noexc (sss_one (ss_set sc_z_law_bad_plates.nd (i := 2) rfl (Or.inl rfl) (e_add (v_ 2) (se_lst (sa_cons (se_tup (sa_cons (v_ 0) (sa_cons se_int (sa_cons (v_ 3) (sa_cons se_int sa_nil))))) (sa_cons (se_tup (sa_cons (v_ 0) (sa_cons se_int (sa_cons se_int (sa_cons (v_ 3) sa_nil))))) sa_nil)))))))
    (sss_one (ss_ret (v_ 2))))))))

theorem sc_z_law_bad_windows : FnScope ["found", "bad", "far"] [] (defScope (top 60)) := ⟨rfl, rfl, rfl, by decide +kernel, rfl, by decide +kernel, by decide +kernel⟩
theorem ok_z_law_bad_windows (T : Fx K mg cls A FD) : FnG P w K mg base 1 (A 8) (FD 8) [] (spF (⟨K, cls⟩ : Cg) 0 s_z_law_bad_windows) :=
  fn_ok (N := ["found", "bad", "far"]) (ps := []) (k := 0) (h := b_z_law_bad_windows) T.f_z_law_bad_windows sc_z_law_bad_windows fun cdv A0 outer s0 H0 E0 hG hr tk =>
    (sss_cons (ss_set sc_z_law_bad_windows.nd (i := 0) rfl (Or.inl rfl) (se_pur (se_lst (sa_cons se_non (sa_cons se_int (sa_cons se_bl (sa_cons se_str (sa_cons se_str (sa_cons (se_tup sa_nil) (sa_cons (se_lst sa_nil) (sa_cons se_edct (sa_cons (se_tup (sa_cons se_int (sa_cons se_int (sa_cons se_int sa_nil)))) (sa_cons (se_tup (sa_cons se_int (sa_cons se_int (sa_cons se_int (sa_cons se_int (sa_cons se_int sa_nil)))))) (sa_cons (se_lst (sa_cons se_int (sa_cons se_int (sa_cons se_int (sa_cons se_int sa_nil))))) (sa_cons (e_pow se_int se_int) sa_nil)))))))))))))))
    (sss_cons (ss_for (passes_of rfl) rfl (si_seq rfl (se_tup (sa_cons se_non (sa_cons se_bl (sa_cons se_str (sa_cons (se_lst (sa_cons se_int sa_nil)) (sa_cons (e_add (e_pow se_int se_int) se_int) (sa_cons (e_pow se_int se_int) sa_nil)))))))) (sg_name sc_z_law_bad_windows.nd (i := 1) rfl (Or.inl rfl)) gN_noexc (sss_one (ss_set sc_z_law_bad_windows.nd (i := 0) rfl (Or.inl rfl) (se_pur (e_add (v_ 0) (se_lst (sa_cons (se_tup (sa_cons (v_ 1) (sa_cons se_int (sa_cons se_int (sa_cons se_int sa_nil))))) (sa_cons (se_tup (sa_cons se_int (sa_cons (v_ 1) (sa_cons se_int (sa_cons se_int sa_nil))))) (sa_cons (se_tup (sa_cons se_int (sa_cons se_int (sa_cons (v_ 1) (sa_cons se_int sa_nil))))) (sa_cons (se_tup (sa_cons se_int (sa_cons se_int (sa_cons se_int (sa_cons (v_ 1) sa_nil))))) sa_nil))))))))))
    (sss_cons (ss_set sc_z_law_bad_windows.nd (i := 2) rfl (Or.inl rfl) (e_sub (e_sub se_int (e_pow se_int se_int)) se_int))
    (sss_one (ss_ret (e_add (v_ 0) (se_lst (sa_cons (se_tup (sa_cons (v_ 2) (sa_cons se_int (sa_cons se_int (sa_cons se_int sa_nil))))) (sa_cons (se_tup (sa_cons se_int (sa_cons (v_ 2) (sa_cons se_int (sa_cons se_int sa_nil))))) (sa_cons (se_tup (sa_cons se_int (sa_cons se_int (sa_cons se_int (sa_cons se_int sa_nil))))) (sa_cons (se_tup (sa_cons se_int (sa_cons se_int (sa_cons se_int (sa_cons se_int sa_nil))))) (sa_cons (se_tup (sa_cons se_int (sa_cons se_int (sa_cons (e_neg se_int) (sa_cons se_int sa_nil))))) (sa_cons (se_tup (sa_cons se_int (sa_cons se_int (sa_cons se_int (sa_cons (e_neg se_int) sa_nil))))) sa_nil)))))))))))))

theorem sc_z_law_pick : FnScope ["bag", "many", "told", "seed", "turn", "first", "second", "drawn"] ["bag", "many"] (defScope (top 54)) := ⟨rfl, rfl, rfl, by decide +kernel, rfl, by decide +kernel, by decide +kernel⟩
theorem ok_z_law_pick (T : Fx K mg cls A FD) : FnG P w K mg base 1 (A 9) (FD 9) ["bag", "many"] (spF (⟨K, cls⟩ : Cg) 2 s_z_law_pick) :=
  fn_ok (N := ["bag", "many", "told", "seed", "turn", "first", "second", "drawn"]) (ps := ["bag", "many"]) (k := 0) (h := b_z_law_pick) T.f_z_law_pick sc_z_law_pick fun cdv A0 outer s0 H0 E0 hG hr tk =>
    (sss_cons (ss_sub (e_add (se_ix rfl (v_ 0) se_int) se_int) (v_ 0) se_int)
    (sss_cons (ss_if (t_gt (se_ix rfl (v_ 0) se_int) se_int) (sss_cons (ss_set sc_z_law_pick.nd (i := 2) rfl (Or.inl rfl) (e_mod (e_int T.n_int (se_ix rfl (v_ 0) se_int)) (v_ 1)))
    (sss_cons (ss_sub (e_div (e_int T.n_int (se_ix rfl (v_ 0) se_int)) (v_ 1)) (v_ 0) se_int)
    (sss_one (ss_ret (v_ 2))))) sss_nil)
    (sss_cons (ss_par rfl sc_z_law_pick.nd (i := 3) (j := 4) rfl rfl (by decide) rfl rfl (sa_cons (e_int T.n_int (se_ix rfl (v_ 0) se_int)) (sa_cons (e_int T.n_int (se_ix rfl (v_ 0) se_int)) sa_nil)) rfl)
    (sss_cons (ss_set sc_z_law_pick.nd (i := 5) rfl (Or.inl rfl) (e_mod (e_int T.n_int (e_add (e_add (e_mul (e_mod (v_ 3) se_int) se_int) (e_mul (v_ 4) se_int)) se_int)) se_int))
    (sss_cons (ss_set sc_z_law_pick.nd (i := 6) rfl (Or.inl rfl) (e_mod (e_int T.n_int (e_add (e_mul (v_ 5) (v_ 5)) (e_mul (v_ 4) se_int))) se_int))
    (sss_cons (ss_set sc_z_law_pick.nd (i := 7) rfl (Or.inl rfl) (e_div (e_int T.n_int (e_add (e_mul (v_ 5) se_int) (v_ 6))) se_int))
    (sss_cons (ss_if (t_gt (v_ 1) (e_pow se_int se_int)) (sss_one (ss_set sc_z_law_pick.nd (i := 7) rfl (Or.inl rfl) (e_add (e_pow (v_ 7) se_int) (v_ 6)))) sss_nil)
    (sss_one (ss_ret (e_mod (e_int T.n_int (v_ 7)) (v_ 1)))))))))))

theorem sc_z_law_levels_v1 : FnScope ["bag", "most", "found", "turn", "left", "level"] ["bag", "most"] (defScope (top 55)) := ⟨rfl, rfl, rfl, by decide +kernel, rfl, by decide +kernel, by decide +kernel⟩
theorem ok_z_law_levels_v1 (T : Fx K mg cls A FD) : FnG P w K mg base 2 (A 10) (FD 10) ["bag", "most"] (spF (⟨K, cls⟩ : Cg) 2 s_z_law_levels_v1) :=
  fn_ok (N := ["bag", "most", "found", "turn", "left", "level"]) (ps := ["bag", "most"]) (k := 1) (h := b_z_law_levels_v1) T.f_z_law_levels_v1 sc_z_law_levels_v1 fun cdv A0 outer s0 H0 E0 hG hr tk =>
    (sss_cons (ss_set sc_z_law_levels_v1.nd (i := 2) rfl (Or.inl rfl) (se_lst sa_nil))
    (sss_cons (ss_for (passes_of rfl) rfl (si_range1 (by rfl) T.n_range (sa_cons (e_add se_int (se_call (ok_z_law_pick T) hG (hr.mono (by omega)) (by rfl) T.m_z_law_pick T.f_z_law_pick.kp T.b_z_law_pick tk (sa_cons (v_ 0) (sa_cons (v_ 1) sa_nil)))) sa_nil)) (sg_name sc_z_law_levels_v1.nd (i := 3) rfl (Or.inl rfl)) gN_noexc (sss_cons (ss_par rfl sc_z_law_levels_v1.nd (i := 4) (j := 5) rfl rfl (by decide) rfl rfl (sa_cons (se_lst (sa_cons se_int (sa_cons se_int (sa_cons se_int (sa_cons se_int sa_nil))))) (sa_cons (se_lst sa_nil) sa_nil)) rfl)
    (sss_cons (ss_while (passes_of rfl) (t_ne hr rfl (v_ 4) (se_lst sa_nil)) (sss_one (ss_expr (e_app rfl (v_ 5) (e_popAt rfl (v_ 4) (se_call (ok_z_law_pick T) hG (hr.mono (by omega)) (by rfl) T.m_z_law_pick T.f_z_law_pick.kp T.b_z_law_pick tk (sa_cons (v_ 0) (sa_cons (e_len rfl T.n_len (v_ 4)) sa_nil))))))))
    (sss_one (ss_expr (e_app rfl (v_ 2) (e_tuple rfl T.n_tuple (v_ 5))))))))
    (sss_one (ss_ret (v_ 2)))))

theorem sc_z_law_shade_v1 : FnScope ["bag", "levels", "most", "behind", "some"] ["bag", "levels"] (defScope (top 56)) := ⟨rfl, rfl, rfl, by decide +kernel, rfl, by decide +kernel, by decide +kernel⟩
theorem ok_z_law_shade_v1 (T : Fx K mg cls A FD) : FnG P w K mg base 2 (A 11) (FD 11) ["bag", "levels"] (spF (⟨K, cls⟩ : Cg) 2 s_z_law_shade_v1) :=
  fn_ok (N := ["bag", "levels", "most", "behind", "some"]) (ps := ["bag", "levels"]) (k := 1) (h := b_z_law_shade_v1) T.f_z_law_shade_v1 sc_z_law_shade_v1 fun cdv A0 outer s0 H0 E0 hG hr tk =>
    (sss_cons (ss_set sc_z_law_shade_v1.nd (i := 2) rfl (Or.inl rfl) (e_shl se_int (e_mul se_int (e_len rfl T.n_len (v_ 1)))))
    (sss_cons (ss_set sc_z_law_shade_v1.nd (i := 3) rfl (Or.inl rfl) (e_shl se_int (e_mul se_int (se_call (ok_z_law_pick T) hG (hr.mono (by omega)) (by rfl) T.m_z_law_pick T.f_z_law_pick.kp T.b_z_law_pick tk (sa_cons (v_ 0) (sa_cons (e_add (e_len rfl T.n_len (v_ 1)) se_int) sa_nil))))))
    (sss_cons (ss_set sc_z_law_shade_v1.nd (i := 4) rfl (Or.inl rfl) (se_call (ok_z_law_pick T) hG (hr.mono (by omega)) (by rfl) T.m_z_law_pick T.f_z_law_pick.kp T.b_z_law_pick tk (sa_cons (v_ 0) (sa_cons (e_add (v_ 2) se_int) sa_nil))))
    (sss_one (ss_ret (se_ix rfl (se_lst (sa_cons (v_ 4) (sa_cons (e_mul (e_div (v_ 4) (v_ 3)) (v_ 3)) (sa_cons se_int (sa_cons (v_ 2) (sa_cons (v_ 4) sa_nil)))))) (se_call (ok_z_law_pick T) hG (hr.mono (by omega)) (by rfl) T.m_z_law_pick T.f_z_law_pick.kp T.b_z_law_pick tk (sa_cons (v_ 0) (sa_cons se_int sa_nil)))))))))

theorem sc_z_law_plates_v1 : FnScope ["bag", "many", "most", "found", "turn", "levels", "shift"] ["bag", "many", "most"] (defScope (top 57)) := ⟨rfl, rfl, rfl, by decide +kernel, rfl, by decide +kernel, by decide +kernel⟩
theorem ok_z_law_plates_v1 (T : Fx K mg cls A FD) : FnG P w K mg base 3 (A 12) (FD 12) ["bag", "many", "most"] (spF (⟨K, cls⟩ : Cg) 3 s_z_law_plates_v1) :=
  fn_ok (N := ["bag", "many", "most", "found", "turn", "levels", "shift"]) (ps := ["bag", "many", "most"]) (k := 2) (h := b_z_law_plates_v1) T.f_z_law_plates_v1 sc_z_law_plates_v1 fun cdv A0 outer s0 H0 E0 hG hr tk =>
    (sss_cons (ss_set sc_z_law_plates_v1.nd (i := 3) rfl (Or.inl rfl) (se_lst sa_nil))
    (sss_cons (ss_for (passes_of rfl) rfl (si_range1 (by rfl) T.n_range (sa_cons (v_ 1) sa_nil)) (sg_name sc_z_law_plates_v1.nd (i := 4) rfl (Or.inl rfl)) gN_noexc (sss_cons (ss_set sc_z_law_plates_v1.nd (i := 5) rfl (Or.inl rfl) (se_pur (se_call (ok_z_law_levels_v1 T) hG (hr.mono (by omega)) (by rfl) T.m_z_law_levels_v1 T.f_z_law_levels_v1.kp T.b_z_law_levels_v1 tk (sa_cons (v_ 0) (sa_cons (v_ 2) sa_nil)))))
    (sss_cons (ss_if (st_bool (sw_and (t_neE hr rfl (v_ 3) (se_lst sa_nil)) (sw_and1 (t_eq hr rfl (se_call (ok_z_law_pick T) hG (hr.mono (by omega)) (by rfl) T.m_z_law_pick T.f_z_law_pick.kp T.b_z_law_pick tk (sa_cons (v_ 0) (sa_cons se_int sa_nil))) se_int)))) (sss_one (ss_set sc_z_law_plates_v1.nd (i := 5) rfl (Or.inl rfl) (se_ix rfl (se_ix rfl (v_ 3) se_int) se_int))) sss_nil)
    (sss_cons (ss_set sc_z_law_plates_v1.nd (i := 6) rfl (Or.inl rfl) (se_ix rfl (se_lst (sa_cons (e_sub (se_call (ok_z_law_pick T) hG (hr.mono (by omega)) (by rfl) T.m_z_law_pick T.f_z_law_pick.kp T.b_z_law_pick tk (sa_cons (v_ 0) (sa_cons se_int sa_nil))) se_int) (sa_cons (e_sub (se_call (ok_z_law_pick T) hG (hr.mono (by omega)) (by rfl) T.m_z_law_pick T.f_z_law_pick.kp T.b_z_law_pick tk (sa_cons (v_ 0) (sa_cons (e_add (e_mul se_int (e_pow se_int se_int)) se_int) sa_nil))) (e_pow se_int se_int)) sa_nil))) (e_int T.n_int (e_eq hr rfl (se_call (ok_z_law_pick T) hG (hr.mono (by omega)) (by rfl) T.m_z_law_pick T.f_z_law_pick.kp T.b_z_law_pick tk (sa_cons (v_ 0) (sa_cons se_int sa_nil))) se_int))))
    (sss_one (ss_expr (e_app rfl (v_ 3) (se_tup (sa_cons (v_ 5) (sa_cons (se_call (ok_z_law_shade_v1 T) hG (hr.mono (by omega)) (by rfl) T.m_z_law_shade_v1 T.f_z_law_shade_v1.kp T.b_z_law_shade_v1 tk (sa_cons (v_ 0) (sa_cons (v_ 5) sa_nil))) (sa_cons (v_ 6) (sa_cons (e_sub (se_call (ok_z_law_pick T) hG (hr.mono (by omega)) (by rfl) T.m_z_law_pick T.f_z_law_pick.kp T.b_z_law_pick tk (sa_cons (v_ 0) (sa_cons se_int sa_nil))) se_int) sa_nil))))))))))))
    (sss_one (ss_ret (v_ 3)))))

theorem sc_z_law_class_v2 : FnScope ["caught", "some", "found", "name", "is_one"] ["caught"] (defScope (top 59)) := ⟨rfl, rfl, rfl, by decide +kernel, rfl, by decide +kernel, by decide +kernel⟩
theorem ok_z_law_class_v2 (T : Fx K mg cls A FD) : FnG P w K mg base 1 (A 13) (FD 13) ["caught"] (spF (⟨K, cls⟩ : Cg) 1 s_z_law_class_v2) :=
  fn_ok (N := ["caught", "some", "found", "name", "is_one"]) (ps := ["caught"]) (k := 0) (h := b_z_law_class_v2) T.f_z_law_class_v2 sc_z_law_class_v2 fun cdv A0 outer s0 H0 E0 hG hr tk =>
    (sss_cons (ss_set sc_z_law_class_v2.nd (i := 1) rfl (Or.inl rfl) (se_pur (se_lst (sa_cons (se_tup (sa_cons se_str (sa_cons (e_isX "InvalidLevels" (by omega) (by omega) T.xs T.n_isinstance T.gx101 rfl (v_ 0)) sa_nil))) (sa_cons (se_tup (sa_cons se_str (sa_cons (e_isX "InvalidPlates" (by omega) (by omega) T.xs T.n_isinstance T.gx102 rfl (v_ 0)) sa_nil))) sa_nil)))))
    (sss_cons (ss_set sc_z_law_class_v2.nd (i := 1) rfl (Or.inl rfl) (se_pur (e_add (v_ 1) (se_lst (sa_cons (se_tup (sa_cons se_str (sa_cons (e_isX "InvalidConditions" (by omega) (by omega) T.xs T.n_isinstance T.gx103 rfl (v_ 0)) sa_nil))) sa_nil)))))
    (sss_cons (ss_set sc_z_law_class_v2.nd (i := 1) rfl (Or.inl rfl) (se_pur (e_add (v_ 1) (se_lst (sa_cons (se_tup (sa_cons se_str (sa_cons (e_isX "InvalidSeen" (by omega) (by omega) T.xs T.n_isinstance T.gx104 rfl (v_ 0)) sa_nil))) (sa_cons (se_tup (sa_cons se_str (sa_cons (e_isX "InvalidText" (by omega) (by omega) T.xs T.n_isinstance T.gx105 rfl (v_ 0)) sa_nil))) sa_nil))))))
    (sss_cons (ss_set sc_z_law_class_v2.nd (i := 1) rfl (Or.inl rfl) (se_pur (e_add (v_ 1) (se_lst (sa_cons (se_tup (sa_cons se_str (sa_cons (e_isX "TooDeep" (by omega) (by omega) T.xs T.n_isinstance T.gx106 rfl (v_ 0)) sa_nil))) (sa_cons (se_tup (sa_cons se_str (sa_cons (e_isX "OverInk" (by omega) (by omega) T.xs T.n_isinstance T.gx107 rfl (v_ 0)) sa_nil))) sa_nil))))))
    (sss_cons (ss_set sc_z_law_class_v2.nd (i := 1) rfl (Or.inl rfl) (se_pur (e_add (v_ 1) (se_lst (sa_cons (se_tup (sa_cons se_str (sa_cons (e_isX "InvalidScreen" (by omega) (by omega) T.xs T.n_isinstance T.gx108 rfl (v_ 0)) sa_nil))) sa_nil)))))
    (sss_cons (ss_set sc_z_law_class_v2.nd (i := 1) rfl (Or.inl rfl) (se_pur (e_add (v_ 1) (se_lst (sa_cons (se_tup (sa_cons se_str (sa_cons (e_isX "InvalidShade" (by omega) (by omega) T.xs T.n_isinstance T.gx109 rfl (v_ 0)) sa_nil))) (sa_cons (se_tup (sa_cons se_str (sa_cons (e_isX "Nothing" (by omega) (by omega) T.xs T.n_isinstance T.gx118 rfl (v_ 0)) sa_nil))) sa_nil))))))
    (sss_cons (ss_set sc_z_law_class_v2.nd (i := 1) rfl (Or.inl rfl) (se_pur (e_add (v_ 1) (se_lst (sa_cons (se_tup (sa_cons se_str (sa_cons (e_isX "InvalidWindow" (by omega) (by omega) T.xs T.n_isinstance T.gx110 rfl (v_ 0)) sa_nil))) sa_nil)))))
    (sss_cons (ss_set sc_z_law_class_v2.nd (i := 1) rfl (Or.inl rfl) (se_pur (e_add (v_ 1) (se_lst (sa_cons (se_tup (sa_cons se_str (sa_cons (e_isX "InvalidPlace" (by omega) (by omega) T.xs T.n_isinstance T.gx111 rfl (v_ 0)) sa_nil))) (sa_cons (se_tup (sa_cons se_str (sa_cons (e_isX "InvalidSide" (by omega) (by omega) T.xs T.n_isinstance T.gx112 rfl (v_ 0)) sa_nil))) sa_nil))))))
    (sss_cons (ss_set sc_z_law_class_v2.nd (i := 1) rfl (Or.inl rfl) (se_pur (e_add (v_ 1) (se_lst (sa_cons (se_tup (sa_cons se_str (sa_cons (e_isX "InvalidKind" (by omega) (by omega) T.xs T.n_isinstance T.gx113 rfl (v_ 0)) sa_nil))) (sa_cons (se_tup (sa_cons se_str (sa_cons (e_isX "InvalidRows" (by omega) (by omega) T.xs T.n_isinstance T.gx115 rfl (v_ 0)) sa_nil))) sa_nil))))))
    (sss_cons (ss_set sc_z_law_class_v2.nd (i := 1) rfl (Or.inl rfl) (se_pur (e_add (v_ 1) (se_lst (sa_cons (se_tup (sa_cons se_str (sa_cons (e_isX "InvalidNumber" (by omega) (by omega) T.xs T.n_isinstance T.gx114 rfl (v_ 0)) sa_nil))) sa_nil)))))
    (sss_cons (ss_set sc_z_law_class_v2.nd (i := 1) rfl (Or.inl rfl) (se_pur (e_add (v_ 1) (se_lst (sa_cons (se_tup (sa_cons se_str (sa_cons (e_isX "InvalidLimit" (by omega) (by omega) T.xs T.n_isinstance T.gx116 rfl (v_ 0)) sa_nil))) sa_nil)))))
    (sss_cons (ss_set sc_z_law_class_v2.nd (i := 1) rfl (Or.inl rfl) (se_pur (e_add (v_ 1) (se_lst (sa_cons (se_tup (sa_cons se_str (sa_cons (e_isX "InvalidOperation" (by omega) (by omega) T.xs T.n_isinstance T.gx117 rfl (v_ 0)) sa_nil))) sa_nil)))))
    (sss_cons (ss_set sc_z_law_class_v2.nd (i := 1) rfl (Or.inl rfl) (se_pur (e_add (v_ 1) (se_lst (sa_cons (se_tup (sa_cons se_str (sa_cons (e_isX "InvalidCommand" (by omega) (by omega) T.xs T.n_isinstance T.gx119 rfl (v_ 0)) sa_nil))) sa_nil)))))
    (sss_cons (ss_thenPur (slcT_ (by rfl) rfl sc_z_law_class_v2.nd rfl (j := 2) rfl rfl rfl (si_seq rfl (v_ 1)) (blkOk_by (own := [("name", 3), ("is_one", 4)]) (by rfl)) (n := 2) rfl (by decide) (fun _ _ _ _ _ => (pg_tup rfl (pgs_cons (pg_name (i := 3) sc_z_law_class_v2.nd rfl (Or.inl rfl)) (pgs_cons (pg_name (i := 4) sc_z_law_class_v2.nd rfl (Or.inl rfl)) pgs_nil)))) (fun _ _ _ _ _ => (sts_one (st_val (v_ 4)))) (fun _ _ _ _ _ => (v_ 3))))
    (sss_cons (ss_if (st_bool (sw_or (t_ne hr rfl (e_len rfl T.n_len (v_ 2)) se_int) (sw_or1 (st_not (st_val (e_isVE T.xs T.n_isinstance T.n_ValueError rfl (v_ 0))))))) (sss_one (ss_ret se_str)) sss_nil)
    (sss_one (ss_ret (e_add (se_ix rfl (v_ 2) se_int) (se_if (t_in rfl (se_ix rfl (v_ 2) se_int) (se_tup (sa_cons se_str (sa_cons se_str sa_nil)))) (e_add se_str (e_repr rfl hG hr T.n_repr (se_attX rfl T.xs T.xfs (v_ 0)))) se_str)))))))))))))))))))

theorem sc_is_whole : FnScope ["value", "low", "high"] ["value", "low", "high"] (defScope (top 2)) := ⟨rfl, rfl, rfl, by decide +kernel, rfl, by decide +kernel, by decide +kernel⟩
theorem ok_is_whole (T : Fx K mg cls A FD) : FnG P w K mg base 2 (A 14) (FD 14) ["value", "low", "high"] (spF (⟨K, cls⟩ : Cg) 3 s_is_whole) :=
  fn_ok (N := ["value", "low", "high"]) (ps := ["value", "low", "high"]) (k := 1) (h := b_is_whole) T.f_is_whole sc_is_whole fun cdv A0 outer s0 H0 E0 hG hr tk =>
    (sss_one (ss_ret (se_and (se_call (ok_is_int T) hG (hr.mono (by omega)) (by rfl) T.m_is_int T.f_is_int.kp T.b_is_int tk (sa_cons (v_ 0) sa_nil)) (se_one (se_chain op_le op_le (od_I0 fun _ _ _ => repB) (od_I0 fun _ _ _ => repB) (v_ 1) (v_ 0) (v_ 2))))))

theorem sc_is_shade : FnScope ["screen", "value"] ["screen", "value"] (defScope (top 29)) := ⟨rfl, rfl, rfl, by decide +kernel, rfl, by decide +kernel, by decide +kernel⟩
theorem ok_is_shade (T : Fx K mg cls A FD) : FnG P w K mg base 3 (A 15) (FD 15) ["screen", "value"] (spF (⟨K, cls⟩ : Cg) 2 s_is_shade) :=
  fn_ok (N := ["screen", "value"]) (ps := ["screen", "value"]) (k := 2) (h := b_is_shade) T.f_is_shade sc_is_shade fun cdv A0 outer s0 H0 E0 hG hr tk =>
    (sss_one (ss_ret (se_call (ok_is_whole T) hG (hr.mono (by omega)) (by rfl) T.m_is_whole T.f_is_whole.kp T.b_is_whole tk (sa_cons (v_ 1) (sa_cons se_int (sa_cons (e_shl se_int (e_mul se_int (e_len rfl T.n_len (se_attr rfl (v_ 0) T.cf0.cl T.na_own_levels)))) sa_nil))))))

theorem sc_is_coordinate : FnScope ["value"] ["value"] (defScope (top 38)) := ⟨rfl, rfl, rfl, by decide +kernel, rfl, by decide +kernel, by decide +kernel⟩
theorem ok_is_coordinate (T : Fx K mg cls A FD) : FnG P w K mg base 3 (A 16) (FD 16) ["value"] (spF (⟨K, cls⟩ : Cg) 1 s_is_coordinate) :=
  fn_ok (N := ["value"]) (ps := ["value"]) (k := 2) (h := b_is_coordinate) T.f_is_coordinate sc_is_coordinate fun cdv A0 outer s0 H0 E0 hG hr tk =>
    (sss_one (ss_ret (se_call (ok_is_whole T) hG (hr.mono (by omega)) (by rfl) T.m_is_whole T.f_is_whole.kp T.b_is_whole tk (sa_cons (v_ 0) (sa_cons (e_sub se_int (T.k_MOST_PLACE.elim fun _ h => e_gI h)) (sa_cons (T.k_MOST_PLACE.elim fun _ h => e_gI h) sa_nil))))))

theorem sc_is_plate : FnScope ["value"] ["value"] (defScope (top 39)) := ⟨rfl, rfl, rfl, by decide +kernel, rfl, by decide +kernel, by decide +kernel⟩
theorem ok_is_plate (T : Fx K mg cls A FD) : FnG P w K mg base 4 (A 17) (FD 17) ["value"] (spF (⟨K, cls⟩ : Cg) 1 s_is_plate) :=
  fn_ok (N := ["value"]) (ps := ["value"]) (k := 3) (h := b_is_plate) T.f_is_plate sc_is_plate fun cdv A0 outer s0 H0 E0 hG hr tk =>
    (sss_cons (ss_if (st_bool (sw_or (st_not (st_val (e_isB "tuple" (by decide) T.cf0 T.n_isinstance T.n_tuple (by decide +kernel) rfl (v_ 0)))) (sw_or (t_ne hr rfl (e_len rfl T.n_len (v_ 0)) se_int) (sw_or1 (st_not (st_val (e_isC "Screen" T.cf0 T.n_isinstance T.c0 rfl (se_ix rfl (v_ 0) se_int)))))))) (sss_one (ss_ret se_bl)) sss_nil)
    (sss_one (ss_ret (se_and (se_call (ok_is_shade T) hG (hr.mono (by omega)) (by rfl) T.m_is_shade T.f_is_shade.kp T.b_is_shade tk (sa_cons (se_ix rfl (v_ 0) se_int) (sa_cons (se_ix rfl (v_ 0) se_int) sa_nil))) (se_and (se_call (ok_is_coordinate T) hG (hr.mono (by omega)) (by rfl) T.m_is_coordinate T.f_is_coordinate.kp T.b_is_coordinate tk (sa_cons (se_ix rfl (v_ 0) se_int) sa_nil)) (se_one (se_call (ok_is_coordinate T) hG (hr.mono (by omega)) (by rfl) T.m_is_coordinate T.f_is_coordinate.kp T.b_is_coordinate tk (sa_cons (se_ix rfl (v_ 0) se_int) sa_nil))))))))

theorem sc_require_plates : FnScope ["value", "most", "item", "plate"] ["value", "most"] (defScope (top 40)) := ⟨rfl, rfl, rfl, by decide +kernel, rfl, by decide +kernel, by decide +kernel⟩
theorem ok_require_plates (T : Fx K mg cls A FD) : FnG P w K mg base 5 (A 18) (FD 18) ["value", "most"] (spF (⟨K, cls⟩ : Cg) 2 s_require_plates) :=
  fn_ok (N := ["value", "most", "item", "plate"]) (ps := ["value", "most"]) (k := 4) (h := b_require_plates) T.f_require_plates sc_require_plates fun cdv A0 outer s0 H0 E0 hG hr tk =>
    (sss_cons (ss_if (st_bool (sw_or (st_not (st_val (e_isB "list" (by decide) T.cf0 T.n_isinstance T.n_list (by decide +kernel) rfl (v_ 0)))) (sw_or1 (st_not (st_chain op_le op_le (od_I0 fun _ _ _ => repB) (od_I0 fun _ _ _ => repB) se_int (e_len rfl T.n_len (v_ 0)) (v_ 1)))))) (sss_one (ss_raiseF (kr := 0) "InvalidPlates" rfl rfl tk T.xs (by omega) (by omega) (T.xfs 102 (by omega) (by omega)) (hr.mono (by omega)) T.gx102 se_non)) sss_nil)
    (sss_one (ss_forT (n := 2) (passes_of rfl) rfl rfl (si_enum rfl (by rfl) T.n_enumerate (v_ 0)) (sgs_cons (sg_name sc_require_plates.nd (i := 2) rfl (Or.inl rfl)) (sgs_cons (sg_name sc_require_plates.nd (i := 3) rfl (Or.inl rfl)) sgs_nil)) (gsC_noexc gN_noexc (gsC_noexc gN_noexc gsN_noexc)) (sss_one (ss_if (st_not (st_val (se_call (ok_is_plate T) hG (hr.mono (by omega)) (by rfl) T.m_is_plate T.f_is_plate.kp T.b_is_plate tk (sa_cons (v_ 3) sa_nil)))) (sss_one (ss_raiseF (kr := 0) "InvalidPlates" rfl rfl tk T.xs (by omega) (by omega) (T.xfs 102 (by omega) (by omega)) (hr.mono (by omega)) T.gx102 (v_ 2))) sss_nil)) (gsC_len gN_noexc (gsC_len gN_noexc gsN_len)))))

theorem sc_is_window : FnScope ["value", "left", "top", "width", "height"] ["value"] (defScope (top 35)) := ⟨rfl, rfl, rfl, by decide +kernel, rfl, by decide +kernel, by decide +kernel⟩
theorem ok_is_window (T : Fx K mg cls A FD) : FnG P w K mg base 3 (A 19) (FD 19) ["value"] (spF (⟨K, cls⟩ : Cg) 1 s_is_window) :=
  fn_ok (N := ["value", "left", "top", "width", "height"]) (ps := ["value"]) (k := 2) (h := b_is_window) T.f_is_window sc_is_window fun cdv A0 outer s0 H0 E0 hG hr tk =>
    (sss_cons (ss_if (st_bool (sw_or (st_not (st_val (e_isB "tuple" (by decide) T.cf0 T.n_isinstance T.n_tuple (by decide +kernel) rfl (v_ 0)))) (sw_or1 (t_ne hr rfl (e_len rfl T.n_len (v_ 0)) se_int)))) (sss_one (ss_ret se_bl)) sss_nil)
    (sss_cons (ss_asg (v_ 0) (sg_tup rfl rfl (sgs_cons (sg_name sc_is_window.nd (i := 1) rfl (Or.inl rfl)) (sgs_cons (sg_name sc_is_window.nd (i := 2) rfl (Or.inl rfl)) (sgs_cons (sg_name sc_is_window.nd (i := 3) rfl (Or.inl rfl)) (sgs_cons (sg_name sc_is_window.nd (i := 4) rfl (Or.inl rfl)) sgs_nil))))) (gT_noexc (gsC_noexc gN_noexc (gsC_noexc gN_noexc (gsC_noexc gN_noexc (gsC_noexc gN_noexc gsN_noexc))))))
    (sss_cons (ss_if (st_bool (sw_or (st_not (st_val (se_call (ok_is_whole T) hG (hr.mono (by omega)) (by rfl) T.m_is_whole T.f_is_whole.kp T.b_is_whole tk (sa_cons (v_ 1) (sa_cons (e_sub se_int (T.k_MOST_PLACE.elim fun _ h => e_gI h)) (sa_cons (T.k_MOST_PLACE.elim fun _ h => e_gI h) sa_nil)))))) (sw_or1 (st_not (st_val (se_call (ok_is_whole T) hG (hr.mono (by omega)) (by rfl) T.m_is_whole T.f_is_whole.kp T.b_is_whole tk (sa_cons (v_ 2) (sa_cons (e_sub se_int (T.k_MOST_PLACE.elim fun _ h => e_gI h)) (sa_cons (T.k_MOST_PLACE.elim fun _ h => e_gI h) sa_nil))))))))) (sss_one (ss_ret se_bl)) sss_nil)
    (sss_one (ss_ret (se_and (se_call (ok_is_whole T) hG (hr.mono (by omega)) (by rfl) T.m_is_whole T.f_is_whole.kp T.b_is_whole tk (sa_cons (v_ 3) (sa_cons se_int (sa_cons (T.k_MOST_PLACE.elim fun _ h => e_gI h) sa_nil)))) (se_one (se_call (ok_is_whole T) hG (hr.mono (by omega)) (by rfl) T.m_is_whole T.f_is_whole.kp T.b_is_whole tk (sa_cons (v_ 4) (sa_cons se_int (sa_cons (T.k_MOST_PLACE.elim fun _ h => e_gI h) sa_nil)))))))))))

theorem sc_require_window : FnScope ["value"] ["value"] (defScope (top 36)) := ⟨rfl, rfl, rfl, by decide +kernel, rfl, by decide +kernel, by decide +kernel⟩
theorem ok_require_window (T : Fx K mg cls A FD) : FnG P w K mg base 4 (A 20) (FD 20) ["value"] (spF (⟨K, cls⟩ : Cg) 1 s_require_window) :=
  fn_ok (N := ["value"]) (ps := ["value"]) (k := 3) (h := b_require_window) T.f_require_window sc_require_window fun cdv A0 outer s0 H0 E0 hG hr tk =>
    (sss_one (ss_if (st_not (st_val (se_call (ok_is_window T) hG (hr.mono (by omega)) (by rfl) T.m_is_window T.f_is_window.kp T.b_is_window tk (sa_cons (v_ 0) sa_nil)))) (sss_one (ss_raise "InvalidWindow" rfl rfl tk T.xs (by omega) (by omega) T.xi110 T.gx110 se_str)) sss_nil))

theorem sc_Screen_depth : FnScope ["self"] ["self"] (defScope (inClass (top 31) 3)) := ⟨rfl, rfl, rfl, by decide +kernel, rfl, by decide +kernel, by decide +kernel⟩
theorem ok_Screen_depth (T : Fx K mg cls A FD) : FnG P w K mg base 1 (A 21) (FD 21) ["self"] (spF (⟨K, cls⟩ : Cg) 1 s_Screen_depth) :=
  fn_ok (N := ["self"]) (ps := ["self"]) (k := 0) (h := b_Screen_depth) T.f_Screen_depth sc_Screen_depth fun cdv A0 outer s0 H0 E0 hG hr tk =>
    (sss_one (ss_ret (e_len rfl T.n_len (se_attr rfl (v_ 0) T.cf0.cl T.na_own_levels))))

theorem sc_looks_of : FnScope ["plates", "conditions", "found", "number", "x", "y", "wanted", "screen", "shade", "left", "top", "depth", "full", "digits", "spot"] ["plates", "conditions"] (defScope (top 41)) := ⟨rfl, rfl, rfl, by decide +kernel, rfl, by decide +kernel, by decide +kernel⟩
theorem ok_looks_of (T : Fx K mg cls A FD) : FnG P w K mg base 3 (A 22) (FD 22) ["plates", "conditions"] (spF (⟨K, cls⟩ : Cg) 2 s_looks_of) :=
  fn_ok (N := ["plates", "conditions", "found", "number", "x", "y", "wanted", "screen", "shade", "left", "top", "depth", "full", "digits", "spot"]) (ps := ["plates", "conditions"]) (k := 2) (h := b_looks_of) T.f_looks_of sc_looks_of fun cdv A0 outer s0 H0 E0 hG hr tk =>
    (sss_cons (ss_set sc_looks_of.nd (i := 2) rfl (Or.inl rfl) (se_lst sa_nil))
    (sss_cons (ss_for (passes_of rfl) rfl (si_seq rfl (v_ 1)) (sg_tup rfl rfl (sgs_cons (sg_name sc_looks_of.nd (i := 3) rfl (Or.inl rfl)) (sgs_cons (sg_name sc_looks_of.nd (i := 4) rfl (Or.inl rfl)) (sgs_cons (sg_name sc_looks_of.nd (i := 5) rfl (Or.inl rfl)) (sgs_cons (sg_name sc_looks_of.nd (i := 6) rfl (Or.inl rfl)) sgs_nil))))) (gT_noexc (gsC_noexc gN_noexc (gsC_noexc gN_noexc (gsC_noexc gN_noexc (gsC_noexc gN_noexc gsN_noexc))))) (sss_cons (ss_asg (se_ix rfl (v_ 0) (v_ 3)) (sg_tup rfl rfl (sgs_cons (sg_name sc_looks_of.nd (i := 7) rfl (Or.inl rfl)) (sgs_cons (sg_name sc_looks_of.nd (i := 8) rfl (Or.inr rfl)) (sgs_cons (sg_name sc_looks_of.nd (i := 9) rfl (Or.inl rfl)) (sgs_cons (sg_name sc_looks_of.nd (i := 10) rfl (Or.inl rfl)) sgs_nil))))) (gT_noexc (gsC_noexc gN_noexc (gsC_noexc gN_noexc (gsC_noexc gN_noexc (gsC_noexc gN_noexc gsN_noexc))))))
    (sss_cons (ss_set sc_looks_of.nd (i := 11) rfl (Or.inr rfl) (T.p_Screen_depth.elim fun _ h => se_prop (v_ 7) T.cf0.cl h (ok_Screen_depth T) hG (hr.mono (by omega)) T.b_Screen_depth))
    (sss_cons (ss_set sc_looks_of.nd (i := 12) rfl (Or.inr rfl) (e_eq hr rfl (v_ 8) (T.p_Screen_shades.elim fun _ h => se_prop (v_ 7) T.cf0.cl h (ok_Screen_shades T) hG (hr.mono (by omega)) T.b_Screen_shades)))
    (sss_cons (ss_thenPur (slc1_ (by rfl) rfl sc_looks_of.nd (j := 13) rfl rfl rfl (si_range1 (by rfl) T.n_range (sa_cons (v_ 11) sa_nil)) (blkOk_by (own := [("spot", 14)]) (by rfl)) (by decide) (fun _ _ _ _ _ => (pg_name (i := 14) sc_looks_of.nd rfl (Or.inl rfl))) (fun _ _ _ _ _ => sts_nil) (fun _ _ _ _ _ => (se_if (st_val (v_ 12)) se_int (e_band (e_shr (v_ 8) (e_mul se_int (e_sub (e_sub (v_ 11) se_int) (v_ 14)))) se_int)))))
    (sss_one (ss_expr (e_app rfl (v_ 2) (se_tup (sa_cons (se_attr rfl (v_ 7) T.cf0.cl T.na_own_levels) (sa_cons (v_ 13) (sa_cons (e_sub (v_ 4) (v_ 9)) (sa_cons (e_sub (v_ 5) (v_ 10)) sa_nil)))))))))))))
    (sss_one (ss_ret (v_ 2)))))

theorem sc_bit_of : FnScope ["value", "spot"] ["value", "spot"] (defScope (top 42)) := ⟨rfl, rfl, rfl, by decide +kernel, rfl, by decide +kernel, by decide +kernel⟩
theorem ok_bit_of (T : Fx K mg cls A FD) : FnG P w K mg base 1 (A 23) (FD 23) ["value", "spot"] (spF (⟨K, cls⟩ : Cg) 2 s_bit_of) :=
  fn_ok (N := ["value", "spot"]) (ps := ["value", "spot"]) (k := 0) (h := b_bit_of) T.f_bit_of sc_bit_of fun cdv A0 outer s0 H0 E0 hG hr tk =>
    (sss_one (ss_ret (e_band (e_shr (v_ 0) (v_ 1)) se_int)))

theorem sc_step_of : FnScope ["looks", "spot", "state", "x", "y", "across", "down", "kinds", "further", "below", "told", "look", "one", "other", "kind", "levels", "digits", "right", "shift", "first", "second", "number"] ["looks", "spot", "state", "x", "y"] (defScope (top 43)) := ⟨rfl, rfl, rfl, by decide +kernel, rfl, by decide +kernel, by decide +kernel⟩
theorem ok_step_of (T : Fx K mg cls A FD) : FnG P w K mg base 2 (A 24) (FD 24) ["looks", "spot", "state", "x", "y"] (spF (⟨K, cls⟩ : Cg) 5 s_step_of) :=
  fn_ok (N := ["looks", "spot", "state", "x", "y", "across", "down", "kinds", "further", "below", "told", "look", "one", "other", "kind", "levels", "digits", "right", "shift", "first", "second", "number"]) (ps := ["looks", "spot", "state", "x", "y"]) (k := 1) (h := b_step_of) T.f_step_of sc_step_of fun cdv A0 outer s0 H0 E0 hG hr tk =>
    (sss_cons (ss_asg (v_ 2) (sg_tup rfl rfl (sgs_cons (sg_name sc_step_of.nd (i := 5) rfl (Or.inl rfl)) (sgs_cons (sg_name sc_step_of.nd (i := 6) rfl (Or.inl rfl)) (sgs_cons (sg_name sc_step_of.nd (i := 7) rfl (Or.inl rfl)) sgs_nil)))) (gT_noexc (gsC_noexc gN_noexc (gsC_noexc gN_noexc (gsC_noexc gN_noexc gsN_noexc)))))
    (sss_cons (ss_par3 rfl sc_step_of.nd (i := 8) (j := 9) (l := 10) rfl rfl rfl (by decide) (by decide) (by decide) rfl rfl rfl (sa_cons (se_lst sa_nil) (sa_cons (se_lst sa_nil) (sa_cons (se_lst sa_nil) sa_nil))) rfl)
    (sss_cons (ss_forT (n := 4) (passes_of rfl) rfl rfl (si_zipN rfl ncz4 (by decide) (by rfl) T.n_zip (sa_cons (v_ 0) (sa_cons (v_ 5) (sa_cons (v_ 6) (sa_cons (v_ 7) sa_nil))))) (sgs_cons (sg_name sc_step_of.nd (i := 11) rfl (Or.inl rfl)) (sgs_cons (sg_name sc_step_of.nd (i := 12) rfl (Or.inl rfl)) (sgs_cons (sg_name sc_step_of.nd (i := 13) rfl (Or.inl rfl)) (sgs_cons (sg_name sc_step_of.nd (i := 14) rfl (Or.inl rfl)) sgs_nil)))) (gsC_noexc gN_noexc (gsC_noexc gN_noexc (gsC_noexc gN_noexc (gsC_noexc gN_noexc gsN_noexc)))) (sss_cons (ss_asg (v_ 11) (sg_tup rfl rfl (sgs_cons (sg_name sc_step_of.nd (i := 15) rfl (Or.inl rfl)) (sgs_cons (sg_name sc_step_of.nd (i := 16) rfl (Or.inl rfl)) (sgs_cons (sg_name sc_step_of.nd (i := 17) rfl (Or.inl rfl)) (sgs_cons (sg_name sc_step_of.nd (i := 18) rfl (Or.inl rfl)) sgs_nil))))) (gT_noexc (gsC_noexc gN_noexc (gsC_noexc gN_noexc (gsC_noexc gN_noexc (gsC_noexc gN_noexc gsN_noexc))))))
    (sss_cons (ss_par rfl sc_step_of.nd (i := 19) (j := 20) rfl rfl (by decide) rfl rfl (sa_cons (e_add (e_add (v_ 3) (se_call (ok_bit_of T) hG (hr.mono (by omega)) (by rfl) T.m_bit_of T.f_bit_of.kp T.b_bit_of tk (sa_cons (v_ 17) (sa_cons (v_ 1) sa_nil)))) (v_ 12)) (sa_cons (e_add (e_add (v_ 4) (se_call (ok_bit_of T) hG (hr.mono (by omega)) (by rfl) T.m_bit_of T.f_bit_of.kp T.b_bit_of tk (sa_cons (v_ 18) (sa_cons (v_ 1) sa_nil)))) (v_ 13)) sa_nil)) rfl)
    (sss_cons (ss_expr (e_app rfl (v_ 8) (e_shr (v_ 19) se_int)))
    (sss_cons (ss_expr (e_app rfl (v_ 9) (e_shr (v_ 20) se_int)))
    (sss_one (ss_if (st_bool (sw_and (t_eq hr rfl (v_ 14) se_int) (sw_and1 (t_lt (v_ 1) (e_len rfl T.n_len (v_ 15)))))) (sss_cons (ss_set sc_step_of.nd (i := 21) rfl (Or.inl rfl) (se_ix rfl (se_ix rfl (v_ 15) (v_ 1)) (e_add (e_band (v_ 19) se_int) (e_mul se_int (e_band (v_ 20) se_int)))))
    (sss_one (ss_expr (e_app rfl (v_ 10) (se_if (t_eq hr rfl (v_ 21) (se_ix rfl (v_ 16) (v_ 1))) se_int (e_int T.n_int (e_lt (v_ 21) (se_ix rfl (v_ 16) (v_ 1))))))))) (sss_one (ss_expr (e_app rfl (v_ 10) (v_ 14)))))))))) (gsC_len gN_noexc (gsC_len gN_noexc (gsC_len gN_noexc (gsC_len gN_noexc gsN_len)))))
    (sss_one (ss_ret (se_tup (sa_cons (e_tuple rfl T.n_tuple (v_ 8)) (sa_cons (e_tuple rfl T.n_tuple (v_ 9)) (sa_cons (e_tuple rfl T.n_tuple (v_ 10)) sa_nil)))))))))

theorem sc_may_be : FnScope ["kinds", "wanted", "kind", "some"] ["kinds", "wanted"] (defScope (top 44)) := ⟨rfl, rfl, rfl, by decide +kernel, rfl, by decide +kernel, by decide +kernel⟩
theorem ok_may_be (T : Fx K mg cls A FD) : FnG P w K mg base 1 (A 25) (FD 25) ["kinds", "wanted"] (spF (⟨K, cls⟩ : Cg) 2 s_may_be) :=
  fn_ok (N := ["kinds", "wanted", "kind", "some"]) (ps := ["kinds", "wanted"]) (k := 0) (h := b_may_be) T.f_may_be sc_may_be fun cdv A0 outer s0 H0 E0 hG hr tk =>
    (sss_one (ss_ret (se_or (se_isN (v_ 1)) (se_one (e_all rfl rfl T.n_all (lcW_ (by rfl) rfl sc_may_be.nd (si_zipN rfl ncz2 (by decide) (by rfl) T.n_zip (sa_cons (v_ 0) (sa_cons (v_ 1) sa_nil))) (blkOk_by (own := [("kind", 2), ("some", 3)]) (by rfl)) (n := 2) rfl (by decide) (fun _ _ _ _ _ => (pg_tup rfl (pgs_cons (pg_name (i := 2) sc_may_be.nd rfl (Or.inl rfl)) (pgs_cons (pg_name (i := 3) sc_may_be.nd rfl (Or.inl rfl)) pgs_nil)))) (fun _ _ _ _ _ => sts_nil) (fun _ _ _ _ _ => (e_in rfl (v_ 2) (se_tup (sa_cons se_int (sa_cons (v_ 3) sa_nil)))))))))))

theorem sc_less_so_far : FnScope ["value", "bound", "is_less"] ["value", "bound", "is_less"] (defScope (top 45)) := ⟨rfl, rfl, rfl, by decide +kernel, rfl, by decide +kernel, by decide +kernel⟩
theorem ok_less_so_far (T : Fx K mg cls A FD) : FnG P w K mg base 1 (A 26) (FD 26) ["value", "bound", "is_less"] (spF (⟨K, cls⟩ : Cg) 3 s_less_so_far) :=
  fn_ok (N := ["value", "bound", "is_less"]) (ps := ["value", "bound", "is_less"]) (k := 0) (h := b_less_so_far) T.f_less_so_far sc_less_so_far fun cdv A0 outer s0 H0 E0 hG hr tk =>
    (sss_one (ss_ret (se_if (t_eq hr rfl (v_ 0) (v_ 1)) (v_ 2) (e_lt (v_ 0) (v_ 1)))))

theorem sc_tally : FnScope ("looks" :: "wanted" :: "window" :: "left" :: "top" :: "width" :: "height" :: "moved" :: "depth" :: "many" :: "begin" :: "states" :: "spot" :: "later" :: "wide" :: "high" :: "state" :: "in_row" :: "in_column" :: "times" :: "x" :: "y" :: "behind" :: "key" :: "found" :: "truths" :: "places" :: "levels" :: "digits" :: "right" :: "shift" :: "look" :: "kind" :: []) ["looks", "wanted", "window"] (defScope (top 46)) := ⟨rfl, rfl, rfl, by decide +kernel, rfl, by decide +kernel, by decide +kernel⟩
theorem ok_tally (T : Fx K mg cls A FD) : FnG P w K mg base 3 (A 27) (FD 27) ["looks", "wanted", "window"] (spF (⟨K, cls⟩ : Cg) 3 s_tally) :=
  fn_ok (N := ("looks" :: "wanted" :: "window" :: "left" :: "top" :: "width" :: "height" :: "moved" :: "depth" :: "many" :: "begin" :: "states" :: "spot" :: "later" :: "wide" :: "high" :: "state" :: "in_row" :: "in_column" :: "times" :: "x" :: "y" :: "behind" :: "key" :: "found" :: "truths" :: "places" :: "levels" :: "digits" :: "right" :: "shift" :: "look" :: "kind" :: [])) (ps := ["looks", "wanted", "window"]) (k := 2) (h := b_tally) T.f_tally sc_tally fun cdv A0 outer s0 H0 E0 hG hr tk =>
    (sss_cons (ss_asg (v_ 2) (sg_tup rfl rfl (sgs_cons (sg_name sc_tally.nd (i := 3) rfl (Or.inr rfl)) (sgs_cons (sg_name sc_tally.nd (i := 4) rfl (Or.inr rfl)) (sgs_cons (sg_name sc_tally.nd (i := 5) rfl (Or.inl rfl)) (sgs_cons (sg_name sc_tally.nd (i := 6) rfl (Or.inl rfl)) sgs_nil))))) (gT_noexc (gsC_noexc gN_noexc (gsC_noexc gN_noexc (gsC_noexc gN_noexc (gsC_noexc gN_noexc gsN_noexc))))))
    (sss_cons (ss_thenPur (slcT_ (by rfl) rfl sc_tally.nd rfl (j := 7) rfl rfl rfl (si_seq rfl (v_ 0)) (blkOk_by (own := [("levels", 27), ("digits", 28), ("right", 29), ("shift", 30)]) (by rfl)) (n := 4) rfl (by decide) (fun _ _ _ _ _ => (pg_tup rfl (pgs_cons (pg_name (i := 27) sc_tally.nd rfl (Or.inl rfl)) (pgs_cons (pg_name (i := 28) sc_tally.nd rfl (Or.inl rfl)) (pgs_cons (pg_name (i := 29) sc_tally.nd rfl (Or.inl rfl)) (pgs_cons (pg_name (i := 30) sc_tally.nd rfl (Or.inl rfl)) pgs_nil)))))) (fun _ _ _ _ _ => sts_nil) (fun _ _ _ _ _ => (se_tup (sa_cons (v_ 27) (sa_cons (v_ 28) (sa_cons (e_add (v_ 29) (v_ 3)) (sa_cons (e_add (v_ 30) (v_ 4)) sa_nil))))))))
    (sss_cons (ss_set sc_tally.nd (i := 8) rfl (Or.inl rfl) (e_max1 rfl rfl T.n_max (lc1_ (by rfl) rfl sc_tally.nd (si_seq rfl (v_ 0)) (blkOk_by (own := [("look", 31)]) (by rfl)) (by decide) (fun _ _ _ _ _ => (pg_name (i := 31) sc_tally.nd rfl (Or.inl rfl))) (fun _ _ _ _ _ => sts_nil) (fun _ _ _ _ _ => (e_len rfl T.n_len (se_ix rfl (v_ 31) se_int))))))
    (sss_cons (ss_set sc_tally.nd (i := 9) rfl (Or.inl rfl) (e_len rfl T.n_len (v_ 0)))
    (sss_cons (ss_set sc_tally.nd (i := 10) rfl (Or.inl rfl) (se_tup (sa_cons (e_tuple rfl T.n_tuple (e_mul (se_lst (sa_cons se_int sa_nil)) (v_ 9))) (sa_cons (e_tuple rfl T.n_tuple (e_mul (se_lst (sa_cons se_int sa_nil)) (v_ 9))) (sa_cons (e_tuple rfl T.n_tuple (e_mul (se_lst (sa_cons se_int sa_nil)) (v_ 9))) sa_nil)))))
    (sss_cons (ss_set sc_tally.nd (i := 11) rfl (Or.inl rfl) (se_dt1E hr rfl (se_tup (sa_cons (v_ 10) (sa_cons se_bl (sa_cons se_bl sa_nil)))) se_int))
    (sss_cons (ss_for (passes_of rfl) rfl (si_range1 (by rfl) T.n_range (sa_cons (v_ 8) sa_nil)) (sg_name sc_tally.nd (i := 12) rfl (Or.inl rfl)) gN_noexc (sss_cons (ss_set sc_tally.nd (i := 13) rfl (Or.inl rfl) se_dtE)
    (sss_cons (ss_par rfl sc_tally.nd (i := 14) (j := 15) rfl rfl (by decide) rfl rfl (sa_cons (se_call (ok_bit_of T) hG (hr.mono (by omega)) (by rfl) T.m_bit_of T.f_bit_of.kp T.b_bit_of tk (sa_cons (v_ 5) (sa_cons (v_ 12) sa_nil))) (sa_cons (se_call (ok_bit_of T) hG (hr.mono (by omega)) (by rfl) T.m_bit_of T.f_bit_of.kp T.b_bit_of tk (sa_cons (v_ 6) (sa_cons (v_ 12) sa_nil))) sa_nil)) rfl)
    (sss_cons (ss_forT (n := 2) (passes_of rfl) rfl rfl (si_ditE rfl (v_ 11)) (sgs_cons (sg_tup rfl rfl (sgs_cons (sg_name sc_tally.nd (i := 16) rfl (Or.inl rfl)) (sgs_cons (sg_name sc_tally.nd (i := 17) rfl (Or.inl rfl)) (sgs_cons (sg_name sc_tally.nd (i := 18) rfl (Or.inl rfl)) sgs_nil)))) (sgs_cons (sg_name sc_tally.nd (i := 19) rfl (Or.inl rfl)) sgs_nil)) (gsC_noexc (gT_noexc (gsC_noexc gN_noexc (gsC_noexc gN_noexc (gsC_noexc gN_noexc gsN_noexc)))) (gsC_noexc gN_noexc gsN_noexc)) (sss_one (ss_for (passes_of rfl) rfl (si_seq rfl (se_tup (sa_cons se_int (sa_cons se_int sa_nil)))) (sg_name sc_tally.nd (i := 20) rfl (Or.inl rfl)) gN_noexc (sss_one (ss_for (passes_of rfl) rfl (si_seq rfl (se_tup (sa_cons se_int (sa_cons se_int sa_nil)))) (sg_name sc_tally.nd (i := 21) rfl (Or.inl rfl)) gN_noexc (sss_cons (ss_set sc_tally.nd (i := 22) rfl (Or.inl rfl) (se_call (ok_step_of T) hG (hr.mono (by omega)) (by rfl) T.m_step_of T.f_step_of.kp T.b_step_of tk (sa_cons (v_ 7) (sa_cons (v_ 12) (sa_cons (v_ 16) (sa_cons (v_ 20) (sa_cons (v_ 21) sa_nil)))))))
    (sss_one (ss_if (st_val (se_call (ok_may_be T) hG (hr.mono (by omega)) (by rfl) T.m_may_be T.f_may_be.kp T.b_may_be tk (sa_cons (se_ix rfl (v_ 22) se_int) (sa_cons (v_ 1) sa_nil)))) (sss_cons (ss_set sc_tally.nd (i := 23) rfl (Or.inl rfl) (se_tup (sa_cons (v_ 22) (sa_cons (se_call (ok_less_so_far T) hG (hr.mono (by omega)) (by rfl) T.m_less_so_far T.f_less_so_far.kp T.b_less_so_far tk (sa_cons (v_ 20) (sa_cons (v_ 14) (sa_cons (v_ 17) sa_nil)))) (sa_cons (se_call (ok_less_so_far T) hG (hr.mono (by omega)) (by rfl) T.m_less_so_far T.f_less_so_far.kp T.b_less_so_far tk (sa_cons (v_ 21) (sa_cons (v_ 15) (sa_cons (v_ 18) sa_nil)))) sa_nil)))))
    (sss_one (ss_dset hr rfl (e_add (se_dget hr rfl (v_ 13) (v_ 23) se_int) (v_ 19)) (v_ 13) (v_ 23)))) sss_nil))))))) (gsC_len (gT_noexc (gsC_noexc gN_noexc (gsC_noexc gN_noexc (gsC_noexc gN_noexc gsN_noexc)))) (gsC_len gN_noexc gsN_len)))
    (sss_one (ss_set sc_tally.nd (i := 11) rfl (Or.inl rfl) (v_ 13)))))))
    (sss_cons (ss_set sc_tally.nd (i := 24) rfl (Or.inl rfl) se_dtE)
    (sss_cons (ss_forT (n := 2) (passes_of rfl) rfl rfl (si_ditE rfl (v_ 11)) (sgs_cons (sg_tup rfl rfl (sgs_cons (sg_name sc_tally.nd (i := 16) rfl (Or.inl rfl)) (sgs_cons (sg_name sc_tally.nd (i := 17) rfl (Or.inl rfl)) (sgs_cons (sg_name sc_tally.nd (i := 18) rfl (Or.inl rfl)) sgs_nil)))) (sgs_cons (sg_name sc_tally.nd (i := 19) rfl (Or.inl rfl)) sgs_nil)) (gsC_noexc (gT_noexc (gsC_noexc gN_noexc (gsC_noexc gN_noexc (gsC_noexc gN_noexc gsN_noexc)))) (gsC_noexc gN_noexc gsN_noexc)) (sss_cons (ss_set sc_tally.nd (i := 25) rfl (Or.inl rfl) (se_pur (e_tuple rfl T.n_tuple (lc1_ (by rfl) rfl sc_tally.nd (si_seq rfl (se_ix rfl (v_ 16) se_int)) (blkOk_by (own := [("kind", 32)]) (by rfl)) (by decide) (fun _ _ _ _ _ => (pg_name (i := 32) sc_tally.nd rfl (Or.inl rfl))) (fun _ _ _ _ _ => sts_nil) (fun _ _ _ _ _ => (e_eq hr rfl (v_ 32) se_int))))))
    (sss_cons (ss_set sc_tally.nd (i := 26) rfl (Or.inl rfl) (e_mul (e_mul (v_ 19) (e_add (e_shr (v_ 5) (v_ 8)) (e_int T.n_int (v_ 17)))) (e_add (e_shr (v_ 6) (v_ 8)) (e_int T.n_int (v_ 18)))))
    (sss_one (ss_dset hr rfl (e_add (se_dget hr rfl (v_ 24) (v_ 25) se_int) (v_ 26)) (v_ 24) (v_ 25))))) (gsC_len (gT_noexc (gsC_noexc gN_noexc (gsC_noexc gN_noexc (gsC_noexc gN_noexc gsN_noexc)))) (gsC_len gN_noexc gsN_len)))
    (sss_one (ss_ret (v_ 24))))))))))))

theorem sc_ink_list : FnScope ["plates", "window", "looks", "counts", "found", "truths", "many", "number", "truth"] ["plates", "window"] (defScope (top 49)) := ⟨rfl, rfl, rfl, by decide +kernel, rfl, by decide +kernel, by decide +kernel⟩
theorem ok_ink_list (T : Fx K mg cls A FD) : FnG P w K mg base 4 (A 28) (FD 28) ["plates", "window"] (spF (⟨K, cls⟩ : Cg) 2 s_ink_list) :=
  fn_ok (N := ["plates", "window", "looks", "counts", "found", "truths", "many", "number", "truth"]) (ps := ["plates", "window"]) (k := 3) (h := b_ink_list) T.f_ink_list sc_ink_list fun cdv A0 outer s0 H0 E0 hG hr tk =>
    (sss_cons (ss_set sc_ink_list.nd (i := 2) rfl (Or.inl rfl) (se_pur (se_call (ok_looks_of T) hG (hr.mono (by omega)) (by rfl) T.m_looks_of T.f_looks_of.kp T.b_looks_of tk (sa_cons (v_ 0) (sa_cons (se_pur (lc1_ (by rfl) rfl sc_ink_list.nd (si_range1 (by rfl) T.n_range (sa_cons (e_len rfl T.n_len (v_ 0)) sa_nil)) (blkOk_by (own := [("number", 7)]) (by rfl)) (by decide) (fun _ _ _ _ _ => (pg_name (i := 7) sc_ink_list.nd rfl (Or.inl rfl))) (fun _ _ _ _ _ => sts_nil) (fun _ _ _ _ _ => (se_tup (sa_cons (v_ 7) (sa_cons se_int (sa_cons se_int (sa_cons se_bl sa_nil)))))))) sa_nil)))))
    (sss_cons (ss_par rfl sc_ink_list.nd (i := 3) (j := 4) rfl rfl (by decide) rfl rfl (sa_cons (se_call (ok_tally T) hG (hr.mono (by omega)) (by rfl) T.m_tally T.f_tally.kp T.b_tally tk (sa_cons (v_ 2) (sa_cons se_non (sa_cons (v_ 1) sa_nil)))) (sa_cons (e_mul (se_lst (sa_cons se_int sa_nil)) (e_shl se_int (e_len rfl T.n_len (v_ 0)))) sa_nil)) rfl)
    (sss_cons (ss_forT (n := 2) (passes_of rfl) rfl rfl (si_ditE rfl (v_ 3)) (sgs_cons (sg_name sc_ink_list.nd (i := 5) rfl (Or.inl rfl)) (sgs_cons (sg_name sc_ink_list.nd (i := 6) rfl (Or.inl rfl)) sgs_nil)) (gsC_noexc gN_noexc (gsC_noexc gN_noexc gsN_noexc)) (sss_one (ss_augS ip_add (v_ 4) (e_sum rfl rfl T.n_sum (lcW_ (by rfl) rfl sc_ink_list.nd (si_enum rfl (by rfl) T.n_enumerate (v_ 5)) (blkOk_by (own := [("number", 7), ("truth", 8)]) (by rfl)) (n := 2) rfl (by decide) (fun _ _ _ _ _ => (pg_tup rfl (pgs_cons (pg_name (i := 7) sc_ink_list.nd rfl (Or.inl rfl)) (pgs_cons (pg_name (i := 8) sc_ink_list.nd rfl (Or.inl rfl)) pgs_nil)))) (fun _ _ _ _ _ => (sts_one (st_val (v_ 8)))) (fun _ _ _ _ _ => (e_shl se_int (v_ 7))))) (v_ 6))) (gsC_len gN_noexc (gsC_len gN_noexc gsN_len)))
    (sss_one (ss_ret (v_ 4))))))

theorem sc_ink_counts : FnScope ["plates", "window"] ["plates", "window"] (defScope (top 50)) := ⟨rfl, rfl, rfl, by decide +kernel, rfl, by decide +kernel, by decide +kernel⟩
theorem ok_ink_counts (T : Fx K mg cls A FD) : FnG P w K mg base 6 (A 29) (FD 29) ["plates", "window"] (spF (⟨K, cls⟩ : Cg) 2 s_ink_counts) :=
  fn_ok (N := ["plates", "window"]) (ps := ["plates", "window"]) (k := 5) (h := b_ink_counts) T.f_ink_counts sc_ink_counts fun cdv A0 outer s0 H0 E0 hG hr tk =>
    (sss_cons (ss_expr (se_call (ok_require_plates T) hG (hr.mono (by omega)) (by rfl) T.m_require_plates T.f_require_plates.kp T.b_require_plates tk (sa_cons (v_ 0) (sa_cons (T.k_MOST_INKS.elim fun _ h => e_gI h) sa_nil))))
    (sss_cons (ss_expr (se_call (ok_require_window T) hG (hr.mono (by omega)) (by rfl) T.m_require_window T.f_require_window.kp T.b_require_window tk (sa_cons (v_ 1) sa_nil)))
    (sss_one (ss_ret (se_call (ok_ink_list T) hG (hr.mono (by omega)) (by rfl) T.m_ink_list T.f_ink_list.kp T.b_ink_list tk (sa_cons (v_ 0) (sa_cons (v_ 1) sa_nil)))))))

theorem sc_covered : FnScope ["plates", "window"] ["plates", "window"] (defScope (top 51)) := ⟨rfl, rfl, rfl, by decide +kernel, rfl, by decide +kernel, by decide +kernel⟩
theorem ok_covered (T : Fx K mg cls A FD) : FnG P w K mg base 6 (A 30) (FD 30) ["plates", "window"] (spF (⟨K, cls⟩ : Cg) 2 s_covered) :=
  fn_ok (N := ["plates", "window"]) (ps := ["plates", "window"]) (k := 5) (h := b_covered) T.f_covered sc_covered fun cdv A0 outer s0 H0 E0 hG hr tk =>
    (sss_cons (ss_expr (se_call (ok_require_plates T) hG (hr.mono (by omega)) (by rfl) T.m_require_plates T.f_require_plates.kp T.b_require_plates tk (sa_cons (v_ 0) (sa_cons (T.k_MOST_INKS.elim fun _ h => e_gI h) sa_nil))))
    (sss_cons (ss_expr (se_call (ok_require_window T) hG (hr.mono (by omega)) (by rfl) T.m_require_window T.f_require_window.kp T.b_require_window tk (sa_cons (v_ 1) sa_nil)))
    (sss_one (ss_ret (e_sum rfl rfl T.n_sum (se_sl rfl (se_call (ok_ink_list T) hG (hr.mono (by omega)) (by rfl) T.m_ink_list T.f_ink_list.kp T.b_ink_list tk (sa_cons (v_ 0) (sa_cons (v_ 1) sa_nil))) (so_some se_int) so_none))))))

theorem sc_z_law_told : FnScope ["way", "plates", "window", "caught", "kept", "e"] ["way", "plates", "window"] (defScope (top 61)) := ⟨rfl, rfl, rfl, by decide +kernel, rfl, by decide +kernel, by decide +kernel⟩
theorem ok_z_law_told (T : Fx K mg cls A FD) : FnG P w K mg base 7 (A 31) (FD 31) ["way", "plates", "window"] (spF (⟨K, cls⟩ : Cg) 3 s_z_law_told) :=
  fn_ok (N := ["way", "plates", "window", "caught", "kept", "e"]) (ps := ["way", "plates", "window"]) (k := 6) (h := b_z_law_told) T.f_z_law_told sc_z_law_told fun cdv A0 outer s0 H0 E0 hG hr tk =>
    (sss_cons (ss_par rfl sc_z_law_told.nd (i := 3) (j := 4) rfl rfl (by decide) rfl rfl (sa_cons se_non (sa_cons (e_reprE rfl hG hr T.n_repr (v_ 2)) sa_nil)) rfl)
    (sss_cons (ss_try rfl rfl rfl sc_z_law_told.nd (i := 5) rfl rfl rfl T.xs rfl T.gx100 (fun W pn xe tkT => (sss_one (ss_if (t_eq hr rfl (v_ 0) se_int) (sss_one (ss_expr (se_call (ok_ink_counts T) hG (hr.mono (by omega)) (by rfl) T.m_ink_counts T.f_ink_counts.kp T.b_ink_counts tkT (sa_cons (v_ 1) (sa_cons (v_ 2) sa_nil))))) (sss_one (ss_expr (se_call (ok_covered T) hG (hr.mono (by omega)) (by rfl) T.m_covered T.f_covered.kp T.b_covered tkT (sa_cons (v_ 1) (sa_cons (v_ 2) sa_nil)))))))) (fun a pn => (sss_one (ss_set sc_z_law_told.nd (i := 3) rfl (Or.inl rfl) (v_ 5)))))
    (sss_cons (ss_if (t_ne hr rfl (e_reprE rfl hG hr T.n_repr (v_ 2)) (v_ 4)) (sss_one (ss_ret se_str)) sss_nil)
    (sss_one (ss_ret (se_if (st_isN (v_ 3)) se_str (se_call (ok_z_law_class_v2 T) hG (hr.mono (by omega)) (by rfl) T.m_z_law_class_v2 T.f_z_law_class_v2.kp T.b_z_law_class_v2 tk (sa_cons (v_ 3) sa_nil))))))))

theorem sc_z_law_both : FnScope ["plates", "window", "due", "way"] ["plates", "window", "due"] (defScope (top 62)) := ⟨rfl, rfl, rfl, by decide +kernel, rfl, by decide +kernel, by decide +kernel⟩
theorem ok_z_law_both (T : Fx K mg cls A FD) : FnG P w K mg base 8 (A 32) (FD 32) ["plates", "window", "due"] (spF (⟨K, cls⟩ : Cg) 3 s_z_law_both) :=
  fn_ok (N := ["plates", "window", "due", "way"]) (ps := ["plates", "window", "due"]) (k := 7) (h := b_z_law_both) T.f_z_law_both sc_z_law_both fun cdv A0 outer s0 H0 E0 hG hr tk =>
    (sss_one (ss_ret (e_eq hr rfl (lc1_ (by rfl) rfl sc_z_law_both.nd (si_seq rfl (se_tup (sa_cons se_int (sa_cons se_int sa_nil)))) (blkOk_by (own := [("way", 3)]) (by rfl)) (by decide) (fun _ _ _ _ _ => (pg_name (i := 3) sc_z_law_both.nd rfl (Or.inl rfl))) (fun _ _ _ _ _ => sts_nil) (fun _ _ _ _ _ => (se_call (ok_z_law_told T) hG (hr.mono (by omega)) (by rfl) T.m_z_law_told T.f_z_law_told.kp T.b_z_law_told takesW0 (sa_cons (v_ 3) (sa_cons (v_ 0) (sa_cons (v_ 1) sa_nil)))))) (e_mul (se_lst (sa_cons (v_ 2) sa_nil)) se_int))))

theorem sc_z_law_right : FnScope ["bag", "plates", "window", "bad", "at", "some", "far", "most", "good"] ["bag"] (defScope (top 64)) := ⟨rfl, rfl, rfl, by decide +kernel, rfl, by decide +kernel, by decide +kernel⟩
theorem ok_z_law_right (T : Fx K mg cls A FD) : FnG P w K mg base 9 (A 33) (FD 33) ["bag"] (spF (⟨K, cls⟩ : Cg) 1 s_z_law_right) :=
  fn_ok (N := ["bag", "plates", "window", "bad", "at", "some", "far", "most", "good"]) (ps := ["bag"]) (k := 8) (h := b_z_law_right) T.f_z_law_right sc_z_law_right fun cdv A0 outer s0 H0 E0 hG hr tk =>
    (sss_cons (ss_set sc_z_law_right.nd (i := 1) rfl (Or.inl rfl) (se_pur (se_call (ok_z_law_made_v1 T) hG (hr.mono (by omega)) (by rfl) T.m_z_law_made_v1 T.f_z_law_made_v1.kp T.b_z_law_made_v1 tk (sa_cons (se_pur (se_call (ok_z_law_plates_v1 T) hG (hr.mono (by omega)) (by rfl) T.m_z_law_plates_v1 T.f_z_law_plates_v1.kp T.b_z_law_plates_v1 tk (sa_cons (v_ 0) (sa_cons (e_add se_int (se_call (ok_z_law_pick T) hG (hr.mono (by omega)) (by rfl) T.m_z_law_pick T.f_z_law_pick.kp T.b_z_law_pick tk (sa_cons (v_ 0) (sa_cons se_int sa_nil)))) (sa_cons se_int sa_nil))))) sa_nil))))
    (sss_cons (ss_set sc_z_law_right.nd (i := 2) rfl (Or.inl rfl) (se_tup (sa_cons se_int (sa_cons se_int (sa_cons se_int (sa_cons se_int sa_nil))))))
    (sss_cons (ss_for (passes_of rfl) rfl (si_seq rfl (se_lst (sa_cons se_non (sa_cons se_int (sa_cons se_bl (sa_cons se_str (sa_cons (se_tup sa_nil) (sa_cons se_edct (sa_cons (se_lst sa_nil) (sa_cons (e_tuple rfl T.n_tuple (v_ 1)) (sa_cons (se_ix rfl (v_ 1) se_int) (sa_cons (se_sl rfl (e_mul (v_ 1) se_int) so_none (so_some se_int)) (sa_cons (e_mul (se_lst (sa_cons se_non sa_nil)) se_int) (sa_cons (e_pow se_int se_int) sa_nil)))))))))))))) (sg_name sc_z_law_right.nd (i := 3) rfl (Or.inl rfl)) gN_noexc (sss_one (ss_if (st_bool (sw_or (st_not (st_val (se_call (ok_z_law_both T) hG (hr.mono (by omega)) (by rfl) T.m_z_law_both T.f_z_law_both.kp T.b_z_law_both tk (sa_cons (v_ 3) (sa_cons (v_ 2) (sa_cons se_str sa_nil)))))) (sw_or1 (st_not (st_val (se_call (ok_z_law_both T) hG (hr.mono (by omega)) (by rfl) T.m_z_law_both T.f_z_law_both.kp T.b_z_law_both tk (sa_cons (v_ 3) (sa_cons se_non (sa_cons se_str sa_nil))))))))) (sss_one (ss_ret se_bl)) sss_nil)))
    (sss_cons (ss_for (passes_of rfl) rfl (si_seq rfl (se_call (ok_z_law_bad_plates T) hG (hr.mono (by omega)) (by rfl) T.m_z_law_bad_plates T.f_z_law_bad_plates.kp T.b_z_law_bad_plates tk (sa_cons (se_ix rfl (se_ix rfl (v_ 1) se_int) se_int) sa_nil))) (sg_name sc_z_law_right.nd (i := 3) rfl (Or.inl rfl)) gN_noexc (sss_cons (ss_set sc_z_law_right.nd (i := 4) rfl (Or.inl rfl) (se_call (ok_z_law_pick T) hG (hr.mono (by omega)) (by rfl) T.m_z_law_pick T.f_z_law_pick.kp T.b_z_law_pick tk (sa_cons (v_ 0) (sa_cons (e_len rfl T.n_len (v_ 1)) sa_nil))))
    (sss_one (ss_for (passes_of rfl) rfl (si_seq rfl (se_tup (sa_cons (e_add (e_add (se_sl rfl (v_ 1) so_none (so_some (v_ 4))) (se_lst (sa_cons (v_ 3) sa_nil))) (se_sl rfl (v_ 1) (so_some (e_add (v_ 4) se_int)) so_none)) (sa_cons (e_add (se_sl rfl (v_ 1) so_none (so_some (v_ 4))) (se_sl rfl (se_lst (sa_cons (v_ 3) (sa_cons se_non sa_nil))) so_none (so_some (e_sub se_int (v_ 4))))) sa_nil)))) (sg_name sc_z_law_right.nd (i := 5) rfl (Or.inl rfl)) gN_noexc (sss_one (ss_if (st_not (st_val (se_call (ok_z_law_both T) hG (hr.mono (by omega)) (by rfl) T.m_z_law_both T.f_z_law_both.kp T.b_z_law_both tk (sa_cons (v_ 5) (sa_cons se_non (sa_cons (e_add se_str (e_repr rfl hG hr T.n_repr (v_ 4))) sa_nil)))))) (sss_one (ss_ret se_bl)) sss_nil))))))
    (sss_cons (ss_for (passes_of rfl) rfl (si_seq rfl (se_call0 (ok_z_law_bad_windows T) hG (hr.mono (by omega)) (by rfl) T.m_z_law_bad_windows T.f_z_law_bad_windows.kp T.b_z_law_bad_windows tk)) (sg_name sc_z_law_right.nd (i := 3) rfl (Or.inl rfl)) gN_noexc (sss_one (ss_if (st_not (st_val (se_call (ok_z_law_both T) hG (hr.mono (by omega)) (by rfl) T.m_z_law_both T.f_z_law_both.kp T.b_z_law_both tk (sa_cons (v_ 1) (sa_cons (v_ 3) (sa_cons se_str sa_nil)))))) (sss_one (ss_ret se_bl)) sss_nil)))
    (sss_cons (ss_par rfl sc_z_law_right.nd (i := 6) (j := 7) rfl rfl (by decide) rfl rfl (sa_cons (e_pow se_int se_int) (sa_cons (T.p_Screen_shades.elim fun _ h => se_prop (se_ix rfl (se_ix rfl (v_ 1) se_int) se_int) T.cf0.cl h (ok_Screen_shades T) hG (hr.mono (by omega)) T.b_Screen_shades) sa_nil)) rfl)
    (sss_cons (ss_set sc_z_law_right.nd (i := 8) rfl (Or.inl rfl) (se_pur (se_lst (sa_cons (se_tup (sa_cons (se_ix rfl (se_ix rfl (v_ 1) se_int) se_int) (sa_cons se_int (sa_cons (v_ 6) (sa_cons (e_sub se_int (v_ 6)) sa_nil))))) (sa_cons (se_tup (sa_cons (se_ix rfl (se_ix rfl (v_ 1) se_int) se_int) (sa_cons (v_ 7) (sa_cons (e_sub se_int (v_ 6)) (sa_cons (v_ 6) sa_nil))))) sa_nil)))))
    (sss_one (ss_ret (se_and (se_call (ok_z_law_both T) hG (hr.mono (by omega)) (by rfl) T.m_z_law_both T.f_z_law_both.kp T.b_z_law_both tk (sa_cons (v_ 8) (sa_cons (se_tup (sa_cons (v_ 6) (sa_cons (e_sub se_int (v_ 6)) (sa_cons (v_ 6) (sa_cons (v_ 6) sa_nil))))) (sa_cons se_str sa_nil)))) (se_one (se_call (ok_z_law_both T) hG (hr.mono (by omega)) (by rfl) T.m_z_law_both T.f_z_law_both.kp T.b_z_law_both tk (sa_cons (v_ 1) (sa_cons (se_tup (sa_cons (e_sub se_int (v_ 6)) (sa_cons (v_ 6) (sa_cons se_int (sa_cons se_int sa_nil))))) (sa_cons se_str sa_nil)))))))))))))))

theorem sc_law : FnScope ["script", "cell", "bag"] ["script"] (defScope (top 65)) := ⟨rfl, rfl, rfl, by decide +kernel, rfl, by decide +kernel, by decide +kernel⟩
theorem ok_law (T : Fx K mg cls A FD) : FnG P w K mg base 10 (A 34) (FD 34) ["script"] (spF (⟨K, cls⟩ : Cg) 1 s_law) :=
  fn_ok (N := ["script", "cell", "bag"]) (ps := ["script"]) (k := 9) (h := b_law) T.f_law sc_law fun cdv A0 outer s0 H0 E0 hG hr tk =>
    (sss_cons (ss_for (passes_of rfl) rfl (si_seq rfl (e_add (se_sl rfl (v_ 0) so_none (so_some se_int)) (se_lst (sa_cons se_int sa_nil)))) (sg_name sc_law.nd (i := 1) rfl (Or.inl rfl)) gN_noexc (sss_cons (ss_set sc_law.nd (i := 2) rfl (Or.inl rfl) (se_call (ok_z_law_bag T) hG (hr.mono (by omega)) (by rfl) T.m_z_law_bag T.f_z_law_bag.kp T.b_z_law_bag tk (sa_cons (v_ 1) sa_nil)))
    (sss_one (ss_if (st_not (st_val (se_call (ok_z_law_right T) hG (hr.mono (by omega)) (by rfl) T.m_z_law_right T.f_z_law_right.kp T.b_z_law_right tk (sa_cons (v_ 2) sa_nil)))) (sss_one (ss_ret se_bl)) sss_nil))))
    (sss_one (ss_ret se_bl)))
end
end K29

set_option Elab.async false
set_option linter.all false
set_option maxRecDepth 100000
set_option exponentiation.threshold 2000
set_option maxHeartbeats 4000000
namespace K29
open PySem PySem.Spec PyProof.Rows L2 Dd Lib
section
variable {a w : D} {x : Xn}
theorem ic_x (h : ∀ st, s_require_plates [.p a, .p (.int 3)] st = .exc x st) (st : Store) : s_ink_counts [.p a, .p w] st = .exc x st := by
  unfold s_ink_counts b_ink_counts
  simp! [h, applyF_exc, finish_exc]
theorem cv_x (h : ∀ st, s_require_plates [.p a, .p (.int 3)] st = .exc x st) (st : Store) : s_covered [.p a, .p w] st = .exc x st := by
  unfold s_covered b_covered
  simp! [h, applyF_exc, finish_exc]
theorem ic_w {r : D} (h : ∀ st, s_require_plates [.p a, .p (.int 3)] st = .ok (.val r) st) (h1 : okD w = true) (h2 : okT w = true) (h3 : wndD w = false) (st : Store) : s_ink_counts [.p a, .p w] st = .exc ⟨110, .non⟩ st := by
  unfold s_ink_counts b_ink_counts
  simp! [h, require_window_x h1 h2, h3, applyF_exc, finish_exc]
theorem cv_w {r : D} (h : ∀ st, s_require_plates [.p a, .p (.int 3)] st = .ok (.val r) st) (h1 : okD w = true) (h2 : okT w = true) (h3 : wndD w = false) (st : Store) : s_covered [.p a, .p w] st = .exc ⟨110, .non⟩ st := by
  unfold s_covered b_covered
  simp! [h, require_window_x h1 h2, h3, applyF_exc, finish_exc]
variable {k : Nat} {f : D} {s : Str}
theorem told0 (hw : rpOk w = true) (hk : 100 ≤ k ∧ k ≤ 119) (h : ∀ st, s_ink_counts [.p a, .p w] st = .exc ⟨k, f⟩ st) (hc : ∀ st, s_z_law_class_v2 [.p (.exn k f)] st = .ok (.val (.str s)) st) (st : Store) : s_z_law_told [.p (.int 0), .p a, .p w] st = .ok (.val (.str s)) st := by
  obtain ⟨T, hT, hr⟩ := reprE_ok hw
  unfold s_z_law_told b_z_law_told
  simp! [hr, sTry_ap, h, applyF_exc, tryR_exc hk, tryG_nx, opNeD_t hT hT, isN_ap, isN_x, hc]
theorem told1 (hw : rpOk w = true) (hk : 100 ≤ k ∧ k ≤ 119) (h : ∀ st, s_covered [.p a, .p w] st = .exc ⟨k, f⟩ st) (hc : ∀ st, s_z_law_class_v2 [.p (.exn k f)] st = .ok (.val (.str s)) st) (st : Store) : s_z_law_told [.p (.int 1), .p a, .p w] st = .ok (.val (.str s)) st := by
  obtain ⟨T, hT, hr⟩ := reprE_ok hw
  unfold s_z_law_told b_z_law_told
  simp! [hr, sTry_ap, h, applyF_exc, tryR_exc hk, tryG_nx, opNeD_t hT hT, isN_ap, isN_x, hc, Int.reduceEq]
theorem told0f (hw : rpOk w = true) (h : ∀ st, ∃ r, s_ink_counts [.p a, .p w] st = .ok r st) (st : Store) : s_z_law_told [.p (.int 0), .p a, .p w] st = .ok (.val (.str (Str.ofString "fine"))) st := by
  obtain ⟨T, hT, hr⟩ := reprE_ok hw
  obtain ⟨r, h⟩ := h st
  unfold s_z_law_told b_z_law_told
  cases r <;> simp! [hr, sTry_ap, h, tryR_ok, opNeD_t hT hT, isN_ap, isNK_n]
theorem told1f (hw : rpOk w = true) (h : ∀ st, ∃ r, s_covered [.p a, .p w] st = .ok r st) (st : Store) : s_z_law_told [.p (.int 1), .p a, .p w] st = .ok (.val (.str (Str.ofString "fine"))) st := by
  obtain ⟨T, hT, hr⟩ := reprE_ok hw
  obtain ⟨r, h⟩ := h st
  unfold s_z_law_told b_z_law_told
  cases r <;> simp! [hr, sTry_ap, h, tryR_ok, opNeD_t hT hT, isN_ap, isNK_n, Int.reduceEq]
theorem both_i (hs : PyData.strOk s = true) (h0 : ∀ st, s_z_law_told [.p (.int 0), .p a, .p w] st = .ok (.val (.str s)) st) (h1 : ∀ st, s_z_law_told [.p (.int 1), .p a, .p w] st = .ok (.val (.str s)) st) (st : Store) :
    s_z_law_both [.p a, .p w, .p (.str s)] st = .ok (.val (.bl true)) st := by
  unfold s_z_law_both b_z_law_both
  simp! []
  rw [lcL_map (g := fun _ => D.str s) trivial _ _ (fun d hd => by
    simp only [List.mem_cons, List.not_mem_nil, or_false] at hd
    rw [lcB1_ap]
    rcases hd with rfl | rfl
    · simp! [h0]
    · simp! [h1]) (by simp)]
  have mk2 : ∀ x S, mulK 2 S (some [x]) = .ok (.r S.st.length) ⟨S.sl, S.st ++ [.mu (.lst [x, x])]⟩ := fun x S => mulK_rp (j := 2) (by decide)
  have eq : ∀ (n m : Nat) (S : Sg), S.st[n]? = some (.mu (.lst [.str s, .str s])) → S.st[m]? = some (.mu (.lst [.str s, .str s])) → opEqD (.r n) (.r m) S = .ok (.p (.bl true)) S := fun n m S e1 e2 => by
    have k : ∀ t ∈ [s, s], PyData.strOk t = true := by simp [hs]
    rw [opEqD_of (d := .list ([s, s].map PyData.str)) (e := .list ([s, s].map PyData.str)) (by rw [dataR_r, e1]; exact dataK_strs (l := [s, s])) (by rw [dataR_r, e2]; exact dataK_strs (l := [s, s])) (shaped_strs k) (shaped_strs k), eqv_ll, eqvAll_strs]
    simp
  simp! [lcFin_ok, opMul_r, mk2, eq]
end
/-- refused plates -/
theorem both_n {a w : D} (hw : rpOk w = true) (h : ∀ st, s_require_plates [.p a, .p (.int 3)] st = .exc ⟨102, .non⟩ st) (st : Store) : s_z_law_both [.p a, .p w, .p (.str (Str.ofString "InvalidPlates None"))] st = .ok (.val (.bl true)) st := by
  have hc : ∀ st, s_z_law_class_v2 [.p (.exn 102 .non)] st = .ok (.val (.str (Str.ofString "InvalidPlates None"))) st := fun st => class_y (f := .non) (T := Str.ofString "None") (fun S => opRepr_n) (by decide) st
  exact both_i (by decide +kernel) (told0 hw (by decide) (ic_x h) hc) (told1 hw (by decide) (cv_x h) hc) st
theorem itoa {n : Nat} (h : n < 3) : ∃ T : Str, (∀ S, opRepr (.p (.int (n : Int))) S = .ok (.p (.str T)) S) ∧ T.length ≤ 100 ∧ PyData.strOk (Str.ofString "InvalidPlates " ++ T) = true ∧ Str.ofString "InvalidPlates" ++ (Str.ofString " " ++ T) = Str.ofString "InvalidPlates " ++ T := by
  have hn : n = 0 ∨ n = 1 ∨ n = 2 := by omega
  rcases hn with rfl | rfl | rfl
  · exact ⟨_, fun S => opRepr_i (i := 0) (Bt.of (by decide)), by decide +kernel, by decide +kernel, by decide +kernel⟩
  · exact ⟨_, fun S => opRepr_i (i := 1) (Bt.of (by decide)), by decide +kernel, by decide +kernel, by decide +kernel⟩
  · exact ⟨_, fun S => opRepr_i (i := 2) (Bt.of (by decide)), by decide +kernel, by decide +kernel, by decide +kernel⟩
theorem both_b {a : D} {n : Nat} {T : Str} (hr : ∀ S, opRepr (.p (.int (n : Int))) S = .ok (.p (.str T)) S) (hl : T.length ≤ 100) (hs : PyData.strOk (Str.ofString "InvalidPlates " ++ T) = true) (he : Str.ofString "InvalidPlates" ++ (Str.ofString " " ++ T) = Str.ofString "InvalidPlates " ++ T)
    (h : ∀ st, s_require_plates [.p a, .p (.int 3)] st = .exc ⟨102, .int (n : Int)⟩ st) (st : Store) : s_z_law_both [.p a, .p .non, .p (.str (Str.ofString "InvalidPlates " ++ T))] st = .ok (.val (.bl true)) st := by
  have hc : ∀ st, s_z_law_class_v2 [.p (.exn 102 (.int (n : Int)))] st = .ok (.val (.str (Str.ofString "InvalidPlates " ++ T))) st := fun st => by rw [← he]; exact class_y hr hl st
  exact both_i hs (told0 rfl (by decide) (ic_x h) hc) (told1 rfl (by decide) (cv_x h) hc) st
/-- values that are no plates -/
def badP (A : List (List Int)) : List D := [.non, .int 0, .str (Str.ofString ""), .tup [], .lst [], .edct, .scr (lvD A), .tup [.scr (lvD A)], .tup [.scr (lvD A), .int 1, .int 0], .tup [.scr (lvD A), .int 1, .int 0, .int 0, .int 0], .lst [.scr (lvD A), .int 1, .int 0, .int 0],
  .tup [.non, .int 1, .int 0, .int 0], .tup [.lst (lvD A), .int 1, .int 0, .int 0], .tup [.int 1, .scr (lvD A), .int 0, .int 0],
  .tup [.scr (lvD A), .non, .int 0, .int 0], .tup [.scr (lvD A), .bl true, .int 0, .int 0], .tup [.scr (lvD A), .str (Str.ofString "1"), .int 0, .int 0], .tup [.scr (lvD A), .int (-1), .int 0, .int 0], .tup [.scr (lvD A), .int (4 ^ A.length + 1), .int 0, .int 0], .tup [.scr (lvD A), .lst [.int 1], .int 0, .int 0],
  .tup [.scr (lvD A), .int 1, .non, .int 0], .tup [.scr (lvD A), .int 1, .int 0, .non], .tup [.scr (lvD A), .int 1, .bl false, .int 0], .tup [.scr (lvD A), .int 1, .int 0, .bl false], .tup [.scr (lvD A), .int 1, .str (Str.ofString "0"), .int 0], .tup [.scr (lvD A), .int 1, .int 0, .str (Str.ofString "0")],
  .tup [.scr (lvD A), .int 1, .int ((1000000000000000000000000000000 : Int) + 1), .int 0], .tup [.scr (lvD A), .int 1, .int 0, .int ((1000000000000000000000000000000 : Int) + 1)], .tup [.scr (lvD A), .int 1, .int (-((1000000000000000000000000000000 : Int) + 1)), .int 0], .tup [.scr (lvD A), .int 1, .int 0, .int (-((1000000000000000000000000000000 : Int) + 1))], .tup [.scr (lvD A), .int 1, .tup [.int 0], .int 0], .tup [.scr (lvD A), .int 1, .int 0, .tup [.int 0]]]
theorem badP_ok {A : List (List Int)} (hA : A.length ≤ 50) {d : D} (hd : d ∈ badP A) : BadPl d := by
  unfold badP at hd
  simp only [List.mem_cons, List.not_mem_nil, or_false] at hd
  rcases hd with rfl | rfl | rfl | rfl | rfl | rfl | rfl | rfl | rfl | rfl | rfl | rfl | rfl | rfl | rfl | rfl | rfl | rfl | rfl | rfl | rfl | rfl | rfl | rfl | rfl | rfl | rfl | rfl | rfl | rfl | rfl | rfl
  all_goals first
    | exact .inl ⟨rfl, rfl⟩
    | exact .inr (.inr (.inl ⟨_, _, _, _, rfl, rfl, rfl⟩))
    | (refine .inr (.inr (.inr ⟨A, _, _, _, hA, rfl, rfl, rfl, rfl, ?_⟩))
       simp [wholeD]; done)
    | (refine .inr (.inr (.inr ⟨A, _, _, _, hA, rfl, rfl, rfl, rfl, ?_⟩))
       simp [wholeD]; omega)
    | (refine .inr (.inl ⟨_, rfl, ?_⟩); simp; done)
theorem bad_plates_i {A : List (List Int)} (hA : A.length ≤ 50) (st : Store) : s_z_law_bad_plates [.p (.scr (lvD A))] st = .ok (.new (.lst (badP A))) st := by
  unfold s_z_law_bad_plates b_z_law_bad_plates
  simp! [shades_p A hA, edE_ap, pureC_dct, levels_p, opAdd_rr, catK_ap]
  iterate 6
    rw [loop_cons trivial, bind_bnd]
    simp! [loopK, appK_ap]
  simp! [loop_nil, pw30]
  iterate 6
    rw [loop_cons trivial, bind_bnd]
    simp! [loopK, opAdd_rr, catK_ap]
  simp! [loop_nil]
  exact finR rfl
theorem opMul_l {l : List D} {j : Int} {S : Sg} : opMul (.p (.lst l)) (.p (.int j)) S = mulK j S (some l) := Eq.trans rfl rfl
theorem mulK4 {l : List D} {S : Sg} (h : l.length ≤ 3) : mulK 4 S (some l) = .ok (.r S.st.length) ⟨S.sl, S.st ++ [.mu (.lst (l ++ (l ++ (l ++ l))))]⟩ := by
  unfold mulK
  have h : -(2 ^ 63) ≤ (4 : Int) ∧ (4 : Int) < 2 ^ 63 ∧ l.length * (4 : Int).toNat ≤ sizeLine := ⟨by decide, by decide, Nat.le_trans (show l.length * 4 ≤ 100 by omega) (by rw [sizeLine_eq]; decide)⟩
  simp only
  rw [if_pos h, show (4 : Int).toNat = 4 from rfl]
  simp only [List.replicate, List.flatten_cons, List.flatten_nil, List.append_nil]
theorem sl_c {n : Nat} {l : List D} {k : Nat} {S : Sg} (h : S.st[n]? = some (.mu (.lst l))) (hl : l.length ≤ 1000) : opSl (.r n) none (some (k : Int)) S = .ok (.r S.st.length) ⟨S.sl, S.st ++ [.mu (.lst (l.take k))]⟩ := by
  rw [opSl_r, getLst_r, h]
  unfold slK
  have : getLK (some (Cell.mu (.lst l))) = some l := rfl
  first
    | (rw [cutD_to]; exact if_pos (Nat.le_trans hl (by rw [sizeLine_eq]; decide)))
    | (simp only [this]; rw [cutD_to]; exact if_pos (Nat.le_trans hl (by rw [sizeLine_eq]; decide)))
theorem right_d : Draws s_z_law_right (fun n => [.r n]) (fun v => v = .bl true) 1000 := by
  apply dr_of
  intro st n c C hn hb hC
  unfold s_z_law_right b_z_law_right
  simp! [bnd_bnd]
  refine wpf_bnd (wp_draw0 (pick_d (m := 3) (by decide) (by decide)) hn hb (by omega) fun _ c1 ⟨v, e, a1, b1⟩ B1 => ?_); subst e
  obtain ⟨k, hk⟩ : ∃ k : Nat, 1 + v = (k : Int) := ⟨(1 + v).toNat, by omega⟩
  have hk9 : k * 260 ≤ 3 * 260 := Nat.mul_le_mul_right _ (by omega)
  simp! [bnd_bnd, hk]
  refine wpf_bnd (wp_drawL0 (plates1_d (many := k) (most := 4) (by omega) (by decide) (by decide)) hn B1 (by omega) fun _ c2 ⟨ps, e, hl, hp4⟩ B2 => ?_); subst e
  have hp : ∀ P ∈ ps, PltOk P := fun P hP => (hp4 P hP).1
  have p1 : 1 ≤ ps.length := by omega
  have p3 : ps.length ≤ 3 := by omega
  have B2 : BagC c2 (C + 781) := BagC.mono B2 (by omega)
  have mk := fun st => made1_i hp (by omega) st
  obtain ⟨P0, r0, hP0⟩ : ∃ P0 r0, ps = P0 :: r0 := by
    cases ps with
    | nil => simp at p1
    | cons a r => exact ⟨a, r, rfl⟩
  have hx0 : ∀ S : Sg, ixK (ps.map pltD) 0 S = .ok (.p (pltD P0)) S := fun S => by rw [hP0, List.map_cons, ixK_0]
  have lm : (ps.map pltD).length ≤ 3 := by rw [List.length_map]; exact p3
  have m4 := fun S => mulK4 (S := S) lm
  have mk4 : ∀ x S, mulK 4 S (some [x]) = .ok (.r S.st.length) ⟨S.sl, S.st ++ [.mu (.lst [x, x, x, x])]⟩ := fun x S => mulK_rp (j := 4) (by decide)
  have s4 : ∀ (m : Nat) (S : Sg), S.st[m]? = some (.mu (.lst (ps.map pltD ++ (ps.map pltD ++ (ps.map pltD ++ ps.map pltD))))) → opSl (.r m) none (some 4) S = .ok (.r S.st.length) ⟨S.sl, S.st ++ [.mu (.lst ((ps.map pltD ++ (ps.map pltD ++ (ps.map pltD ++ ps.map pltD))).take 4))]⟩ := fun m S h => sl_c (k := 4) h (by simp only [List.length_append]; omega)
  obtain ⟨L4, hL4, l4⟩ : ∃ L4 : List D, (ps.map pltD ++ (ps.map pltD ++ (ps.map pltD ++ ps.map pltD))).take 4 = L4 ∧ L4.length = 4 := ⟨_, rfl, by rw [List.length_take]; simp only [List.length_append, List.length_map]; omega⟩
  rw [hL4] at s4
  simp! [bnd_bnd, mk, pw40, edE_ap, pureC_dct, hx0, opMul_l, m4, slE_ap, opt0_ap, opt1_ci, s4, opMul_r, mk4]
  have rpW : rpOk (.tup [.int 0, .int 0, .int 1, .int 1]) = true := by decide +kernel
  have bl : ∀ d ∈ ([D.non, D.int 0, D.bl true, D.str (Str.ofString ""), D.tup [], D.edct, D.lst [], D.tup (List.map pltD ps), pltD P0, D.lst L4, D.lst [D.non, D.non, D.non, D.non], D.int 10000000000000000000000000000000000000000] : List D), ∀ st, s_require_plates [.p d, .p (.int 3)] st = .exc ⟨102, .non⟩ st := by
    intro d hd st
    simp only [List.mem_cons, List.not_mem_nil, or_false] at hd
    rcases hd with rfl | rfl | rfl | rfl | rfl | rfl | rfl | rfl | rfl | rfl | rfl | rfl
    all_goals first
      | exact require_plates_n rfl rfl 3 st
      | exact require_plates_l (m := 3) (.inl rfl) st
      | exact require_plates_l (m := 3) (.inr (by rw [l4]; decide)) st
      | exact require_plates_l (m := 3) (.inr (by decide)) st
  generalize hV : ([Cell.fz (List.map lpD ps), Cell.fz (List.map pltD ps), Cell.dead, Cell.fz [], Cell.mu (Con.lst (List.map pltD ps ++ (List.map pltD ps ++ (List.map pltD ps ++ List.map pltD ps)))), Cell.fz L4, Cell.mu (Con.lst [D.non]), Cell.fz [D.non, D.non, D.non, D.non], Cell.mu (Con.lst [D.non, D.int 0, D.bl true, D.str (Str.ofString ""), D.tup [], D.edct, D.lst [], D.tup (List.map pltD ps), pltD P0, D.lst L4, D.lst [D.non, D.non, D.non, D.non], D.int 10000000000000000000000000000000000000000])] : Store) = V
  have gV : ∀ (c : Cell) (Z : Store), (st.set n c ++ (V ++ Z))[st.length + 8]? = some (.mu (.lst [D.non, D.int 0, D.bl true, D.str (Str.ofString ""), D.tup [], D.edct, D.lst [], D.tup (List.map pltD ps), pltD P0, D.lst L4, D.lst [D.non, D.non, D.non, D.non], D.int 10000000000000000000000000000000000000000])) := fun c Z => by
    have e : (st.set n c).length = st.length := by simp
    rw [List.getElem?_append_right (by omega), e, Nat.add_sub_cancel_left, ← hV]
    rfl
  generalize hBL : ([D.non, D.int 0, D.bl true, D.str (Str.ofString ""), D.tup [], D.edct, D.lst [], D.tup (List.map pltD ps), pltD P0, D.lst L4, D.lst [D.non, D.non, D.non, D.non], D.int 10000000000000000000000000000000000000000] : List D) = BL at *
  refine wpf_bnd (wp_imp (wp_loop (Q := fun f S => f = .nx ∧ ∃ s3 s4 s5 Z, S = ⟨[some (.r n), some (.p (.lst (ps.map pltD))), some (.p (.tup [.int 0, .int 0, .int 1, .int 1])), s3, s4, s5, none, none, none], st.set n c2 ++ Z⟩) (I := fun j S => ∃ s3 s4 s5 Z, S = ⟨[some (.r n), some (.p (.lst (ps.map pltD))), some (.p (.tup [.int 0, .int 0, .int 1, .int 1])), s3, s4, s5, none, none, none], st.set n c2 ++ (V ++ Z)⟩) ?_ ?_ ?_ ?_) ?_)
  · exact ⟨_, _, _, [], by rw [List.append_nil]⟩
  · rintro j S ⟨s3, s4, s5, Z, rfl⟩
    rw [gV]; rfl
  · rintro j d S hj ⟨s3, s4, s5, Z, rfl⟩
    have q := bl d (List.mem_of_getElem? hj)
    have q1 := fun st => both_n rpW q st
    have q2 := fun st => both_n (w := .non) rfl q st
    rw [bind_bnd]
    simp! [bnd_bnd, q1, q2]
    exact wp_ok ⟨_, _, _, _, rfl⟩
  · rintro S ⟨s3, s4, s5, Z, rfl⟩
    exact ⟨rfl, _, _, _, _, rfl⟩
  rintro f S ⟨rfl, s3, s4, s5, Z, rfl⟩
  have hP0k : P0.ls.length ≤ 50 := (hp P0 (by rw [hP0]; exact List.mem_cons_self)).n
  have hx1 : ∀ S : Sg, opIx (.p (pltD P0)) (.p (.int 0)) S = .ok (.p (.scr (lvD P0.ls))) S := fun S => Eq.trans rfl rfl
  simp! [bnd_bnd, hx0, hx1, bad_plates_i hP0k]
  refine wpf_bnd (wp_imp (wp_loop (Q := fun f S => f = .nx ∧ ∃ c s3 s4 s5 Z, S = ⟨[some (.r n), some (.p (.lst (ps.map pltD))), some (.p (.tup [.int 0, .int 0, .int 1, .int 1])), s3, s4, s5, none, none, none], st.set n c ++ Z⟩ ∧ BagC c (C + 900)) (I := fun j S => ∃ c s3 s4 s5 Z2, S = ⟨[some (.r n), some (.p (.lst (ps.map pltD))), some (.p (.tup [.int 0, .int 0, .int 1, .int 1])), s3, s4, s5, none, none, none], st.set n c ++ (Z ++ (.mu (.lst (badP P0.ls)) :: Z2))⟩ ∧ BagC c (C + 781 + j)) ?_ ?_ ?_ ?_) ?_)
  · exact ⟨_, _, _, _, [], rfl, B2⟩
  · rintro j S ⟨c, s3, s4, s5, Z2, rfl, B⟩
    simp! []
  · rintro j d S hj ⟨c, s3, s4, s5, Z2, rfl, B⟩
    have j32 : j < 32 := (List.getElem?_eq_some_iff.mp hj).1
    have bp := badP_ok hP0k (List.mem_of_getElem? hj)
    rw [bind_bnd]
    simp! [bnd_bnd, List.length_map]
    refine wp_bnd (wp_draw (pick_d (m := (ps.length : Int)) (by omega) (by omega)) hn B (by omega) fun _ c3 ⟨v3, e, a3, b3⟩ B3 => ?_); subst e
    obtain ⟨a, rfl⟩ : ∃ a : Nat, v3 = (a : Int) := ⟨v3.toNat, by omega⟩
    have al : a < ps.length := by omega
    obtain ⟨T, hr, hl, hs, he⟩ := itoa (n := a) (by omega)
    have o1 : ∀ S : Sg, opSl (.p (.lst (ps.map pltD))) none (some (a : Int)) S = .ok (.r S.st.length) ⟨S.sl, S.st ++ [.mu (.lst ((ps.map pltD).take a))]⟩ := fun S => by rw [opSl_l (by omega), cutD_to]
    have o2 : ∀ S : Sg, opSl (.p (.lst (ps.map pltD))) (some ((a : Int) + 1)) none S = .ok (.r S.st.length) ⟨S.sl, S.st ++ [.mu (.lst ((ps.map pltD).drop (a + 1)))]⟩ := fun S => by
      rw [opSl_l (by omega), show ((a : Int) + 1) = ((a + 1 : Nat) : Int) by omega, cutD_from]
    have o3 : ∀ (m : Nat) (S : Sg), S.st[m]? = some (.mu (.lst [d, .non])) → opSl (.r m) none (some (3 - (a : Int))) S = .ok (.r S.st.length) ⟨S.sl, S.st ++ [.mu (.lst ([d, .non].take (3 - a)))]⟩ := fun m S h => by
      rw [show (3 - (a : Int)) = ((3 - a : Nat) : Int) by omega]
      exact sl_c h (by simp)
    have c1 : ((ps.map pltD).take a).length + [d].length ≤ 1000 := by rw [List.length_take]; simp; omega
    have c2 : ((ps.map pltD).take a ++ [d]).length + ((ps.map pltD).drop (a + 1)).length ≤ 1000 := by simp; omega
    have c4 : ((ps.map pltD).take a).length + ([d, .non].take (3 - a)).length ≤ 1000 := by simp; omega
    have sT : ∀ S : Sg, opAdd (.p (.str (Str.ofString "InvalidPlates "))) (.p (.str T)) S = .ok (.p (.str (Str.ofString "InvalidPlates " ++ T))) S := fun S => opAdd_sx (by rw [show (Str.ofString "InvalidPlates ").length = 14 from by decide]; omega)
    simp! [bnd_bnd, slE_ap, opt0_ap, opt1_ap, opt1K_i, o1, o2, o3, opAdd_rr, catK_ap c1, catK_ap c2, catK_ap c4]
    have ta : ((ps.map pltD).take a).length = a := by rw [List.length_take, List.length_map]; omega
    have rq : ∀ R : List D, a + 1 + R.length ≤ 3 → ∀ st, s_require_plates [.p (.lst ((ps.map pltD).take a ++ d :: R)), .p (.int 3)] st = .exc ⟨102, .int (a : Int)⟩ st := fun R hR st => by
      refine require_plates_b (m := 3) (by rw [List.length_append, List.length_cons]; omega) (by rw [List.length_append, ta, List.length_cons]; omega) (by rw [List.getElem?_append_right (by omega), ta, Nat.sub_self]; rfl) bp (fun i d' hi hd' => ?_) st
      rw [List.getElem?_append_left (by omega), List.getElem?_take_of_lt hi, List.getElem?_map] at hd'
      cases q : ps[i]? with
      | none => rw [q] at hd'; cases hd'
      | some P =>
        rw [q] at hd'
        cases hd'
        exact ⟨P, hp P (List.mem_of_getElem? q), rfl⟩
    have t2 : [d, D.non].take (3 - a) = d :: [D.non].take (2 - a) := by rw [show 3 - a = (2 - a) + 1 by omega]; rfl
    have rqs : ∀ l ∈ ([.lst ((ps.map pltD).take a ++ d :: (ps.map pltD).drop (a + 1)), .lst ((ps.map pltD).take a ++ [d, D.non].take (3 - a))] : List D), ∀ st, s_z_law_both [.p l, .p .non, .p (.str (Str.ofString "InvalidPlates " ++ T))] st = .ok (.val (.bl true)) st := by
      intro l hl' st
      simp only [List.mem_cons, List.not_mem_nil, or_false] at hl'
      rcases hl' with rfl | rfl
      · exact both_b hr hl hs he (rq _ (by rw [List.length_drop, List.length_map]; omega)) st
      · rw [t2]
        exact both_b hr hl hs he (rq _ (by rw [List.length_take]; simp; omega)) st
    generalize hLL : ([.lst ((ps.map pltD).take a ++ d :: (ps.map pltD).drop (a + 1)), .lst ((ps.map pltD).take a ++ [d, D.non].take (3 - a))] : List D) = LL at *
    generalize hU : Z2 ++ _ = U
    refine wp_imp (wp_loop (Q := fun f S => f = .nx ∧ ∃ s5, S = ⟨[some (.r n), some (.p (.lst (ps.map pltD))), some (.p (.tup [.int 0, .int 0, .int 1, .int 1])), some (.p d), some (.p (.int (a : Int))), s5, none, none, none], st.set n c3 ++ (Z ++ (.mu (.lst (badP P0.ls)) :: U))⟩) (I := fun _ S => ∃ s5, S = ⟨[some (.r n), some (.p (.lst (ps.map pltD))), some (.p (.tup [.int 0, .int 0, .int 1, .int 1])), some (.p d), some (.p (.int (a : Int))), s5, none, none, none], st.set n c3 ++ (Z ++ (.mu (.lst (badP P0.ls)) :: U))⟩) ⟨_, rfl⟩ (fun _ _ _ => trivial) ?_ (fun S h => ⟨rfl, h⟩)) ?_
    · rintro i l S hi ⟨s5, rfl⟩
      have q := rqs l (List.mem_of_getElem? hi)
      rw [bind_bnd]
      simp! [bnd_bnd, hr, sT, q]
      exact wp_ok ⟨_, rfl⟩
    · rintro f S ⟨rfl, s5, rfl⟩
      exact ⟨_, _, _, _, _, rfl, B3⟩
  · rintro S ⟨c, s3, s4, s5, Z2, rfl, B⟩
    exact ⟨rfl, c, _, _, _, _, rfl, BagC.mono B (by show C + 781 + 32 ≤ _; omega)⟩
  rintro f S ⟨rfl, c3, s3, s4, s5, Z, rfl, B3⟩
  have rp := fun st => require_plates_ok hp (m := 3) p1 p3 st
  simp only [Int.cast_ofNat_Int] at rp
  simp! [bnd_bnd, bad_windows_i]
  refine wpf_bnd (wp_imp (wp_loop (Q := fun f S => f = .nx ∧ ∃ s3 s4 s5 Z, S = ⟨[some (.r n), some (.p (.lst (ps.map pltD))), some (.p (.tup [.int 0, .int 0, .int 1, .int 1])), s3, s4, s5, none, none, none], st.set n c3 ++ Z⟩) (I := fun j S => ∃ s3 s4 s5 Z2, S = ⟨[some (.r n), some (.p (.lst (ps.map pltD))), some (.p (.tup [.int 0, .int 0, .int 1, .int 1])), s3, s4, s5, none, none, none], st.set n c3 ++ (Z ++ (.mu (.lst badW) :: Z2))⟩) ?_ ?_ ?_ ?_) ?_)
  · exact ⟨_, _, _, [], rfl⟩
  · rintro j S ⟨s3, s4, s5, Z2, rfl⟩
    simp! []
  · rintro j d S hj ⟨s3, s4, s5, Z2, rfl⟩
    obtain ⟨hd, ht, hs⟩ := badW_ok (List.mem_of_getElem? hj)
    have hr : rpOk d = true := by
      have h : badW.all rpOk = true := by decide +kernel
      exact List.all_eq_true.mp h d (List.mem_of_getElem? hj)
    have cw : ∀ st, s_z_law_class_v2 [.p (.exn 110 .non)] st = .ok (.val (.str (Str.ofString "InvalidWindow"))) st := fun st => class_w (k := 110) (by decide) (by decide) st
    have q := fun st => both_i (a := .lst (ps.map pltD)) (w := d) (s := Str.ofString "InvalidWindow") (by decide +kernel) (told0 hr (by decide) (ic_w rp hd ht hs) cw) (told1 hr (by decide) (cv_w rp hd ht hs) cw) st
    rw [bind_bnd]
    simp! [bnd_bnd, q]
    exact wp_ok ⟨_, _, _, _, rfl⟩
  · rintro S ⟨s3, s4, s5, Z2, rfl⟩
    exact ⟨rfl, _, _, _, _, rfl⟩
  rintro f S ⟨rfl, s3, s4, s5, Z, rfl⟩
  have ok0 := hp P0 (by rw [hP0]; exact List.mem_cons_self)
  have m1 : -(1000000000000000000000000000000 : Int) ≤ (1000000000000000000000000000000 : Int) := by decide
  have n0 : (0 : Int) ≤ 4 ^ P0.ls.length := by have := ok0.k0; have := ok0.k1; omega
  have g1 : ∀ st, s_z_law_both [.p (.lst [.tup [.scr (lvD P0.ls), .int 0, .int (1000000000000000000000000000000 : Int), .int (-(1000000000000000000000000000000 : Int))], .tup [.scr (lvD P0.ls), .int (4 ^ P0.ls.length), .int (-(1000000000000000000000000000000 : Int)), .int (1000000000000000000000000000000 : Int)]]), .p (.tup [.int (1000000000000000000000000000000 : Int), .int (-(1000000000000000000000000000000 : Int)), .int (1000000000000000000000000000000 : Int), .int (1000000000000000000000000000000 : Int)]), .p (.str (Str.ofString "fine"))] st = .ok (.val (.bl true)) st := fun st => by
    have h2 : ∀ P ∈ [(⟨P0.ls, 0, (1000000000000000000000000000000 : Int), -(1000000000000000000000000000000 : Int)⟩ : Plt), ⟨P0.ls, 4 ^ P0.ls.length, -(1000000000000000000000000000000 : Int), (1000000000000000000000000000000 : Int)⟩], PltOk P := fun P hP => by
      simp only [List.mem_cons, List.not_mem_nil, or_false] at hP
      rcases hP with rfl | rfl
      · exact ⟨ok0.p, ok0.n1, ok0.n, Int.le_refl _, n0, m1, Int.le_refl _, Int.le_refl _, m1⟩
      · exact ⟨ok0.p, ok0.n1, ok0.n, n0, Int.le_refl _, Int.le_refl _, m1, m1, Int.le_refl _⟩
    have W1 : WinOk (1000000000000000000000000000000 : Int) (-(1000000000000000000000000000000 : Int)) (1000000000000000000000000000000 : Int) (1000000000000000000000000000000 : Int) := by unfold WinOk; decide
    exact both_i (a := .lst ([(⟨P0.ls, 0, (1000000000000000000000000000000 : Int), -(1000000000000000000000000000000 : Int)⟩ : Plt), ⟨P0.ls, 4 ^ P0.ls.length, -(1000000000000000000000000000000 : Int), (1000000000000000000000000000000 : Int)⟩].map pltD)) (w := winD (1000000000000000000000000000000 : Int) (-(1000000000000000000000000000000 : Int)) (1000000000000000000000000000000 : Int) (1000000000000000000000000000000 : Int)) (by decide +kernel) (told0f (by decide +kernel) fun st => ⟨_, ink_counts_i h2 (show 1 ≤ 2 by decide) (show 2 ≤ 3 by decide) W1 st⟩) (told1f (by decide +kernel) fun st => ⟨_, covered_i h2 (show 1 ≤ 2 by decide) (show 2 ≤ 3 by decide) W1 st⟩) st
  have g2 : ∀ st, s_z_law_both [.p (.lst (ps.map pltD)), .p (.tup [.int (-(1000000000000000000000000000000 : Int)), .int (1000000000000000000000000000000 : Int), .int 1, .int 1]), .p (.str (Str.ofString "fine"))] st = .ok (.val (.bl true)) st := fun st => by
    have W1 : WinOk (-(1000000000000000000000000000000 : Int)) (1000000000000000000000000000000 : Int) 1 1 := by unfold WinOk; decide
    exact both_i (a := .lst (ps.map pltD)) (w := winD (-(1000000000000000000000000000000 : Int)) (1000000000000000000000000000000 : Int) 1 1) (by decide +kernel) (told0f (by decide +kernel) fun st => ⟨_, ink_counts_i hp p1 p3 W1 st⟩) (told1f (by decide +kernel) fun st => ⟨_, covered_i hp p1 p3 W1 st⟩) st
  simp! [bnd_bnd, pw30, hx0, hx1, shades_p P0.ls hP0k, g1, g2]
  exact wpf_ok ⟨_, c3, rfl, rfl, rfl, BagC.mono B3 (by omega)⟩
theorem law_true : ∀ ns : List Int, ns.length ≤ 63 → ∃ st, s_law [.p (.scp (ns.map D.int))] [] = .ok (.val (.bl true)) st := by
  intro ns hn
  suffices h : WpF (s_law [.p (.scp (ns.map D.int))] []) fun a _ => a = .val (.bl true) by
    obtain ⟨_, st, e, rfl⟩ := h
    exact ⟨st, e⟩
  unfold s_law b_law
  simp! [bnd_bnd, slE_ap, opt0_ap, opt1_ci, opSl_scp (l := ns.map D.int) (by rw [List.length_map]; omega), opAdd_rr, cutD_6, catK_ap cells_len6]
  refine wpf_bnd (wp_loop (I := fun _ S => ∃ k1 k2 X, S = ⟨[some (.p (.scp (ns.map D.int))), k1, k2], X⟩ ∧ X[2]? = some (.mu (.lst ((ns.take 6).map D.int ++ [D.int 0])))) ?_ ?_ ?_ ?_)
  · exact ⟨_, _, _, rfl, rfl⟩
  · rintro j S ⟨k1, k2, X, rfl, hX⟩
    simp! [hX]
  · rintro j d S hj ⟨k1, k2, X, rfl, hX⟩
    obtain ⟨i, rfl⟩ := cell_at hj
    rw [bind_bnd]
    simp! [bnd_bnd, bag_i]
    refine wp_bnd (wp_drawE right_d (bag0 i) (by omega) fun v1 c1 e1 B1 => ?_); subst e1
    simp! [bnd_bnd]
    exact wp_ok ⟨_, _, _, rfl, get_old hX⟩
  · rintro S ⟨k1, k2, X, rfl, hX⟩
    simp! [bnd_bnd]
    exact wpf_ok rfl
end K29

set_option Elab.async false
set_option linter.all false
set_option maxRecDepth 100000
set_option maxHeartbeats 4000000
namespace K29
open PySem PySem.Spec PyProof.Rows L2 Dd Lib
theorem all_mk {P : Program} {w : World} {K : PySem.W.Frag} {h : Heap} {mg : Str → Option Value} {fa : Addr} (X : K.In h) (G : h.Ns mainGlobals mg) (hfa : mg "law" = some (.ref fa))
    {C0 : Addr}
    {C100 N100 : Addr} {q100 : Str} {bs100 sub100 : List Value} {hd100 ab100 : Bool} {sn100 : List Str} {col100 : Option Bool} {dd100 : Option Addr} {k0_100 k1_100 k2_100 k3_100 k5_100 : Option Value}
    {C101 N101 : Addr} {q101 : Str} {bs101 sub101 : List Value} {ab101 : Bool} {sn101 : List Str} {col101 : Option Bool} {dd101 : Option Addr} {k0_101 k1_101 k2_101 k3_101 k5_101 : Option Value}
    {fx101 : Addr} {xod101 xan101 : Option Addr} {xsl101 : Array (Option Value)} {xoc101 xdc101 xpm101 xcd101 xct101 : Value}
    {C102 N102 : Addr} {q102 : Str} {bs102 sub102 : List Value} {ab102 : Bool} {sn102 : List Str} {col102 : Option Bool} {dd102 : Option Addr} {k0_102 k1_102 k2_102 k3_102 k5_102 : Option Value}
    {fx102 : Addr} {xod102 xan102 : Option Addr} {xsl102 : Array (Option Value)} {xoc102 xdc102 xpm102 xcd102 xct102 : Value}
    {C103 N103 : Addr} {q103 : Str} {bs103 sub103 : List Value} {ab103 : Bool} {sn103 : List Str} {col103 : Option Bool} {dd103 : Option Addr} {k0_103 k1_103 k2_103 k3_103 k5_103 : Option Value}
    {fx103 : Addr} {xod103 xan103 : Option Addr} {xsl103 : Array (Option Value)} {xoc103 xdc103 xpm103 xcd103 xct103 : Value}
    {C104 N104 : Addr} {q104 : Str} {bs104 sub104 : List Value} {ab104 : Bool} {sn104 : List Str} {col104 : Option Bool} {dd104 : Option Addr} {k0_104 k1_104 k2_104 k3_104 k5_104 : Option Value}
    {fx104 : Addr} {xod104 xan104 : Option Addr} {xsl104 : Array (Option Value)} {xoc104 xdc104 xpm104 xcd104 xct104 : Value}
    {C105 N105 : Addr} {q105 : Str} {bs105 sub105 : List Value} {ab105 : Bool} {sn105 : List Str} {col105 : Option Bool} {dd105 : Option Addr} {k0_105 k1_105 k2_105 k3_105 k5_105 : Option Value}
    {fx105 : Addr} {xod105 xan105 : Option Addr} {xsl105 : Array (Option Value)} {xoc105 xdc105 xpm105 xcd105 xct105 : Value}
    {C106 N106 : Addr} {q106 : Str} {bs106 sub106 : List Value} {ab106 : Bool} {sn106 : List Str} {col106 : Option Bool} {dd106 : Option Addr} {k0_106 k1_106 k2_106 k3_106 k5_106 : Option Value}
    {fx106 : Addr} {xod106 xan106 : Option Addr} {xsl106 : Array (Option Value)} {xoc106 xdc106 xpm106 xcd106 xct106 : Value}
    {C107 N107 : Addr} {q107 : Str} {bs107 sub107 : List Value} {ab107 : Bool} {sn107 : List Str} {col107 : Option Bool} {dd107 : Option Addr} {k0_107 k1_107 k2_107 k3_107 k5_107 : Option Value}
    {fx107 : Addr} {xod107 xan107 : Option Addr} {xsl107 : Array (Option Value)} {xoc107 xdc107 xpm107 xcd107 xct107 : Value}
    {C108 N108 : Addr} {q108 : Str} {bs108 sub108 : List Value} {hd108 ab108 : Bool} {sn108 : List Str} {col108 : Option Bool} {dd108 : Option Addr} {k0_108 k1_108 k2_108 k3_108 k5_108 : Option Value}
    {C109 N109 : Addr} {q109 : Str} {bs109 sub109 : List Value} {hd109 ab109 : Bool} {sn109 : List Str} {col109 : Option Bool} {dd109 : Option Addr} {k0_109 k1_109 k2_109 k3_109 k5_109 : Option Value}
    {C110 N110 : Addr} {q110 : Str} {bs110 sub110 : List Value} {hd110 ab110 : Bool} {sn110 : List Str} {col110 : Option Bool} {dd110 : Option Addr} {k0_110 k1_110 k2_110 k3_110 k5_110 : Option Value}
    {C111 N111 : Addr} {q111 : Str} {bs111 sub111 : List Value} {hd111 ab111 : Bool} {sn111 : List Str} {col111 : Option Bool} {dd111 : Option Addr} {k0_111 k1_111 k2_111 k3_111 k5_111 : Option Value}
    {C112 N112 : Addr} {q112 : Str} {bs112 sub112 : List Value} {hd112 ab112 : Bool} {sn112 : List Str} {col112 : Option Bool} {dd112 : Option Addr} {k0_112 k1_112 k2_112 k3_112 k5_112 : Option Value}
    {C113 N113 : Addr} {q113 : Str} {bs113 sub113 : List Value} {hd113 ab113 : Bool} {sn113 : List Str} {col113 : Option Bool} {dd113 : Option Addr} {k0_113 k1_113 k2_113 k3_113 k5_113 : Option Value}
    {C114 N114 : Addr} {q114 : Str} {bs114 sub114 : List Value} {hd114 ab114 : Bool} {sn114 : List Str} {col114 : Option Bool} {dd114 : Option Addr} {k0_114 k1_114 k2_114 k3_114 k5_114 : Option Value}
    {C115 N115 : Addr} {q115 : Str} {bs115 sub115 : List Value} {hd115 ab115 : Bool} {sn115 : List Str} {col115 : Option Bool} {dd115 : Option Addr} {k0_115 k1_115 k2_115 k3_115 k5_115 : Option Value}
    {C116 N116 : Addr} {q116 : Str} {bs116 sub116 : List Value} {hd116 ab116 : Bool} {sn116 : List Str} {col116 : Option Bool} {dd116 : Option Addr} {k0_116 k1_116 k2_116 k3_116 k5_116 : Option Value}
    {C117 N117 : Addr} {q117 : Str} {bs117 sub117 : List Value} {hd117 ab117 : Bool} {sn117 : List Str} {col117 : Option Bool} {dd117 : Option Addr} {k0_117 k1_117 k2_117 k3_117 k5_117 : Option Value}
    {C118 N118 : Addr} {q118 : Str} {bs118 sub118 : List Value} {hd118 ab118 : Bool} {sn118 : List Str} {col118 : Option Bool} {dd118 : Option Addr} {k0_118 k1_118 k2_118 k3_118 k5_118 : Option Value}
    {C119 N119 : Addr} {q119 : Str} {bs119 sub119 : List Value} {hd119 ab119 : Bool} {sn119 : List Str} {col119 : Option Bool} {dd119 : Option Addr} {k0_119 k1_119 k2_119 k3_119 k5_119 : Option Value}
    {f0 : Addr} {od0 an0 : Option Addr} {sl0 : Array (Option Value)} {oc0 kV0 dc0 pm0 cd0 ct0 : Value}
    {f1 : Addr} {od1 an1 : Option Addr} {sl1 : Array (Option Value)} {oc1 kV1 dc1 pm1 cd1 ct1 : Value}
    {f2 : Addr} {od2 an2 : Option Addr} {sl2 : Array (Option Value)} {oc2 kV2 dc2 pm2 cd2 ct2 : Value}
    {f3 : Addr} {od3 an3 : Option Addr} {sl3 : Array (Option Value)} {oc3 kV3 dc3 pm3 cd3 ct3 : Value}
    {f4 : Addr} {od4 an4 : Option Addr} {sl4 : Array (Option Value)} {oc4 kV4 dc4 pm4 cd4 ct4 : Value}
    {p4 : Addr} {r4 : List Value}
    {f5 : Addr} {od5 an5 : Option Addr} {sl5 : Array (Option Value)} {oc5 kV5 dc5 pm5 cd5 ct5 : Value}
    {f6 : Addr} {od6 an6 : Option Addr} {sl6 : Array (Option Value)} {oc6 kV6 dc6 pm6 cd6 ct6 : Value}
    {p6 : Addr} {r6 : List Value}
    {f7 : Addr} {od7 an7 : Option Addr} {sl7 : Array (Option Value)} {oc7 kV7 dc7 pm7 cd7 ct7 : Value}
    {f8 : Addr} {od8 an8 : Option Addr} {sl8 : Array (Option Value)} {oc8 kV8 dc8 pm8 cd8 ct8 : Value}
    {f9 : Addr} {od9 an9 : Option Addr} {sl9 : Array (Option Value)} {oc9 kV9 dc9 pm9 cd9 ct9 : Value}
    {f10 : Addr} {od10 an10 : Option Addr} {sl10 : Array (Option Value)} {oc10 kV10 dc10 pm10 cd10 ct10 : Value}
    {f11 : Addr} {od11 an11 : Option Addr} {sl11 : Array (Option Value)} {oc11 kV11 dc11 pm11 cd11 ct11 : Value}
    {f12 : Addr} {od12 an12 : Option Addr} {sl12 : Array (Option Value)} {oc12 kV12 dc12 pm12 cd12 ct12 : Value}
    {f13 : Addr} {od13 an13 : Option Addr} {sl13 : Array (Option Value)} {oc13 kV13 dc13 pm13 cd13 ct13 : Value}
    {f14 : Addr} {od14 an14 : Option Addr} {sl14 : Array (Option Value)} {oc14 kV14 dc14 pm14 cd14 ct14 : Value}
    {f15 : Addr} {od15 an15 : Option Addr} {sl15 : Array (Option Value)} {oc15 kV15 dc15 pm15 cd15 ct15 : Value}
    {f16 : Addr} {od16 an16 : Option Addr} {sl16 : Array (Option Value)} {oc16 kV16 dc16 pm16 cd16 ct16 : Value}
    {f17 : Addr} {od17 an17 : Option Addr} {sl17 : Array (Option Value)} {oc17 kV17 dc17 pm17 cd17 ct17 : Value}
    {f18 : Addr} {od18 an18 : Option Addr} {sl18 : Array (Option Value)} {oc18 kV18 dc18 pm18 cd18 ct18 : Value}
    {f19 : Addr} {od19 an19 : Option Addr} {sl19 : Array (Option Value)} {oc19 kV19 dc19 pm19 cd19 ct19 : Value}
    {f20 : Addr} {od20 an20 : Option Addr} {sl20 : Array (Option Value)} {oc20 kV20 dc20 pm20 cd20 ct20 : Value}
    {f21 : Addr} {od21 an21 : Option Addr} {sl21 : Array (Option Value)} {oc21 kV21 dc21 pm21 cd21 ct21 : Value}
    {p21 : Addr} {r21 : List Value}
    {f22 : Addr} {od22 an22 : Option Addr} {sl22 : Array (Option Value)} {oc22 kV22 dc22 pm22 cd22 ct22 : Value}
    {f23 : Addr} {od23 an23 : Option Addr} {sl23 : Array (Option Value)} {oc23 kV23 dc23 pm23 cd23 ct23 : Value}
    {f24 : Addr} {od24 an24 : Option Addr} {sl24 : Array (Option Value)} {oc24 kV24 dc24 pm24 cd24 ct24 : Value}
    {f25 : Addr} {od25 an25 : Option Addr} {sl25 : Array (Option Value)} {oc25 kV25 dc25 pm25 cd25 ct25 : Value}
    {f26 : Addr} {od26 an26 : Option Addr} {sl26 : Array (Option Value)} {oc26 kV26 dc26 pm26 cd26 ct26 : Value}
    {f27 : Addr} {od27 an27 : Option Addr} {sl27 : Array (Option Value)} {oc27 kV27 dc27 pm27 cd27 ct27 : Value}
    {f28 : Addr} {od28 an28 : Option Addr} {sl28 : Array (Option Value)} {oc28 kV28 dc28 pm28 cd28 ct28 : Value}
    {f29 : Addr} {od29 an29 : Option Addr} {sl29 : Array (Option Value)} {oc29 kV29 dc29 pm29 cd29 ct29 : Value}
    {f30 : Addr} {od30 an30 : Option Addr} {sl30 : Array (Option Value)} {oc30 kV30 dc30 pm30 cd30 ct30 : Value}
    {f31 : Addr} {od31 an31 : Option Addr} {sl31 : Array (Option Value)} {oc31 kV31 dc31 pm31 cd31 ct31 : Value}
    {f32 : Addr} {od32 an32 : Option Addr} {sl32 : Array (Option Value)} {oc32 kV32 dc32 pm32 cd32 ct32 : Value}
    {f33 : Addr} {od33 an33 : Option Addr} {sl33 : Array (Option Value)} {oc33 kV33 dc33 pm33 cd33 ct33 : Value}
    {f34 : Addr} {od34 an34 : Option Addr} {sl34 : Array (Option Value)} {oc34 kV34 dc34 pm34 cd34 ct34 : Value}
    {t_MOST_INKS : Tok}
    {t_MOST_LEVELS : Tok}
    {t_MOST_PLACE : Tok}
    (aC0 : PySem.W.nsIn K mainGlobals "Screen" = some (some (.ref C0)))
    (pg0 : PySem.W.plainGet K C0 Str.empty = true)
    (hd0 : PySem.W.hasDictIn K C0 = true)
    (po0 : PySem.W.plainOver K C0 = true)
    (sa0 : PySem.W.findIn K (.ref C0) "__setattr__" = some (some (.builtin "object.__setattr__")))
    (mk0 : PySem.W.makesIn K C0 = true)
    (kc0 : PySem.W.keepIn K (.ref C0) = true)
    (ha0 : PySem.W.findIn K (.ref C0) "__class__" = some (some (.builtin "object.__class__")))
    (hn0 : PySem.W.specialIn K (.builtin "object.__class__") "__get__" = some (some (.builtin "getset_descriptor.__get__")))
    (tk0 : PySem.W.takesIn K (.builtin "object.__class__") = some true)
    (mro0 : PySem.W.mroIn K C0 (.type "object") = some true)
    (ty0 : PySem.W.typeIn K (.ref C0) = some (.type "type"))
    (y0bool : PySem.W.subIn K (.ref C0) (.type "bool") = some false)
    (y0int : PySem.W.subIn K (.ref C0) (.type "int") = some false)
    (y0str : PySem.W.subIn K (.ref C0) (.type "str") = some false)
    (y0tuple : PySem.W.subIn K (.ref C0) (.type "tuple") = some false)
    (y0list : PySem.W.subIn K (.ref C0) (.type "list") = some false)
    (y0dict : PySem.W.subIn K (.ref C0) (.type "dict") = some false)
    (z0NoneType : PySem.W.subIn K (.type "NoneType") (.ref C0) = some false)
    (z0bool : PySem.W.subIn K (.type "bool") (.ref C0) = some false)
    (z0int : PySem.W.subIn K (.type "int") (.ref C0) = some false)
    (z0str : PySem.W.subIn K (.type "str") (.ref C0) = some false)
    (z0tuple : PySem.W.subIn K (.type "tuple") (.ref C0) = some false)
    (z0list : PySem.W.subIn K (.type "list") (.ref C0) = some false)
    (z0dict : PySem.W.subIn K (.type "dict") (.ref C0) = some false)
    (nf0own_levels : PySem.W.findIn K (.ref C0) "own_levels" = some none)
    (xhn : PySem.W.specialIn K (.builtin "object.__class__") "__get__" = some (some (.builtin "getset_descriptor.__get__")))
    (xtk : PySem.W.takesIn K (.builtin "object.__class__") = some true)
    (ax100 : PySem.W.nsIn K mainGlobals "DitherError" = some (some (.ref C100)))
    (xo100 : K.lookup C100 = some (excClassObj "DitherError" q100 C100 N100 bs100 [.type "ValueError", .type "Exception", .type "BaseException", .type "object"] hd100 sn100 sub100 ab100 col100 dd100 k0_100 k1_100 k2_100 k3_100 k5_100 "ValueError.__new__"))
    (xa100 : PySem.W.findIn K (.ref C100) "__getattribute__" = some (some (.builtin "BaseException.__getattribute__")))
    (xg100 : PySem.W.findIn K (.ref C100) "__getattr__" = some none)
    (xh100 : PySem.W.findIn K (.ref C100) "__class__" = some (some (.builtin "object.__class__")))
    (xk100 : PySem.W.keepIn K (.ref C100) = true)
    (ax101 : PySem.W.nsIn K mainGlobals "InvalidLevels" = some (some (.ref C101)))
    (xo101 : K.lookup C101 = some (excClassObj "InvalidLevels" q101 C101 N101 bs101 [.ref C100, .type "ValueError", .type "Exception", .type "BaseException", .type "object"] true sn101 sub101 ab101 col101 dd101 k0_101 k1_101 k2_101 k3_101 k5_101 "ValueError.__new__"))
    (xa101 : PySem.W.findIn K (.ref C101) "__getattribute__" = some (some (.builtin "BaseException.__getattribute__")))
    (xg101 : PySem.W.findIn K (.ref C101) "__getattr__" = some none)
    (xh101 : PySem.W.findIn K (.ref C101) "__class__" = some (some (.builtin "object.__class__")))
    (xk101 : PySem.W.keepIn K (.ref C101) = true)
    (xs101 : PySem.W.findIn K (.ref C101) "__setattr__" = some (some (.builtin "object.__setattr__")))
    (xn101 : PySem.W.findIn K (.ref C101) "level" = some none)
    (xd101 : PySem.W.hasDictIn K C101 = true)
    (xt101 : PySem.W.findIn K (.ref C101) "__init__" = some (some (.ref fx101)))
    (xf101 : PySem.W.typeIn K (.ref fx101) = some (.type "function"))
    (xl101 : K.lookup fx101 = some ⟨xoc101, xod101, .func (PySem.W.fnOf "__init__" "InvalidLevels.__init__" (defArgs (inClass (top 5) 0)) (defBody (inClass (top 5) 0)) (defScope (inClass (top 5) 0)) .none .none xdc101 xpm101 xan101 xcd101 xct101), xsl101⟩)
    (xc101 : PySem.W.codeIn K xcd101 "InvalidLevels.__init__" = true)
    (ax102 : PySem.W.nsIn K mainGlobals "InvalidPlates" = some (some (.ref C102)))
    (xo102 : K.lookup C102 = some (excClassObj "InvalidPlates" q102 C102 N102 bs102 [.ref C100, .type "ValueError", .type "Exception", .type "BaseException", .type "object"] true sn102 sub102 ab102 col102 dd102 k0_102 k1_102 k2_102 k3_102 k5_102 "ValueError.__new__"))
    (xa102 : PySem.W.findIn K (.ref C102) "__getattribute__" = some (some (.builtin "BaseException.__getattribute__")))
    (xg102 : PySem.W.findIn K (.ref C102) "__getattr__" = some none)
    (xh102 : PySem.W.findIn K (.ref C102) "__class__" = some (some (.builtin "object.__class__")))
    (xk102 : PySem.W.keepIn K (.ref C102) = true)
    (xs102 : PySem.W.findIn K (.ref C102) "__setattr__" = some (some (.builtin "object.__setattr__")))
    (xn102 : PySem.W.findIn K (.ref C102) "item" = some none)
    (xd102 : PySem.W.hasDictIn K C102 = true)
    (xt102 : PySem.W.findIn K (.ref C102) "__init__" = some (some (.ref fx102)))
    (xf102 : PySem.W.typeIn K (.ref fx102) = some (.type "function"))
    (xl102 : K.lookup fx102 = some ⟨xoc102, xod102, .func (PySem.W.fnOf "__init__" "InvalidPlates.__init__" (defArgs (inClass (top 6) 0)) (defBody (inClass (top 6) 0)) (defScope (inClass (top 6) 0)) .none .none xdc102 xpm102 xan102 xcd102 xct102), xsl102⟩)
    (xc102 : PySem.W.codeIn K xcd102 "InvalidPlates.__init__" = true)
    (ax103 : PySem.W.nsIn K mainGlobals "InvalidConditions" = some (some (.ref C103)))
    (xo103 : K.lookup C103 = some (excClassObj "InvalidConditions" q103 C103 N103 bs103 [.ref C100, .type "ValueError", .type "Exception", .type "BaseException", .type "object"] true sn103 sub103 ab103 col103 dd103 k0_103 k1_103 k2_103 k3_103 k5_103 "ValueError.__new__"))
    (xa103 : PySem.W.findIn K (.ref C103) "__getattribute__" = some (some (.builtin "BaseException.__getattribute__")))
    (xg103 : PySem.W.findIn K (.ref C103) "__getattr__" = some none)
    (xh103 : PySem.W.findIn K (.ref C103) "__class__" = some (some (.builtin "object.__class__")))
    (xk103 : PySem.W.keepIn K (.ref C103) = true)
    (xs103 : PySem.W.findIn K (.ref C103) "__setattr__" = some (some (.builtin "object.__setattr__")))
    (xn103 : PySem.W.findIn K (.ref C103) "item" = some none)
    (xd103 : PySem.W.hasDictIn K C103 = true)
    (xt103 : PySem.W.findIn K (.ref C103) "__init__" = some (some (.ref fx103)))
    (xf103 : PySem.W.typeIn K (.ref fx103) = some (.type "function"))
    (xl103 : K.lookup fx103 = some ⟨xoc103, xod103, .func (PySem.W.fnOf "__init__" "InvalidConditions.__init__" (defArgs (inClass (top 7) 0)) (defBody (inClass (top 7) 0)) (defScope (inClass (top 7) 0)) .none .none xdc103 xpm103 xan103 xcd103 xct103), xsl103⟩)
    (xc103 : PySem.W.codeIn K xcd103 "InvalidConditions.__init__" = true)
    (ax104 : PySem.W.nsIn K mainGlobals "InvalidSeen" = some (some (.ref C104)))
    (xo104 : K.lookup C104 = some (excClassObj "InvalidSeen" q104 C104 N104 bs104 [.ref C100, .type "ValueError", .type "Exception", .type "BaseException", .type "object"] true sn104 sub104 ab104 col104 dd104 k0_104 k1_104 k2_104 k3_104 k5_104 "ValueError.__new__"))
    (xa104 : PySem.W.findIn K (.ref C104) "__getattribute__" = some (some (.builtin "BaseException.__getattribute__")))
    (xg104 : PySem.W.findIn K (.ref C104) "__getattr__" = some none)
    (xh104 : PySem.W.findIn K (.ref C104) "__class__" = some (some (.builtin "object.__class__")))
    (xk104 : PySem.W.keepIn K (.ref C104) = true)
    (xs104 : PySem.W.findIn K (.ref C104) "__setattr__" = some (some (.builtin "object.__setattr__")))
    (xn104 : PySem.W.findIn K (.ref C104) "item" = some none)
    (xd104 : PySem.W.hasDictIn K C104 = true)
    (xt104 : PySem.W.findIn K (.ref C104) "__init__" = some (some (.ref fx104)))
    (xf104 : PySem.W.typeIn K (.ref fx104) = some (.type "function"))
    (xl104 : K.lookup fx104 = some ⟨xoc104, xod104, .func (PySem.W.fnOf "__init__" "InvalidSeen.__init__" (defArgs (inClass (top 8) 0)) (defBody (inClass (top 8) 0)) (defScope (inClass (top 8) 0)) .none .none xdc104 xpm104 xan104 xcd104 xct104), xsl104⟩)
    (xc104 : PySem.W.codeIn K xcd104 "InvalidSeen.__init__" = true)
    (ax105 : PySem.W.nsIn K mainGlobals "InvalidText" = some (some (.ref C105)))
    (xo105 : K.lookup C105 = some (excClassObj "InvalidText" q105 C105 N105 bs105 [.ref C100, .type "ValueError", .type "Exception", .type "BaseException", .type "object"] true sn105 sub105 ab105 col105 dd105 k0_105 k1_105 k2_105 k3_105 k5_105 "ValueError.__new__"))
    (xa105 : PySem.W.findIn K (.ref C105) "__getattribute__" = some (some (.builtin "BaseException.__getattribute__")))
    (xg105 : PySem.W.findIn K (.ref C105) "__getattr__" = some none)
    (xh105 : PySem.W.findIn K (.ref C105) "__class__" = some (some (.builtin "object.__class__")))
    (xk105 : PySem.W.keepIn K (.ref C105) = true)
    (xs105 : PySem.W.findIn K (.ref C105) "__setattr__" = some (some (.builtin "object.__setattr__")))
    (xn105 : PySem.W.findIn K (.ref C105) "part" = some none)
    (xd105 : PySem.W.hasDictIn K C105 = true)
    (xt105 : PySem.W.findIn K (.ref C105) "__init__" = some (some (.ref fx105)))
    (xf105 : PySem.W.typeIn K (.ref fx105) = some (.type "function"))
    (xl105 : K.lookup fx105 = some ⟨xoc105, xod105, .func (PySem.W.fnOf "__init__" "InvalidText.__init__" (defArgs (inClass (top 9) 0)) (defBody (inClass (top 9) 0)) (defScope (inClass (top 9) 0)) .none .none xdc105 xpm105 xan105 xcd105 xct105), xsl105⟩)
    (xc105 : PySem.W.codeIn K xcd105 "InvalidText.__init__" = true)
    (ax106 : PySem.W.nsIn K mainGlobals "TooDeep" = some (some (.ref C106)))
    (xo106 : K.lookup C106 = some (excClassObj "TooDeep" q106 C106 N106 bs106 [.ref C100, .type "ValueError", .type "Exception", .type "BaseException", .type "object"] true sn106 sub106 ab106 col106 dd106 k0_106 k1_106 k2_106 k3_106 k5_106 "ValueError.__new__"))
    (xa106 : PySem.W.findIn K (.ref C106) "__getattribute__" = some (some (.builtin "BaseException.__getattribute__")))
    (xg106 : PySem.W.findIn K (.ref C106) "__getattr__" = some none)
    (xh106 : PySem.W.findIn K (.ref C106) "__class__" = some (some (.builtin "object.__class__")))
    (xk106 : PySem.W.keepIn K (.ref C106) = true)
    (xs106 : PySem.W.findIn K (.ref C106) "__setattr__" = some (some (.builtin "object.__setattr__")))
    (xn106 : PySem.W.findIn K (.ref C106) "most" = some none)
    (xd106 : PySem.W.hasDictIn K C106 = true)
    (xt106 : PySem.W.findIn K (.ref C106) "__init__" = some (some (.ref fx106)))
    (xf106 : PySem.W.typeIn K (.ref fx106) = some (.type "function"))
    (xl106 : K.lookup fx106 = some ⟨xoc106, xod106, .func (PySem.W.fnOf "__init__" "TooDeep.__init__" (defArgs (inClass (top 10) 0)) (defBody (inClass (top 10) 0)) (defScope (inClass (top 10) 0)) .none .none xdc106 xpm106 xan106 xcd106 xct106), xsl106⟩)
    (xc106 : PySem.W.codeIn K xcd106 "TooDeep.__init__" = true)
    (ax107 : PySem.W.nsIn K mainGlobals "OverInk" = some (some (.ref C107)))
    (xo107 : K.lookup C107 = some (excClassObj "OverInk" q107 C107 N107 bs107 [.ref C100, .type "ValueError", .type "Exception", .type "BaseException", .type "object"] true sn107 sub107 ab107 col107 dd107 k0_107 k1_107 k2_107 k3_107 k5_107 "ValueError.__new__"))
    (xa107 : PySem.W.findIn K (.ref C107) "__getattribute__" = some (some (.builtin "BaseException.__getattribute__")))
    (xg107 : PySem.W.findIn K (.ref C107) "__getattr__" = some none)
    (xh107 : PySem.W.findIn K (.ref C107) "__class__" = some (some (.builtin "object.__class__")))
    (xk107 : PySem.W.keepIn K (.ref C107) = true)
    (xs107 : PySem.W.findIn K (.ref C107) "__setattr__" = some (some (.builtin "object.__setattr__")))
    (xn107 : PySem.W.findIn K (.ref C107) "count" = some none)
    (xd107 : PySem.W.hasDictIn K C107 = true)
    (xt107 : PySem.W.findIn K (.ref C107) "__init__" = some (some (.ref fx107)))
    (xf107 : PySem.W.typeIn K (.ref fx107) = some (.type "function"))
    (xl107 : K.lookup fx107 = some ⟨xoc107, xod107, .func (PySem.W.fnOf "__init__" "OverInk.__init__" (defArgs (inClass (top 11) 0)) (defBody (inClass (top 11) 0)) (defScope (inClass (top 11) 0)) .none .none xdc107 xpm107 xan107 xcd107 xct107), xsl107⟩)
    (xc107 : PySem.W.codeIn K xcd107 "OverInk.__init__" = true)
    (ax108 : PySem.W.nsIn K mainGlobals "InvalidScreen" = some (some (.ref C108)))
    (xo108 : K.lookup C108 = some (excClassObj "InvalidScreen" q108 C108 N108 bs108 [.ref C100, .type "ValueError", .type "Exception", .type "BaseException", .type "object"] hd108 sn108 sub108 ab108 col108 dd108 k0_108 k1_108 k2_108 k3_108 k5_108 "ValueError.__new__"))
    (xa108 : PySem.W.findIn K (.ref C108) "__getattribute__" = some (some (.builtin "BaseException.__getattribute__")))
    (xg108 : PySem.W.findIn K (.ref C108) "__getattr__" = some none)
    (xh108 : PySem.W.findIn K (.ref C108) "__class__" = some (some (.builtin "object.__class__")))
    (xk108 : PySem.W.keepIn K (.ref C108) = true)
    (ax109 : PySem.W.nsIn K mainGlobals "InvalidShade" = some (some (.ref C109)))
    (xo109 : K.lookup C109 = some (excClassObj "InvalidShade" q109 C109 N109 bs109 [.ref C100, .type "ValueError", .type "Exception", .type "BaseException", .type "object"] hd109 sn109 sub109 ab109 col109 dd109 k0_109 k1_109 k2_109 k3_109 k5_109 "ValueError.__new__"))
    (xa109 : PySem.W.findIn K (.ref C109) "__getattribute__" = some (some (.builtin "BaseException.__getattribute__")))
    (xg109 : PySem.W.findIn K (.ref C109) "__getattr__" = some none)
    (xh109 : PySem.W.findIn K (.ref C109) "__class__" = some (some (.builtin "object.__class__")))
    (xk109 : PySem.W.keepIn K (.ref C109) = true)
    (ax110 : PySem.W.nsIn K mainGlobals "InvalidWindow" = some (some (.ref C110)))
    (xo110 : K.lookup C110 = some (excClassObj "InvalidWindow" q110 C110 N110 bs110 [.ref C100, .type "ValueError", .type "Exception", .type "BaseException", .type "object"] hd110 sn110 sub110 ab110 col110 dd110 k0_110 k1_110 k2_110 k3_110 k5_110 "ValueError.__new__"))
    (xa110 : PySem.W.findIn K (.ref C110) "__getattribute__" = some (some (.builtin "BaseException.__getattribute__")))
    (xg110 : PySem.W.findIn K (.ref C110) "__getattr__" = some none)
    (xh110 : PySem.W.findIn K (.ref C110) "__class__" = some (some (.builtin "object.__class__")))
    (xk110 : PySem.W.keepIn K (.ref C110) = true)
    (xi110 : PySem.W.excIn K C110 [.type "ValueError", .type "Exception", .type "BaseException", .type "object"] "ValueError.__new__" = true)
    (ax111 : PySem.W.nsIn K mainGlobals "InvalidPlace" = some (some (.ref C111)))
    (xo111 : K.lookup C111 = some (excClassObj "InvalidPlace" q111 C111 N111 bs111 [.ref C100, .type "ValueError", .type "Exception", .type "BaseException", .type "object"] hd111 sn111 sub111 ab111 col111 dd111 k0_111 k1_111 k2_111 k3_111 k5_111 "ValueError.__new__"))
    (xa111 : PySem.W.findIn K (.ref C111) "__getattribute__" = some (some (.builtin "BaseException.__getattribute__")))
    (xg111 : PySem.W.findIn K (.ref C111) "__getattr__" = some none)
    (xh111 : PySem.W.findIn K (.ref C111) "__class__" = some (some (.builtin "object.__class__")))
    (xk111 : PySem.W.keepIn K (.ref C111) = true)
    (ax112 : PySem.W.nsIn K mainGlobals "InvalidSide" = some (some (.ref C112)))
    (xo112 : K.lookup C112 = some (excClassObj "InvalidSide" q112 C112 N112 bs112 [.ref C100, .type "ValueError", .type "Exception", .type "BaseException", .type "object"] hd112 sn112 sub112 ab112 col112 dd112 k0_112 k1_112 k2_112 k3_112 k5_112 "ValueError.__new__"))
    (xa112 : PySem.W.findIn K (.ref C112) "__getattribute__" = some (some (.builtin "BaseException.__getattribute__")))
    (xg112 : PySem.W.findIn K (.ref C112) "__getattr__" = some none)
    (xh112 : PySem.W.findIn K (.ref C112) "__class__" = some (some (.builtin "object.__class__")))
    (xk112 : PySem.W.keepIn K (.ref C112) = true)
    (ax113 : PySem.W.nsIn K mainGlobals "InvalidKind" = some (some (.ref C113)))
    (xo113 : K.lookup C113 = some (excClassObj "InvalidKind" q113 C113 N113 bs113 [.ref C100, .type "ValueError", .type "Exception", .type "BaseException", .type "object"] hd113 sn113 sub113 ab113 col113 dd113 k0_113 k1_113 k2_113 k3_113 k5_113 "ValueError.__new__"))
    (xa113 : PySem.W.findIn K (.ref C113) "__getattribute__" = some (some (.builtin "BaseException.__getattribute__")))
    (xg113 : PySem.W.findIn K (.ref C113) "__getattr__" = some none)
    (xh113 : PySem.W.findIn K (.ref C113) "__class__" = some (some (.builtin "object.__class__")))
    (xk113 : PySem.W.keepIn K (.ref C113) = true)
    (ax114 : PySem.W.nsIn K mainGlobals "InvalidNumber" = some (some (.ref C114)))
    (xo114 : K.lookup C114 = some (excClassObj "InvalidNumber" q114 C114 N114 bs114 [.ref C100, .type "ValueError", .type "Exception", .type "BaseException", .type "object"] hd114 sn114 sub114 ab114 col114 dd114 k0_114 k1_114 k2_114 k3_114 k5_114 "ValueError.__new__"))
    (xa114 : PySem.W.findIn K (.ref C114) "__getattribute__" = some (some (.builtin "BaseException.__getattribute__")))
    (xg114 : PySem.W.findIn K (.ref C114) "__getattr__" = some none)
    (xh114 : PySem.W.findIn K (.ref C114) "__class__" = some (some (.builtin "object.__class__")))
    (xk114 : PySem.W.keepIn K (.ref C114) = true)
    (ax115 : PySem.W.nsIn K mainGlobals "InvalidRows" = some (some (.ref C115)))
    (xo115 : K.lookup C115 = some (excClassObj "InvalidRows" q115 C115 N115 bs115 [.ref C100, .type "ValueError", .type "Exception", .type "BaseException", .type "object"] hd115 sn115 sub115 ab115 col115 dd115 k0_115 k1_115 k2_115 k3_115 k5_115 "ValueError.__new__"))
    (xa115 : PySem.W.findIn K (.ref C115) "__getattribute__" = some (some (.builtin "BaseException.__getattribute__")))
    (xg115 : PySem.W.findIn K (.ref C115) "__getattr__" = some none)
    (xh115 : PySem.W.findIn K (.ref C115) "__class__" = some (some (.builtin "object.__class__")))
    (xk115 : PySem.W.keepIn K (.ref C115) = true)
    (ax116 : PySem.W.nsIn K mainGlobals "InvalidLimit" = some (some (.ref C116)))
    (xo116 : K.lookup C116 = some (excClassObj "InvalidLimit" q116 C116 N116 bs116 [.ref C100, .type "ValueError", .type "Exception", .type "BaseException", .type "object"] hd116 sn116 sub116 ab116 col116 dd116 k0_116 k1_116 k2_116 k3_116 k5_116 "ValueError.__new__"))
    (xa116 : PySem.W.findIn K (.ref C116) "__getattribute__" = some (some (.builtin "BaseException.__getattribute__")))
    (xg116 : PySem.W.findIn K (.ref C116) "__getattr__" = some none)
    (xh116 : PySem.W.findIn K (.ref C116) "__class__" = some (some (.builtin "object.__class__")))
    (xk116 : PySem.W.keepIn K (.ref C116) = true)
    (ax117 : PySem.W.nsIn K mainGlobals "InvalidOperation" = some (some (.ref C117)))
    (xo117 : K.lookup C117 = some (excClassObj "InvalidOperation" q117 C117 N117 bs117 [.ref C100, .type "ValueError", .type "Exception", .type "BaseException", .type "object"] hd117 sn117 sub117 ab117 col117 dd117 k0_117 k1_117 k2_117 k3_117 k5_117 "ValueError.__new__"))
    (xa117 : PySem.W.findIn K (.ref C117) "__getattribute__" = some (some (.builtin "BaseException.__getattribute__")))
    (xg117 : PySem.W.findIn K (.ref C117) "__getattr__" = some none)
    (xh117 : PySem.W.findIn K (.ref C117) "__class__" = some (some (.builtin "object.__class__")))
    (xk117 : PySem.W.keepIn K (.ref C117) = true)
    (ax118 : PySem.W.nsIn K mainGlobals "Nothing" = some (some (.ref C118)))
    (xo118 : K.lookup C118 = some (excClassObj "Nothing" q118 C118 N118 bs118 [.ref C100, .type "ValueError", .type "Exception", .type "BaseException", .type "object"] hd118 sn118 sub118 ab118 col118 dd118 k0_118 k1_118 k2_118 k3_118 k5_118 "ValueError.__new__"))
    (xa118 : PySem.W.findIn K (.ref C118) "__getattribute__" = some (some (.builtin "BaseException.__getattribute__")))
    (xg118 : PySem.W.findIn K (.ref C118) "__getattr__" = some none)
    (xh118 : PySem.W.findIn K (.ref C118) "__class__" = some (some (.builtin "object.__class__")))
    (xk118 : PySem.W.keepIn K (.ref C118) = true)
    (ax119 : PySem.W.nsIn K mainGlobals "InvalidCommand" = some (some (.ref C119)))
    (xo119 : K.lookup C119 = some (excClassObj "InvalidCommand" q119 C119 N119 bs119 [.ref C100, .type "ValueError", .type "Exception", .type "BaseException", .type "object"] hd119 sn119 sub119 ab119 col119 dd119 k0_119 k1_119 k2_119 k3_119 k5_119 "ValueError.__new__"))
    (xa119 : PySem.W.findIn K (.ref C119) "__getattribute__" = some (some (.builtin "BaseException.__getattribute__")))
    (xg119 : PySem.W.findIn K (.ref C119) "__getattr__" = some none)
    (xh119 : PySem.W.findIn K (.ref C119) "__class__" = some (some (.builtin "object.__class__")))
    (xk119 : PySem.W.keepIn K (.ref C119) = true)
    (a0 : PySem.W.nsIn K mainGlobals "_law_bag" = some (some (.ref f0)))
    (l0 : K.lookup f0 = some ⟨oc0, od0, .func (PySem.W.fnOf "_law_bag" "_law_bag" (defArgs (top 53)) (defBody (top 53)) (defScope (top 53)) .none kV0 dc0 pm0 an0 cd0 ct0), sl0⟩)
    (c0 : PySem.W.codeIn K cd0 "_law_bag" = true)
    (k0 : PySem.W.keepIn K (.ref f0) = true)
    (a1 : PySem.W.nsIn K mainGlobals "is_int" = some (some (.ref f1)))
    (l1 : K.lookup f1 = some ⟨oc1, od1, .func (PySem.W.fnOf "is_int" "is_int" (defArgs (top 1)) (defBody (top 1)) (defScope (top 1)) .none kV1 dc1 pm1 an1 cd1 ct1), sl1⟩)
    (c1 : PySem.W.codeIn K cd1 "is_int" = true)
    (k1 : PySem.W.keepIn K (.ref f1) = true)
    (a2 : PySem.W.nsIn K mainGlobals "is_level" = some (some (.ref f2)))
    (l2 : K.lookup f2 = some ⟨oc2, od2, .func (PySem.W.fnOf "is_level" "is_level" (defArgs (top 30)) (defBody (top 30)) (defScope (top 30)) .none kV2 dc2 pm2 an2 cd2 ct2), sl2⟩)
    (c2 : PySem.W.codeIn K cd2 "is_level" = true)
    (k2 : PySem.W.keepIn K (.ref f2) = true)
    (a3 : PySem.W.findIn K (.ref C0) "__init__" = some (some (.ref f3)))
    (i3 : PySem.W.isFn K (.ref f3) = true)
    (l3 : K.lookup f3 = some ⟨oc3, od3, .func (PySem.W.fnOf "__init__" "Screen.__init__" (defArgs (inClass (top 31) 0)) (defBody (inClass (top 31) 0)) (defScope (inClass (top 31) 0)) .none kV3 dc3 pm3 an3 cd3 ct3), sl3⟩)
    (c3 : PySem.W.codeIn K cd3 "Screen.__init__" = true)
    (k3 : PySem.W.keepIn K (.ref f3) = true)
    (a4 : PySem.W.findIn K (.ref C0) "levels" = some (some (.ref p4)))
    (b4 : PySem.W.specialIn K (.ref p4) "__get__" = some (some (.builtin "property.__get__")))
    (d4 : PySem.W.takesIn K (.ref p4) = some true)
    (e4 : PySem.W.recIn K p4 "property" = some (.ref f4 :: r4))
    (l4 : K.lookup f4 = some ⟨oc4, od4, .func (PySem.W.fnOf "levels" "Screen.levels" (defArgs (inClass (top 31) 2)) (defBody (inClass (top 31) 2)) (defScope (inClass (top 31) 2)) .none kV4 dc4 pm4 an4 cd4 ct4), sl4⟩)
    (c4 : PySem.W.codeIn K cd4 "Screen.levels" = true)
    (k4 : PySem.W.keepIn K (.ref f4) = true)
    (a5 : PySem.W.nsIn K mainGlobals "_law_made" = some (some (.ref f5)))
    (l5 : K.lookup f5 = some ⟨oc5, od5, .func (PySem.W.fnOf "_law_made" "_law_made" (defArgs (top 58)) (defBody (top 58)) (defScope (top 58)) .none kV5 dc5 pm5 an5 cd5 ct5), sl5⟩)
    (c5 : PySem.W.codeIn K cd5 "_law_made" = true)
    (k5 : PySem.W.keepIn K (.ref f5) = true)
    (a6 : PySem.W.findIn K (.ref C0) "shades" = some (some (.ref p6)))
    (b6 : PySem.W.specialIn K (.ref p6) "__get__" = some (some (.builtin "property.__get__")))
    (d6 : PySem.W.takesIn K (.ref p6) = some true)
    (e6 : PySem.W.recIn K p6 "property" = some (.ref f6 :: r6))
    (l6 : K.lookup f6 = some ⟨oc6, od6, .func (PySem.W.fnOf "shades" "Screen.shades" (defArgs (inClass (top 31) 5)) (defBody (inClass (top 31) 5)) (defScope (inClass (top 31) 5)) .none kV6 dc6 pm6 an6 cd6 ct6), sl6⟩)
    (c6 : PySem.W.codeIn K cd6 "Screen.shades" = true)
    (k6 : PySem.W.keepIn K (.ref f6) = true)
    (a7 : PySem.W.nsIn K mainGlobals "_law_bad_plates" = some (some (.ref f7)))
    (l7 : K.lookup f7 = some ⟨oc7, od7, .func (PySem.W.fnOf "_law_bad_plates" "_law_bad_plates" (defArgs (top 63)) (defBody (top 63)) (defScope (top 63)) .none kV7 dc7 pm7 an7 cd7 ct7), sl7⟩)
    (c7 : PySem.W.codeIn K cd7 "_law_bad_plates" = true)
    (k7 : PySem.W.keepIn K (.ref f7) = true)
    (a8 : PySem.W.nsIn K mainGlobals "_law_bad_windows" = some (some (.ref f8)))
    (l8 : K.lookup f8 = some ⟨oc8, od8, .func (PySem.W.fnOf "_law_bad_windows" "_law_bad_windows" (defArgs (top 60)) (defBody (top 60)) (defScope (top 60)) .none kV8 dc8 pm8 an8 cd8 ct8), sl8⟩)
    (c8 : PySem.W.codeIn K cd8 "_law_bad_windows" = true)
    (k8 : PySem.W.keepIn K (.ref f8) = true)
    (a9 : PySem.W.nsIn K mainGlobals "_law_pick" = some (some (.ref f9)))
    (l9 : K.lookup f9 = some ⟨oc9, od9, .func (PySem.W.fnOf "_law_pick" "_law_pick" (defArgs (top 54)) (defBody (top 54)) (defScope (top 54)) .none kV9 dc9 pm9 an9 cd9 ct9), sl9⟩)
    (c9 : PySem.W.codeIn K cd9 "_law_pick" = true)
    (k9 : PySem.W.keepIn K (.ref f9) = true)
    (a10 : PySem.W.nsIn K mainGlobals "_law_levels" = some (some (.ref f10)))
    (l10 : K.lookup f10 = some ⟨oc10, od10, .func (PySem.W.fnOf "_law_levels" "_law_levels" (defArgs (top 55)) (defBody (top 55)) (defScope (top 55)) .none kV10 dc10 pm10 an10 cd10 ct10), sl10⟩)
    (c10 : PySem.W.codeIn K cd10 "_law_levels" = true)
    (k10 : PySem.W.keepIn K (.ref f10) = true)
    (a11 : PySem.W.nsIn K mainGlobals "_law_shade" = some (some (.ref f11)))
    (l11 : K.lookup f11 = some ⟨oc11, od11, .func (PySem.W.fnOf "_law_shade" "_law_shade" (defArgs (top 56)) (defBody (top 56)) (defScope (top 56)) .none kV11 dc11 pm11 an11 cd11 ct11), sl11⟩)
    (c11 : PySem.W.codeIn K cd11 "_law_shade" = true)
    (k11 : PySem.W.keepIn K (.ref f11) = true)
    (a12 : PySem.W.nsIn K mainGlobals "_law_plates" = some (some (.ref f12)))
    (l12 : K.lookup f12 = some ⟨oc12, od12, .func (PySem.W.fnOf "_law_plates" "_law_plates" (defArgs (top 57)) (defBody (top 57)) (defScope (top 57)) .none kV12 dc12 pm12 an12 cd12 ct12), sl12⟩)
    (c12 : PySem.W.codeIn K cd12 "_law_plates" = true)
    (k12 : PySem.W.keepIn K (.ref f12) = true)
    (a13 : PySem.W.nsIn K mainGlobals "_law_class" = some (some (.ref f13)))
    (l13 : K.lookup f13 = some ⟨oc13, od13, .func (PySem.W.fnOf "_law_class" "_law_class" (defArgs (top 59)) (defBody (top 59)) (defScope (top 59)) .none kV13 dc13 pm13 an13 cd13 ct13), sl13⟩)
    (c13 : PySem.W.codeIn K cd13 "_law_class" = true)
    (k13 : PySem.W.keepIn K (.ref f13) = true)
    (a14 : PySem.W.nsIn K mainGlobals "is_whole" = some (some (.ref f14)))
    (l14 : K.lookup f14 = some ⟨oc14, od14, .func (PySem.W.fnOf "is_whole" "is_whole" (defArgs (top 2)) (defBody (top 2)) (defScope (top 2)) .none kV14 dc14 pm14 an14 cd14 ct14), sl14⟩)
    (c14 : PySem.W.codeIn K cd14 "is_whole" = true)
    (k14 : PySem.W.keepIn K (.ref f14) = true)
    (a15 : PySem.W.nsIn K mainGlobals "is_shade" = some (some (.ref f15)))
    (l15 : K.lookup f15 = some ⟨oc15, od15, .func (PySem.W.fnOf "is_shade" "is_shade" (defArgs (top 29)) (defBody (top 29)) (defScope (top 29)) .none kV15 dc15 pm15 an15 cd15 ct15), sl15⟩)
    (c15 : PySem.W.codeIn K cd15 "is_shade" = true)
    (k15 : PySem.W.keepIn K (.ref f15) = true)
    (a16 : PySem.W.nsIn K mainGlobals "is_coordinate" = some (some (.ref f16)))
    (l16 : K.lookup f16 = some ⟨oc16, od16, .func (PySem.W.fnOf "is_coordinate" "is_coordinate" (defArgs (top 38)) (defBody (top 38)) (defScope (top 38)) .none kV16 dc16 pm16 an16 cd16 ct16), sl16⟩)
    (c16 : PySem.W.codeIn K cd16 "is_coordinate" = true)
    (k16 : PySem.W.keepIn K (.ref f16) = true)
    (a17 : PySem.W.nsIn K mainGlobals "is_plate" = some (some (.ref f17)))
    (l17 : K.lookup f17 = some ⟨oc17, od17, .func (PySem.W.fnOf "is_plate" "is_plate" (defArgs (top 39)) (defBody (top 39)) (defScope (top 39)) .none kV17 dc17 pm17 an17 cd17 ct17), sl17⟩)
    (c17 : PySem.W.codeIn K cd17 "is_plate" = true)
    (k17 : PySem.W.keepIn K (.ref f17) = true)
    (a18 : PySem.W.nsIn K mainGlobals "require_plates" = some (some (.ref f18)))
    (l18 : K.lookup f18 = some ⟨oc18, od18, .func (PySem.W.fnOf "require_plates" "require_plates" (defArgs (top 40)) (defBody (top 40)) (defScope (top 40)) .none kV18 dc18 pm18 an18 cd18 ct18), sl18⟩)
    (c18 : PySem.W.codeIn K cd18 "require_plates" = true)
    (k18 : PySem.W.keepIn K (.ref f18) = true)
    (a19 : PySem.W.nsIn K mainGlobals "is_window" = some (some (.ref f19)))
    (l19 : K.lookup f19 = some ⟨oc19, od19, .func (PySem.W.fnOf "is_window" "is_window" (defArgs (top 35)) (defBody (top 35)) (defScope (top 35)) .none kV19 dc19 pm19 an19 cd19 ct19), sl19⟩)
    (c19 : PySem.W.codeIn K cd19 "is_window" = true)
    (k19 : PySem.W.keepIn K (.ref f19) = true)
    (a20 : PySem.W.nsIn K mainGlobals "require_window" = some (some (.ref f20)))
    (l20 : K.lookup f20 = some ⟨oc20, od20, .func (PySem.W.fnOf "require_window" "require_window" (defArgs (top 36)) (defBody (top 36)) (defScope (top 36)) .none kV20 dc20 pm20 an20 cd20 ct20), sl20⟩)
    (c20 : PySem.W.codeIn K cd20 "require_window" = true)
    (k20 : PySem.W.keepIn K (.ref f20) = true)
    (a21 : PySem.W.findIn K (.ref C0) "depth" = some (some (.ref p21)))
    (b21 : PySem.W.specialIn K (.ref p21) "__get__" = some (some (.builtin "property.__get__")))
    (d21 : PySem.W.takesIn K (.ref p21) = some true)
    (e21 : PySem.W.recIn K p21 "property" = some (.ref f21 :: r21))
    (l21 : K.lookup f21 = some ⟨oc21, od21, .func (PySem.W.fnOf "depth" "Screen.depth" (defArgs (inClass (top 31) 3)) (defBody (inClass (top 31) 3)) (defScope (inClass (top 31) 3)) .none kV21 dc21 pm21 an21 cd21 ct21), sl21⟩)
    (c21 : PySem.W.codeIn K cd21 "Screen.depth" = true)
    (k21 : PySem.W.keepIn K (.ref f21) = true)
    (a22 : PySem.W.nsIn K mainGlobals "looks_of" = some (some (.ref f22)))
    (l22 : K.lookup f22 = some ⟨oc22, od22, .func (PySem.W.fnOf "looks_of" "looks_of" (defArgs (top 41)) (defBody (top 41)) (defScope (top 41)) .none kV22 dc22 pm22 an22 cd22 ct22), sl22⟩)
    (c22 : PySem.W.codeIn K cd22 "looks_of" = true)
    (k22 : PySem.W.keepIn K (.ref f22) = true)
    (a23 : PySem.W.nsIn K mainGlobals "bit_of" = some (some (.ref f23)))
    (l23 : K.lookup f23 = some ⟨oc23, od23, .func (PySem.W.fnOf "bit_of" "bit_of" (defArgs (top 42)) (defBody (top 42)) (defScope (top 42)) .none kV23 dc23 pm23 an23 cd23 ct23), sl23⟩)
    (c23 : PySem.W.codeIn K cd23 "bit_of" = true)
    (k23 : PySem.W.keepIn K (.ref f23) = true)
    (a24 : PySem.W.nsIn K mainGlobals "step_of" = some (some (.ref f24)))
    (l24 : K.lookup f24 = some ⟨oc24, od24, .func (PySem.W.fnOf "step_of" "step_of" (defArgs (top 43)) (defBody (top 43)) (defScope (top 43)) .none kV24 dc24 pm24 an24 cd24 ct24), sl24⟩)
    (c24 : PySem.W.codeIn K cd24 "step_of" = true)
    (k24 : PySem.W.keepIn K (.ref f24) = true)
    (a25 : PySem.W.nsIn K mainGlobals "may_be" = some (some (.ref f25)))
    (l25 : K.lookup f25 = some ⟨oc25, od25, .func (PySem.W.fnOf "may_be" "may_be" (defArgs (top 44)) (defBody (top 44)) (defScope (top 44)) .none kV25 dc25 pm25 an25 cd25 ct25), sl25⟩)
    (c25 : PySem.W.codeIn K cd25 "may_be" = true)
    (k25 : PySem.W.keepIn K (.ref f25) = true)
    (a26 : PySem.W.nsIn K mainGlobals "less_so_far" = some (some (.ref f26)))
    (l26 : K.lookup f26 = some ⟨oc26, od26, .func (PySem.W.fnOf "less_so_far" "less_so_far" (defArgs (top 45)) (defBody (top 45)) (defScope (top 45)) .none kV26 dc26 pm26 an26 cd26 ct26), sl26⟩)
    (c26 : PySem.W.codeIn K cd26 "less_so_far" = true)
    (k26 : PySem.W.keepIn K (.ref f26) = true)
    (a27 : PySem.W.nsIn K mainGlobals "tally" = some (some (.ref f27)))
    (l27 : K.lookup f27 = some ⟨oc27, od27, .func (PySem.W.fnOf "tally" "tally" (defArgs (top 46)) (defBody (top 46)) (defScope (top 46)) .none kV27 dc27 pm27 an27 cd27 ct27), sl27⟩)
    (c27 : PySem.W.codeIn K cd27 "tally" = true)
    (k27 : PySem.W.keepIn K (.ref f27) = true)
    (a28 : PySem.W.nsIn K mainGlobals "ink_list" = some (some (.ref f28)))
    (l28 : K.lookup f28 = some ⟨oc28, od28, .func (PySem.W.fnOf "ink_list" "ink_list" (defArgs (top 49)) (defBody (top 49)) (defScope (top 49)) .none kV28 dc28 pm28 an28 cd28 ct28), sl28⟩)
    (c28 : PySem.W.codeIn K cd28 "ink_list" = true)
    (k28 : PySem.W.keepIn K (.ref f28) = true)
    (a29 : PySem.W.nsIn K mainGlobals "ink_counts" = some (some (.ref f29)))
    (l29 : K.lookup f29 = some ⟨oc29, od29, .func (PySem.W.fnOf "ink_counts" "ink_counts" (defArgs (top 50)) (defBody (top 50)) (defScope (top 50)) .none kV29 dc29 pm29 an29 cd29 ct29), sl29⟩)
    (c29 : PySem.W.codeIn K cd29 "ink_counts" = true)
    (k29 : PySem.W.keepIn K (.ref f29) = true)
    (a30 : PySem.W.nsIn K mainGlobals "covered" = some (some (.ref f30)))
    (l30 : K.lookup f30 = some ⟨oc30, od30, .func (PySem.W.fnOf "covered" "covered" (defArgs (top 51)) (defBody (top 51)) (defScope (top 51)) .none kV30 dc30 pm30 an30 cd30 ct30), sl30⟩)
    (c30 : PySem.W.codeIn K cd30 "covered" = true)
    (k30 : PySem.W.keepIn K (.ref f30) = true)
    (a31 : PySem.W.nsIn K mainGlobals "_law_told" = some (some (.ref f31)))
    (l31 : K.lookup f31 = some ⟨oc31, od31, .func (PySem.W.fnOf "_law_told" "_law_told" (defArgs (top 61)) (defBody (top 61)) (defScope (top 61)) .none kV31 dc31 pm31 an31 cd31 ct31), sl31⟩)
    (c31 : PySem.W.codeIn K cd31 "_law_told" = true)
    (k31 : PySem.W.keepIn K (.ref f31) = true)
    (a32 : PySem.W.nsIn K mainGlobals "_law_both" = some (some (.ref f32)))
    (l32 : K.lookup f32 = some ⟨oc32, od32, .func (PySem.W.fnOf "_law_both" "_law_both" (defArgs (top 62)) (defBody (top 62)) (defScope (top 62)) .none kV32 dc32 pm32 an32 cd32 ct32), sl32⟩)
    (c32 : PySem.W.codeIn K cd32 "_law_both" = true)
    (k32 : PySem.W.keepIn K (.ref f32) = true)
    (a33 : PySem.W.nsIn K mainGlobals "_law_right" = some (some (.ref f33)))
    (l33 : K.lookup f33 = some ⟨oc33, od33, .func (PySem.W.fnOf "_law_right" "_law_right" (defArgs (top 64)) (defBody (top 64)) (defScope (top 64)) .none kV33 dc33 pm33 an33 cd33 ct33), sl33⟩)
    (c33 : PySem.W.codeIn K cd33 "_law_right" = true)
    (k33 : PySem.W.keepIn K (.ref f33) = true)
    (a34 : PySem.W.nsIn K mainGlobals "law" = some (some (.ref f34)))
    (l34 : K.lookup f34 = some ⟨oc34, od34, .func (PySem.W.fnOf "law" "law" (defArgs (top 65)) (defBody (top 65)) (defScope (top 65)) .none kV34 dc34 pm34 an34 cd34 ct34), sl34⟩)
    (c34 : PySem.W.codeIn K cd34 "law" = true)
    (k34 : PySem.W.keepIn K (.ref f34) = true)
    (n_ValueError : PySem.W.nsIn K mainGlobals "ValueError" = some none)
    (n_all : PySem.W.nsIn K mainGlobals "all" = some none)
    (n_bool : PySem.W.nsIn K mainGlobals "bool" = some none)
    (n_enumerate : PySem.W.nsIn K mainGlobals "enumerate" = some none)
    (n_int : PySem.W.nsIn K mainGlobals "int" = some none)
    (n_isinstance : PySem.W.nsIn K mainGlobals "isinstance" = some none)
    (n_len : PySem.W.nsIn K mainGlobals "len" = some none)
    (n_list : PySem.W.nsIn K mainGlobals "list" = some none)
    (n_max : PySem.W.nsIn K mainGlobals "max" = some none)
    (n_range : PySem.W.nsIn K mainGlobals "range" = some none)
    (n_repr : PySem.W.nsIn K mainGlobals "repr" = some none)
    (n_sorted : PySem.W.nsIn K mainGlobals "sorted" = some none)
    (n_sum : PySem.W.nsIn K mainGlobals "sum" = some none)
    (n_tuple : PySem.W.nsIn K mainGlobals "tuple" = some none)
    (n_zip : PySem.W.nsIn K mainGlobals "zip" = some none)
    (q_MOST_INKS : PySem.W.nsIn K mainGlobals "MOST_INKS" = some (some (.int 3 t_MOST_INKS)))
    (q_MOST_LEVELS : PySem.W.nsIn K mainGlobals "MOST_LEVELS" = some (some (.int 50 t_MOST_LEVELS)))
    (q_MOST_PLACE : PySem.W.nsIn K mainGlobals "MOST_PLACE" = some (some (.int 1000000000000000000000000000000 t_MOST_PLACE))) :
    ∃ (cls : Nat → Addr) (fd : FuncData), (∀ (s : Shared) (v : Value), BindsTo s fd ⟨[v], []⟩ [("script", v)]) ∧ ∀ base : Heap, K.In base → base.Ns mainGlobals mg → FnG P w K mg base 10 fa fd ["script"] (spF ⟨K, cls⟩ 1 s_law) := by
  have e : f34 = fa := by have q := hfa.symm.trans (PySem.W.mg_of X G a34); cases q; rfl
  subst e
  have F0 := fun_mk (st := (top 53)) l0 c0 k0
  have B0 := F0.binds (ps := ["cell"]) fun _ _ _ _ _ _ us hl => match us, hl with | [_], _ => rfl
  have F1 := fun_mk (st := (top 1)) l1 c1 k1
  have B1 := F1.binds (ps := ["value"]) fun _ _ _ _ _ _ us hl => match us, hl with | [_], _ => rfl
  have F2 := fun_mk (st := (top 30)) l2 c2 k2
  have B2 := F2.binds (ps := ["value"]) fun _ _ _ _ _ _ us hl => match us, hl with | [_], _ => rfl
  have F3 := fun_mk (st := (inClass (top 31) 0)) l3 c3 k3
  have B3 := F3.binds (ps := ["self", "levels"]) fun _ _ _ _ _ _ us hl => match us, hl with | [_, _], _ => rfl
  have F4 := fun_mk (st := (inClass (top 31) 2)) l4 c4 k4
  have B4 := F4.binds (ps := ["self"]) fun _ _ _ _ _ _ us hl => match us, hl with | [_], _ => rfl
  have F5 := fun_mk (st := (top 58)) l5 c5 k5
  have B5 := F5.binds (ps := ["plates"]) fun _ _ _ _ _ _ us hl => match us, hl with | [_], _ => rfl
  have F6 := fun_mk (st := (inClass (top 31) 5)) l6 c6 k6
  have B6 := F6.binds (ps := ["self"]) fun _ _ _ _ _ _ us hl => match us, hl with | [_], _ => rfl
  have F7 := fun_mk (st := (top 63)) l7 c7 k7
  have B7 := F7.binds (ps := ["screen"]) fun _ _ _ _ _ _ us hl => match us, hl with | [_], _ => rfl
  have F8 := fun_mk (st := (top 60)) l8 c8 k8
  have B8 := F8.binds (ps := []) fun _ _ _ _ _ _ us hl => match us, hl with | [], _ => rfl
  have F9 := fun_mk (st := (top 54)) l9 c9 k9
  have B9 := F9.binds (ps := ["bag", "many"]) fun _ _ _ _ _ _ us hl => match us, hl with | [_, _], _ => rfl
  have F10 := fun_mk (st := (top 55)) l10 c10 k10
  have B10 := F10.binds (ps := ["bag", "most"]) fun _ _ _ _ _ _ us hl => match us, hl with | [_, _], _ => rfl
  have F11 := fun_mk (st := (top 56)) l11 c11 k11
  have B11 := F11.binds (ps := ["bag", "levels"]) fun _ _ _ _ _ _ us hl => match us, hl with | [_, _], _ => rfl
  have F12 := fun_mk (st := (top 57)) l12 c12 k12
  have B12 := F12.binds (ps := ["bag", "many", "most"]) fun _ _ _ _ _ _ us hl => match us, hl with | [_, _, _], _ => rfl
  have F13 := fun_mk (st := (top 59)) l13 c13 k13
  have B13 := F13.binds (ps := ["caught"]) fun _ _ _ _ _ _ us hl => match us, hl with | [_], _ => rfl
  have F14 := fun_mk (st := (top 2)) l14 c14 k14
  have B14 := F14.binds (ps := ["value", "low", "high"]) fun _ _ _ _ _ _ us hl => match us, hl with | [_, _, _], _ => rfl
  have F15 := fun_mk (st := (top 29)) l15 c15 k15
  have B15 := F15.binds (ps := ["screen", "value"]) fun _ _ _ _ _ _ us hl => match us, hl with | [_, _], _ => rfl
  have F16 := fun_mk (st := (top 38)) l16 c16 k16
  have B16 := F16.binds (ps := ["value"]) fun _ _ _ _ _ _ us hl => match us, hl with | [_], _ => rfl
  have F17 := fun_mk (st := (top 39)) l17 c17 k17
  have B17 := F17.binds (ps := ["value"]) fun _ _ _ _ _ _ us hl => match us, hl with | [_], _ => rfl
  have F18 := fun_mk (st := (top 40)) l18 c18 k18
  have B18 := F18.binds (ps := ["value", "most"]) fun _ _ _ _ _ _ us hl => match us, hl with | [_, _], _ => rfl
  have F19 := fun_mk (st := (top 35)) l19 c19 k19
  have B19 := F19.binds (ps := ["value"]) fun _ _ _ _ _ _ us hl => match us, hl with | [_], _ => rfl
  have F20 := fun_mk (st := (top 36)) l20 c20 k20
  have B20 := F20.binds (ps := ["value"]) fun _ _ _ _ _ _ us hl => match us, hl with | [_], _ => rfl
  have F21 := fun_mk (st := (inClass (top 31) 3)) l21 c21 k21
  have B21 := F21.binds (ps := ["self"]) fun _ _ _ _ _ _ us hl => match us, hl with | [_], _ => rfl
  have F22 := fun_mk (st := (top 41)) l22 c22 k22
  have B22 := F22.binds (ps := ["plates", "conditions"]) fun _ _ _ _ _ _ us hl => match us, hl with | [_, _], _ => rfl
  have F23 := fun_mk (st := (top 42)) l23 c23 k23
  have B23 := F23.binds (ps := ["value", "spot"]) fun _ _ _ _ _ _ us hl => match us, hl with | [_, _], _ => rfl
  have F24 := fun_mk (st := (top 43)) l24 c24 k24
  have B24 := F24.binds (ps := ["looks", "spot", "state", "x", "y"]) fun _ _ _ _ _ _ us hl => match us, hl with | [_, _, _, _, _], _ => rfl
  have F25 := fun_mk (st := (top 44)) l25 c25 k25
  have B25 := F25.binds (ps := ["kinds", "wanted"]) fun _ _ _ _ _ _ us hl => match us, hl with | [_, _], _ => rfl
  have F26 := fun_mk (st := (top 45)) l26 c26 k26
  have B26 := F26.binds (ps := ["value", "bound", "is_less"]) fun _ _ _ _ _ _ us hl => match us, hl with | [_, _, _], _ => rfl
  have F27 := fun_mk (st := (top 46)) l27 c27 k27
  have B27 := F27.binds (ps := ["looks", "wanted", "window"]) fun _ _ _ _ _ _ us hl => match us, hl with | [_, _, _], _ => rfl
  have F28 := fun_mk (st := (top 49)) l28 c28 k28
  have B28 := F28.binds (ps := ["plates", "window"]) fun _ _ _ _ _ _ us hl => match us, hl with | [_, _], _ => rfl
  have F29 := fun_mk (st := (top 50)) l29 c29 k29
  have B29 := F29.binds (ps := ["plates", "window"]) fun _ _ _ _ _ _ us hl => match us, hl with | [_, _], _ => rfl
  have F30 := fun_mk (st := (top 51)) l30 c30 k30
  have B30 := F30.binds (ps := ["plates", "window"]) fun _ _ _ _ _ _ us hl => match us, hl with | [_, _], _ => rfl
  have F31 := fun_mk (st := (top 61)) l31 c31 k31
  have B31 := F31.binds (ps := ["way", "plates", "window"]) fun _ _ _ _ _ _ us hl => match us, hl with | [_, _, _], _ => rfl
  have F32 := fun_mk (st := (top 62)) l32 c32 k32
  have B32 := F32.binds (ps := ["plates", "window", "due"]) fun _ _ _ _ _ _ us hl => match us, hl with | [_, _, _], _ => rfl
  have F33 := fun_mk (st := (top 64)) l33 c33 k33
  have B33 := F33.binds (ps := ["bag"]) fun _ _ _ _ _ _ us hl => match us, hl with | [_], _ => rfl
  have F34 := fun_mk (st := (top 65)) l34 c34 k34
  have B34 := F34.binds (ps := ["script"]) fun _ _ _ _ _ _ us hl => match us, hl with | [_], _ => rfl
  have X100 : XcF K (fun j => [C0, 0, 0, 0, 0, 0, 0, 0, 0, 0, 0, 0, 0, 0, 0, 0, 0, 0, 0, 0, 0, 0, 0, 0, 0, 0, 0, 0, 0, 0, 0, 0, 0, 0, 0, 0, 0, 0, 0, 0, 0, 0, 0, 0, 0, 0, 0, 0, 0, 0, 0, 0, 0, 0, 0, 0, 0, 0, 0, 0, 0, 0, 0, 0, 0, 0, 0, 0, 0, 0, 0, 0, 0, 0, 0, 0, 0, 0, 0, 0, 0, 0, 0, 0, 0, 0, 0, 0, 0, 0, 0, 0, 0, 0, 0, 0, 0, 0, 0, 0, C100, C101, C102, C103, C104, C105, C106, C107, C108, C109, C110, C111, C112, C113, C114, C115, C116, C117, C118, C119].getD j 0) 100 := ⟨⟨_, _, _, _, _, _, _, _, _, _, _, _, _, _, xo100⟩, xa100, xg100, xh100, xk100⟩
  have X101 : XcF K (fun j => [C0, 0, 0, 0, 0, 0, 0, 0, 0, 0, 0, 0, 0, 0, 0, 0, 0, 0, 0, 0, 0, 0, 0, 0, 0, 0, 0, 0, 0, 0, 0, 0, 0, 0, 0, 0, 0, 0, 0, 0, 0, 0, 0, 0, 0, 0, 0, 0, 0, 0, 0, 0, 0, 0, 0, 0, 0, 0, 0, 0, 0, 0, 0, 0, 0, 0, 0, 0, 0, 0, 0, 0, 0, 0, 0, 0, 0, 0, 0, 0, 0, 0, 0, 0, 0, 0, 0, 0, 0, 0, 0, 0, 0, 0, 0, 0, 0, 0, 0, 0, C100, C101, C102, C103, C104, C105, C106, C107, C108, C109, C110, C111, C112, C113, C114, C115, C116, C117, C118, C119].getD j 0) 101 := ⟨⟨_, _, _, _, _, _, _, _, _, _, _, _, _, _, xo101⟩, xa101, xg101, xh101, xk101⟩
  have X102 : XcF K (fun j => [C0, 0, 0, 0, 0, 0, 0, 0, 0, 0, 0, 0, 0, 0, 0, 0, 0, 0, 0, 0, 0, 0, 0, 0, 0, 0, 0, 0, 0, 0, 0, 0, 0, 0, 0, 0, 0, 0, 0, 0, 0, 0, 0, 0, 0, 0, 0, 0, 0, 0, 0, 0, 0, 0, 0, 0, 0, 0, 0, 0, 0, 0, 0, 0, 0, 0, 0, 0, 0, 0, 0, 0, 0, 0, 0, 0, 0, 0, 0, 0, 0, 0, 0, 0, 0, 0, 0, 0, 0, 0, 0, 0, 0, 0, 0, 0, 0, 0, 0, 0, C100, C101, C102, C103, C104, C105, C106, C107, C108, C109, C110, C111, C112, C113, C114, C115, C116, C117, C118, C119].getD j 0) 102 := ⟨⟨_, _, _, _, _, _, _, _, _, _, _, _, _, _, xo102⟩, xa102, xg102, xh102, xk102⟩
  have X103 : XcF K (fun j => [C0, 0, 0, 0, 0, 0, 0, 0, 0, 0, 0, 0, 0, 0, 0, 0, 0, 0, 0, 0, 0, 0, 0, 0, 0, 0, 0, 0, 0, 0, 0, 0, 0, 0, 0, 0, 0, 0, 0, 0, 0, 0, 0, 0, 0, 0, 0, 0, 0, 0, 0, 0, 0, 0, 0, 0, 0, 0, 0, 0, 0, 0, 0, 0, 0, 0, 0, 0, 0, 0, 0, 0, 0, 0, 0, 0, 0, 0, 0, 0, 0, 0, 0, 0, 0, 0, 0, 0, 0, 0, 0, 0, 0, 0, 0, 0, 0, 0, 0, 0, C100, C101, C102, C103, C104, C105, C106, C107, C108, C109, C110, C111, C112, C113, C114, C115, C116, C117, C118, C119].getD j 0) 103 := ⟨⟨_, _, _, _, _, _, _, _, _, _, _, _, _, _, xo103⟩, xa103, xg103, xh103, xk103⟩
  have X104 : XcF K (fun j => [C0, 0, 0, 0, 0, 0, 0, 0, 0, 0, 0, 0, 0, 0, 0, 0, 0, 0, 0, 0, 0, 0, 0, 0, 0, 0, 0, 0, 0, 0, 0, 0, 0, 0, 0, 0, 0, 0, 0, 0, 0, 0, 0, 0, 0, 0, 0, 0, 0, 0, 0, 0, 0, 0, 0, 0, 0, 0, 0, 0, 0, 0, 0, 0, 0, 0, 0, 0, 0, 0, 0, 0, 0, 0, 0, 0, 0, 0, 0, 0, 0, 0, 0, 0, 0, 0, 0, 0, 0, 0, 0, 0, 0, 0, 0, 0, 0, 0, 0, 0, C100, C101, C102, C103, C104, C105, C106, C107, C108, C109, C110, C111, C112, C113, C114, C115, C116, C117, C118, C119].getD j 0) 104 := ⟨⟨_, _, _, _, _, _, _, _, _, _, _, _, _, _, xo104⟩, xa104, xg104, xh104, xk104⟩
  have X105 : XcF K (fun j => [C0, 0, 0, 0, 0, 0, 0, 0, 0, 0, 0, 0, 0, 0, 0, 0, 0, 0, 0, 0, 0, 0, 0, 0, 0, 0, 0, 0, 0, 0, 0, 0, 0, 0, 0, 0, 0, 0, 0, 0, 0, 0, 0, 0, 0, 0, 0, 0, 0, 0, 0, 0, 0, 0, 0, 0, 0, 0, 0, 0, 0, 0, 0, 0, 0, 0, 0, 0, 0, 0, 0, 0, 0, 0, 0, 0, 0, 0, 0, 0, 0, 0, 0, 0, 0, 0, 0, 0, 0, 0, 0, 0, 0, 0, 0, 0, 0, 0, 0, 0, C100, C101, C102, C103, C104, C105, C106, C107, C108, C109, C110, C111, C112, C113, C114, C115, C116, C117, C118, C119].getD j 0) 105 := ⟨⟨_, _, _, _, _, _, _, _, _, _, _, _, _, _, xo105⟩, xa105, xg105, xh105, xk105⟩
  have X106 : XcF K (fun j => [C0, 0, 0, 0, 0, 0, 0, 0, 0, 0, 0, 0, 0, 0, 0, 0, 0, 0, 0, 0, 0, 0, 0, 0, 0, 0, 0, 0, 0, 0, 0, 0, 0, 0, 0, 0, 0, 0, 0, 0, 0, 0, 0, 0, 0, 0, 0, 0, 0, 0, 0, 0, 0, 0, 0, 0, 0, 0, 0, 0, 0, 0, 0, 0, 0, 0, 0, 0, 0, 0, 0, 0, 0, 0, 0, 0, 0, 0, 0, 0, 0, 0, 0, 0, 0, 0, 0, 0, 0, 0, 0, 0, 0, 0, 0, 0, 0, 0, 0, 0, C100, C101, C102, C103, C104, C105, C106, C107, C108, C109, C110, C111, C112, C113, C114, C115, C116, C117, C118, C119].getD j 0) 106 := ⟨⟨_, _, _, _, _, _, _, _, _, _, _, _, _, _, xo106⟩, xa106, xg106, xh106, xk106⟩
  have X107 : XcF K (fun j => [C0, 0, 0, 0, 0, 0, 0, 0, 0, 0, 0, 0, 0, 0, 0, 0, 0, 0, 0, 0, 0, 0, 0, 0, 0, 0, 0, 0, 0, 0, 0, 0, 0, 0, 0, 0, 0, 0, 0, 0, 0, 0, 0, 0, 0, 0, 0, 0, 0, 0, 0, 0, 0, 0, 0, 0, 0, 0, 0, 0, 0, 0, 0, 0, 0, 0, 0, 0, 0, 0, 0, 0, 0, 0, 0, 0, 0, 0, 0, 0, 0, 0, 0, 0, 0, 0, 0, 0, 0, 0, 0, 0, 0, 0, 0, 0, 0, 0, 0, 0, C100, C101, C102, C103, C104, C105, C106, C107, C108, C109, C110, C111, C112, C113, C114, C115, C116, C117, C118, C119].getD j 0) 107 := ⟨⟨_, _, _, _, _, _, _, _, _, _, _, _, _, _, xo107⟩, xa107, xg107, xh107, xk107⟩
  have X108 : XcF K (fun j => [C0, 0, 0, 0, 0, 0, 0, 0, 0, 0, 0, 0, 0, 0, 0, 0, 0, 0, 0, 0, 0, 0, 0, 0, 0, 0, 0, 0, 0, 0, 0, 0, 0, 0, 0, 0, 0, 0, 0, 0, 0, 0, 0, 0, 0, 0, 0, 0, 0, 0, 0, 0, 0, 0, 0, 0, 0, 0, 0, 0, 0, 0, 0, 0, 0, 0, 0, 0, 0, 0, 0, 0, 0, 0, 0, 0, 0, 0, 0, 0, 0, 0, 0, 0, 0, 0, 0, 0, 0, 0, 0, 0, 0, 0, 0, 0, 0, 0, 0, 0, C100, C101, C102, C103, C104, C105, C106, C107, C108, C109, C110, C111, C112, C113, C114, C115, C116, C117, C118, C119].getD j 0) 108 := ⟨⟨_, _, _, _, _, _, _, _, _, _, _, _, _, _, xo108⟩, xa108, xg108, xh108, xk108⟩
  have X109 : XcF K (fun j => [C0, 0, 0, 0, 0, 0, 0, 0, 0, 0, 0, 0, 0, 0, 0, 0, 0, 0, 0, 0, 0, 0, 0, 0, 0, 0, 0, 0, 0, 0, 0, 0, 0, 0, 0, 0, 0, 0, 0, 0, 0, 0, 0, 0, 0, 0, 0, 0, 0, 0, 0, 0, 0, 0, 0, 0, 0, 0, 0, 0, 0, 0, 0, 0, 0, 0, 0, 0, 0, 0, 0, 0, 0, 0, 0, 0, 0, 0, 0, 0, 0, 0, 0, 0, 0, 0, 0, 0, 0, 0, 0, 0, 0, 0, 0, 0, 0, 0, 0, 0, C100, C101, C102, C103, C104, C105, C106, C107, C108, C109, C110, C111, C112, C113, C114, C115, C116, C117, C118, C119].getD j 0) 109 := ⟨⟨_, _, _, _, _, _, _, _, _, _, _, _, _, _, xo109⟩, xa109, xg109, xh109, xk109⟩
  have X110 : XcF K (fun j => [C0, 0, 0, 0, 0, 0, 0, 0, 0, 0, 0, 0, 0, 0, 0, 0, 0, 0, 0, 0, 0, 0, 0, 0, 0, 0, 0, 0, 0, 0, 0, 0, 0, 0, 0, 0, 0, 0, 0, 0, 0, 0, 0, 0, 0, 0, 0, 0, 0, 0, 0, 0, 0, 0, 0, 0, 0, 0, 0, 0, 0, 0, 0, 0, 0, 0, 0, 0, 0, 0, 0, 0, 0, 0, 0, 0, 0, 0, 0, 0, 0, 0, 0, 0, 0, 0, 0, 0, 0, 0, 0, 0, 0, 0, 0, 0, 0, 0, 0, 0, C100, C101, C102, C103, C104, C105, C106, C107, C108, C109, C110, C111, C112, C113, C114, C115, C116, C117, C118, C119].getD j 0) 110 := ⟨⟨_, _, _, _, _, _, _, _, _, _, _, _, _, _, xo110⟩, xa110, xg110, xh110, xk110⟩
  have X111 : XcF K (fun j => [C0, 0, 0, 0, 0, 0, 0, 0, 0, 0, 0, 0, 0, 0, 0, 0, 0, 0, 0, 0, 0, 0, 0, 0, 0, 0, 0, 0, 0, 0, 0, 0, 0, 0, 0, 0, 0, 0, 0, 0, 0, 0, 0, 0, 0, 0, 0, 0, 0, 0, 0, 0, 0, 0, 0, 0, 0, 0, 0, 0, 0, 0, 0, 0, 0, 0, 0, 0, 0, 0, 0, 0, 0, 0, 0, 0, 0, 0, 0, 0, 0, 0, 0, 0, 0, 0, 0, 0, 0, 0, 0, 0, 0, 0, 0, 0, 0, 0, 0, 0, C100, C101, C102, C103, C104, C105, C106, C107, C108, C109, C110, C111, C112, C113, C114, C115, C116, C117, C118, C119].getD j 0) 111 := ⟨⟨_, _, _, _, _, _, _, _, _, _, _, _, _, _, xo111⟩, xa111, xg111, xh111, xk111⟩
  have X112 : XcF K (fun j => [C0, 0, 0, 0, 0, 0, 0, 0, 0, 0, 0, 0, 0, 0, 0, 0, 0, 0, 0, 0, 0, 0, 0, 0, 0, 0, 0, 0, 0, 0, 0, 0, 0, 0, 0, 0, 0, 0, 0, 0, 0, 0, 0, 0, 0, 0, 0, 0, 0, 0, 0, 0, 0, 0, 0, 0, 0, 0, 0, 0, 0, 0, 0, 0, 0, 0, 0, 0, 0, 0, 0, 0, 0, 0, 0, 0, 0, 0, 0, 0, 0, 0, 0, 0, 0, 0, 0, 0, 0, 0, 0, 0, 0, 0, 0, 0, 0, 0, 0, 0, C100, C101, C102, C103, C104, C105, C106, C107, C108, C109, C110, C111, C112, C113, C114, C115, C116, C117, C118, C119].getD j 0) 112 := ⟨⟨_, _, _, _, _, _, _, _, _, _, _, _, _, _, xo112⟩, xa112, xg112, xh112, xk112⟩
  have X113 : XcF K (fun j => [C0, 0, 0, 0, 0, 0, 0, 0, 0, 0, 0, 0, 0, 0, 0, 0, 0, 0, 0, 0, 0, 0, 0, 0, 0, 0, 0, 0, 0, 0, 0, 0, 0, 0, 0, 0, 0, 0, 0, 0, 0, 0, 0, 0, 0, 0, 0, 0, 0, 0, 0, 0, 0, 0, 0, 0, 0, 0, 0, 0, 0, 0, 0, 0, 0, 0, 0, 0, 0, 0, 0, 0, 0, 0, 0, 0, 0, 0, 0, 0, 0, 0, 0, 0, 0, 0, 0, 0, 0, 0, 0, 0, 0, 0, 0, 0, 0, 0, 0, 0, C100, C101, C102, C103, C104, C105, C106, C107, C108, C109, C110, C111, C112, C113, C114, C115, C116, C117, C118, C119].getD j 0) 113 := ⟨⟨_, _, _, _, _, _, _, _, _, _, _, _, _, _, xo113⟩, xa113, xg113, xh113, xk113⟩
  have X114 : XcF K (fun j => [C0, 0, 0, 0, 0, 0, 0, 0, 0, 0, 0, 0, 0, 0, 0, 0, 0, 0, 0, 0, 0, 0, 0, 0, 0, 0, 0, 0, 0, 0, 0, 0, 0, 0, 0, 0, 0, 0, 0, 0, 0, 0, 0, 0, 0, 0, 0, 0, 0, 0, 0, 0, 0, 0, 0, 0, 0, 0, 0, 0, 0, 0, 0, 0, 0, 0, 0, 0, 0, 0, 0, 0, 0, 0, 0, 0, 0, 0, 0, 0, 0, 0, 0, 0, 0, 0, 0, 0, 0, 0, 0, 0, 0, 0, 0, 0, 0, 0, 0, 0, C100, C101, C102, C103, C104, C105, C106, C107, C108, C109, C110, C111, C112, C113, C114, C115, C116, C117, C118, C119].getD j 0) 114 := ⟨⟨_, _, _, _, _, _, _, _, _, _, _, _, _, _, xo114⟩, xa114, xg114, xh114, xk114⟩
  have X115 : XcF K (fun j => [C0, 0, 0, 0, 0, 0, 0, 0, 0, 0, 0, 0, 0, 0, 0, 0, 0, 0, 0, 0, 0, 0, 0, 0, 0, 0, 0, 0, 0, 0, 0, 0, 0, 0, 0, 0, 0, 0, 0, 0, 0, 0, 0, 0, 0, 0, 0, 0, 0, 0, 0, 0, 0, 0, 0, 0, 0, 0, 0, 0, 0, 0, 0, 0, 0, 0, 0, 0, 0, 0, 0, 0, 0, 0, 0, 0, 0, 0, 0, 0, 0, 0, 0, 0, 0, 0, 0, 0, 0, 0, 0, 0, 0, 0, 0, 0, 0, 0, 0, 0, C100, C101, C102, C103, C104, C105, C106, C107, C108, C109, C110, C111, C112, C113, C114, C115, C116, C117, C118, C119].getD j 0) 115 := ⟨⟨_, _, _, _, _, _, _, _, _, _, _, _, _, _, xo115⟩, xa115, xg115, xh115, xk115⟩
  have X116 : XcF K (fun j => [C0, 0, 0, 0, 0, 0, 0, 0, 0, 0, 0, 0, 0, 0, 0, 0, 0, 0, 0, 0, 0, 0, 0, 0, 0, 0, 0, 0, 0, 0, 0, 0, 0, 0, 0, 0, 0, 0, 0, 0, 0, 0, 0, 0, 0, 0, 0, 0, 0, 0, 0, 0, 0, 0, 0, 0, 0, 0, 0, 0, 0, 0, 0, 0, 0, 0, 0, 0, 0, 0, 0, 0, 0, 0, 0, 0, 0, 0, 0, 0, 0, 0, 0, 0, 0, 0, 0, 0, 0, 0, 0, 0, 0, 0, 0, 0, 0, 0, 0, 0, C100, C101, C102, C103, C104, C105, C106, C107, C108, C109, C110, C111, C112, C113, C114, C115, C116, C117, C118, C119].getD j 0) 116 := ⟨⟨_, _, _, _, _, _, _, _, _, _, _, _, _, _, xo116⟩, xa116, xg116, xh116, xk116⟩
  have X117 : XcF K (fun j => [C0, 0, 0, 0, 0, 0, 0, 0, 0, 0, 0, 0, 0, 0, 0, 0, 0, 0, 0, 0, 0, 0, 0, 0, 0, 0, 0, 0, 0, 0, 0, 0, 0, 0, 0, 0, 0, 0, 0, 0, 0, 0, 0, 0, 0, 0, 0, 0, 0, 0, 0, 0, 0, 0, 0, 0, 0, 0, 0, 0, 0, 0, 0, 0, 0, 0, 0, 0, 0, 0, 0, 0, 0, 0, 0, 0, 0, 0, 0, 0, 0, 0, 0, 0, 0, 0, 0, 0, 0, 0, 0, 0, 0, 0, 0, 0, 0, 0, 0, 0, C100, C101, C102, C103, C104, C105, C106, C107, C108, C109, C110, C111, C112, C113, C114, C115, C116, C117, C118, C119].getD j 0) 117 := ⟨⟨_, _, _, _, _, _, _, _, _, _, _, _, _, _, xo117⟩, xa117, xg117, xh117, xk117⟩
  have X118 : XcF K (fun j => [C0, 0, 0, 0, 0, 0, 0, 0, 0, 0, 0, 0, 0, 0, 0, 0, 0, 0, 0, 0, 0, 0, 0, 0, 0, 0, 0, 0, 0, 0, 0, 0, 0, 0, 0, 0, 0, 0, 0, 0, 0, 0, 0, 0, 0, 0, 0, 0, 0, 0, 0, 0, 0, 0, 0, 0, 0, 0, 0, 0, 0, 0, 0, 0, 0, 0, 0, 0, 0, 0, 0, 0, 0, 0, 0, 0, 0, 0, 0, 0, 0, 0, 0, 0, 0, 0, 0, 0, 0, 0, 0, 0, 0, 0, 0, 0, 0, 0, 0, 0, C100, C101, C102, C103, C104, C105, C106, C107, C108, C109, C110, C111, C112, C113, C114, C115, C116, C117, C118, C119].getD j 0) 118 := ⟨⟨_, _, _, _, _, _, _, _, _, _, _, _, _, _, xo118⟩, xa118, xg118, xh118, xk118⟩
  have X119 : XcF K (fun j => [C0, 0, 0, 0, 0, 0, 0, 0, 0, 0, 0, 0, 0, 0, 0, 0, 0, 0, 0, 0, 0, 0, 0, 0, 0, 0, 0, 0, 0, 0, 0, 0, 0, 0, 0, 0, 0, 0, 0, 0, 0, 0, 0, 0, 0, 0, 0, 0, 0, 0, 0, 0, 0, 0, 0, 0, 0, 0, 0, 0, 0, 0, 0, 0, 0, 0, 0, 0, 0, 0, 0, 0, 0, 0, 0, 0, 0, 0, 0, 0, 0, 0, 0, 0, 0, 0, 0, 0, 0, 0, 0, 0, 0, 0, 0, 0, 0, 0, 0, 0, C100, C101, C102, C103, C104, C105, C106, C107, C108, C109, C110, C111, C112, C113, C114, C115, C116, C117, C118, C119].getD j 0) 119 := ⟨⟨_, _, _, _, _, _, _, _, _, _, _, _, _, _, xo119⟩, xa119, xg119, xh119, xk119⟩
  have XS : Xcs K (fun j => [C0, 0, 0, 0, 0, 0, 0, 0, 0, 0, 0, 0, 0, 0, 0, 0, 0, 0, 0, 0, 0, 0, 0, 0, 0, 0, 0, 0, 0, 0, 0, 0, 0, 0, 0, 0, 0, 0, 0, 0, 0, 0, 0, 0, 0, 0, 0, 0, 0, 0, 0, 0, 0, 0, 0, 0, 0, 0, 0, 0, 0, 0, 0, 0, 0, 0, 0, 0, 0, 0, 0, 0, 0, 0, 0, 0, 0, 0, 0, 0, 0, 0, 0, 0, 0, 0, 0, 0, 0, 0, 0, 0, 0, 0, 0, 0, 0, 0, 0, 0, C100, C101, C102, C103, C104, C105, C106, C107, C108, C109, C110, C111, C112, C113, C114, C115, C116, C117, C118, C119].getD j 0) := ⟨fun k h1 h2 => by
    rcases (by omega : k = 100 ∨ k = 101 ∨ k = 102 ∨ k = 103 ∨ k = 104 ∨ k = 105 ∨ k = 106 ∨ k = 107 ∨ k = 108 ∨ k = 109 ∨ k = 110 ∨ k = 111 ∨ k = 112 ∨ k = 113 ∨ k = 114 ∨ k = 115 ∨ k = 116 ∨ k = 117 ∨ k = 118 ∨ k = 119) with rfl | rfl | rfl | rfl | rfl | rfl | rfl | rfl | rfl | rfl | rfl | rfl | rfl | rfl | rfl | rfl | rfl | rfl | rfl | rfl <;> assumption, xhn, xtk⟩
  have XF101 : XfF K (fun j => [C0, 0, 0, 0, 0, 0, 0, 0, 0, 0, 0, 0, 0, 0, 0, 0, 0, 0, 0, 0, 0, 0, 0, 0, 0, 0, 0, 0, 0, 0, 0, 0, 0, 0, 0, 0, 0, 0, 0, 0, 0, 0, 0, 0, 0, 0, 0, 0, 0, 0, 0, 0, 0, 0, 0, 0, 0, 0, 0, 0, 0, 0, 0, 0, 0, 0, 0, 0, 0, 0, 0, 0, 0, 0, 0, 0, 0, 0, 0, 0, 0, 0, 0, 0, 0, 0, 0, 0, 0, 0, 0, 0, 0, 0, 0, 0, 0, 0, 0, 0, C100, C101, C102, C103, C104, C105, C106, C107, C108, C109, C110, C111, C112, C113, C114, C115, C116, C117, C118, C119].getD j 0) 101 := ⟨xs101, xn101, xd101, fx101, xt101, xf101, xinit_level ⟨_, _, _, _, _, _, _, _, _, _, _, _, _, _, _, xo101, rfl⟩ xs101 xn101 xl101 xc101⟩
  have XF102 : XfF K (fun j => [C0, 0, 0, 0, 0, 0, 0, 0, 0, 0, 0, 0, 0, 0, 0, 0, 0, 0, 0, 0, 0, 0, 0, 0, 0, 0, 0, 0, 0, 0, 0, 0, 0, 0, 0, 0, 0, 0, 0, 0, 0, 0, 0, 0, 0, 0, 0, 0, 0, 0, 0, 0, 0, 0, 0, 0, 0, 0, 0, 0, 0, 0, 0, 0, 0, 0, 0, 0, 0, 0, 0, 0, 0, 0, 0, 0, 0, 0, 0, 0, 0, 0, 0, 0, 0, 0, 0, 0, 0, 0, 0, 0, 0, 0, 0, 0, 0, 0, 0, 0, C100, C101, C102, C103, C104, C105, C106, C107, C108, C109, C110, C111, C112, C113, C114, C115, C116, C117, C118, C119].getD j 0) 102 := ⟨xs102, xn102, xd102, fx102, xt102, xf102, xinit_item ⟨_, _, _, _, _, _, _, _, _, _, _, _, _, _, _, xo102, rfl⟩ xs102 xn102 xl102 xc102⟩
  have XF103 : XfF K (fun j => [C0, 0, 0, 0, 0, 0, 0, 0, 0, 0, 0, 0, 0, 0, 0, 0, 0, 0, 0, 0, 0, 0, 0, 0, 0, 0, 0, 0, 0, 0, 0, 0, 0, 0, 0, 0, 0, 0, 0, 0, 0, 0, 0, 0, 0, 0, 0, 0, 0, 0, 0, 0, 0, 0, 0, 0, 0, 0, 0, 0, 0, 0, 0, 0, 0, 0, 0, 0, 0, 0, 0, 0, 0, 0, 0, 0, 0, 0, 0, 0, 0, 0, 0, 0, 0, 0, 0, 0, 0, 0, 0, 0, 0, 0, 0, 0, 0, 0, 0, 0, C100, C101, C102, C103, C104, C105, C106, C107, C108, C109, C110, C111, C112, C113, C114, C115, C116, C117, C118, C119].getD j 0) 103 := ⟨xs103, xn103, xd103, fx103, xt103, xf103, xinit_item ⟨_, _, _, _, _, _, _, _, _, _, _, _, _, _, _, xo103, rfl⟩ xs103 xn103 xl103 xc103⟩
  have XF104 : XfF K (fun j => [C0, 0, 0, 0, 0, 0, 0, 0, 0, 0, 0, 0, 0, 0, 0, 0, 0, 0, 0, 0, 0, 0, 0, 0, 0, 0, 0, 0, 0, 0, 0, 0, 0, 0, 0, 0, 0, 0, 0, 0, 0, 0, 0, 0, 0, 0, 0, 0, 0, 0, 0, 0, 0, 0, 0, 0, 0, 0, 0, 0, 0, 0, 0, 0, 0, 0, 0, 0, 0, 0, 0, 0, 0, 0, 0, 0, 0, 0, 0, 0, 0, 0, 0, 0, 0, 0, 0, 0, 0, 0, 0, 0, 0, 0, 0, 0, 0, 0, 0, 0, C100, C101, C102, C103, C104, C105, C106, C107, C108, C109, C110, C111, C112, C113, C114, C115, C116, C117, C118, C119].getD j 0) 104 := ⟨xs104, xn104, xd104, fx104, xt104, xf104, xinit_item ⟨_, _, _, _, _, _, _, _, _, _, _, _, _, _, _, xo104, rfl⟩ xs104 xn104 xl104 xc104⟩
  have XF105 : XfF K (fun j => [C0, 0, 0, 0, 0, 0, 0, 0, 0, 0, 0, 0, 0, 0, 0, 0, 0, 0, 0, 0, 0, 0, 0, 0, 0, 0, 0, 0, 0, 0, 0, 0, 0, 0, 0, 0, 0, 0, 0, 0, 0, 0, 0, 0, 0, 0, 0, 0, 0, 0, 0, 0, 0, 0, 0, 0, 0, 0, 0, 0, 0, 0, 0, 0, 0, 0, 0, 0, 0, 0, 0, 0, 0, 0, 0, 0, 0, 0, 0, 0, 0, 0, 0, 0, 0, 0, 0, 0, 0, 0, 0, 0, 0, 0, 0, 0, 0, 0, 0, 0, C100, C101, C102, C103, C104, C105, C106, C107, C108, C109, C110, C111, C112, C113, C114, C115, C116, C117, C118, C119].getD j 0) 105 := ⟨xs105, xn105, xd105, fx105, xt105, xf105, xinit_part ⟨_, _, _, _, _, _, _, _, _, _, _, _, _, _, _, xo105, rfl⟩ xs105 xn105 xl105 xc105⟩
  have XF106 : XfF K (fun j => [C0, 0, 0, 0, 0, 0, 0, 0, 0, 0, 0, 0, 0, 0, 0, 0, 0, 0, 0, 0, 0, 0, 0, 0, 0, 0, 0, 0, 0, 0, 0, 0, 0, 0, 0, 0, 0, 0, 0, 0, 0, 0, 0, 0, 0, 0, 0, 0, 0, 0, 0, 0, 0, 0, 0, 0, 0, 0, 0, 0, 0, 0, 0, 0, 0, 0, 0, 0, 0, 0, 0, 0, 0, 0, 0, 0, 0, 0, 0, 0, 0, 0, 0, 0, 0, 0, 0, 0, 0, 0, 0, 0, 0, 0, 0, 0, 0, 0, 0, 0, C100, C101, C102, C103, C104, C105, C106, C107, C108, C109, C110, C111, C112, C113, C114, C115, C116, C117, C118, C119].getD j 0) 106 := ⟨xs106, xn106, xd106, fx106, xt106, xf106, xinit_most ⟨_, _, _, _, _, _, _, _, _, _, _, _, _, _, _, xo106, rfl⟩ xs106 xn106 xl106 xc106⟩
  have XF107 : XfF K (fun j => [C0, 0, 0, 0, 0, 0, 0, 0, 0, 0, 0, 0, 0, 0, 0, 0, 0, 0, 0, 0, 0, 0, 0, 0, 0, 0, 0, 0, 0, 0, 0, 0, 0, 0, 0, 0, 0, 0, 0, 0, 0, 0, 0, 0, 0, 0, 0, 0, 0, 0, 0, 0, 0, 0, 0, 0, 0, 0, 0, 0, 0, 0, 0, 0, 0, 0, 0, 0, 0, 0, 0, 0, 0, 0, 0, 0, 0, 0, 0, 0, 0, 0, 0, 0, 0, 0, 0, 0, 0, 0, 0, 0, 0, 0, 0, 0, 0, 0, 0, 0, C100, C101, C102, C103, C104, C105, C106, C107, C108, C109, C110, C111, C112, C113, C114, C115, C116, C117, C118, C119].getD j 0) 107 := ⟨xs107, xn107, xd107, fx107, xt107, xf107, xinit_count ⟨_, _, _, _, _, _, _, _, _, _, _, _, _, _, _, xo107, rfl⟩ xs107 xn107 xl107 xc107⟩
  have XFS : ∀ k, 101 ≤ k → k ≤ 107 → XfF K (fun j => [C0, 0, 0, 0, 0, 0, 0, 0, 0, 0, 0, 0, 0, 0, 0, 0, 0, 0, 0, 0, 0, 0, 0, 0, 0, 0, 0, 0, 0, 0, 0, 0, 0, 0, 0, 0, 0, 0, 0, 0, 0, 0, 0, 0, 0, 0, 0, 0, 0, 0, 0, 0, 0, 0, 0, 0, 0, 0, 0, 0, 0, 0, 0, 0, 0, 0, 0, 0, 0, 0, 0, 0, 0, 0, 0, 0, 0, 0, 0, 0, 0, 0, 0, 0, 0, 0, 0, 0, 0, 0, 0, 0, 0, 0, 0, 0, 0, 0, 0, 0, C100, C101, C102, C103, C104, C105, C106, C107, C108, C109, C110, C111, C112, C113, C114, C115, C116, C117, C118, C119].getD j 0) k := fun k h1 h2 => by
    rcases (by omega : k = 101 ∨ k = 102 ∨ k = 103 ∨ k = 104 ∨ k = 105 ∨ k = 106 ∨ k = 107) with rfl | rfl | rfl | rfl | rfl | rfl | rfl <;> assumption
  have T : Fx K mg (fun j => [C0, 0, 0, 0, 0, 0, 0, 0, 0, 0, 0, 0, 0, 0, 0, 0, 0, 0, 0, 0, 0, 0, 0, 0, 0, 0, 0, 0, 0, 0, 0, 0, 0, 0, 0, 0, 0, 0, 0, 0, 0, 0, 0, 0, 0, 0, 0, 0, 0, 0, 0, 0, 0, 0, 0, 0, 0, 0, 0, 0, 0, 0, 0, 0, 0, 0, 0, 0, 0, 0, 0, 0, 0, 0, 0, 0, 0, 0, 0, 0, 0, 0, 0, 0, 0, 0, 0, 0, 0, 0, 0, 0, 0, 0, 0, 0, 0, 0, 0, 0, C100, C101, C102, C103, C104, C105, C106, C107, C108, C109, C110, C111, C112, C113, C114, C115, C116, C117, C118, C119].getD j 0) (fun j => [f0, f1, f2, f3, f4, f5, f6, f7, f8, f9, f10, f11, f12, f13, f14, f15, f16, f17, f18, f19, f20, f21, f22, f23, f24, f25, f26, f27, f28, f29, f30, f31, f32, f33, f34].getD j 0) (fun j => [(PySem.W.fnOf "_law_bag" "_law_bag" (defArgs (top 53)) (defBody (top 53)) (defScope (top 53)) .none kV0 dc0 pm0 an0 cd0 ct0), (PySem.W.fnOf "is_int" "is_int" (defArgs (top 1)) (defBody (top 1)) (defScope (top 1)) .none kV1 dc1 pm1 an1 cd1 ct1), (PySem.W.fnOf "is_level" "is_level" (defArgs (top 30)) (defBody (top 30)) (defScope (top 30)) .none kV2 dc2 pm2 an2 cd2 ct2), (PySem.W.fnOf "__init__" "Screen.__init__" (defArgs (inClass (top 31) 0)) (defBody (inClass (top 31) 0)) (defScope (inClass (top 31) 0)) .none kV3 dc3 pm3 an3 cd3 ct3), (PySem.W.fnOf "levels" "Screen.levels" (defArgs (inClass (top 31) 2)) (defBody (inClass (top 31) 2)) (defScope (inClass (top 31) 2)) .none kV4 dc4 pm4 an4 cd4 ct4), (PySem.W.fnOf "_law_made" "_law_made" (defArgs (top 58)) (defBody (top 58)) (defScope (top 58)) .none kV5 dc5 pm5 an5 cd5 ct5), (PySem.W.fnOf "shades" "Screen.shades" (defArgs (inClass (top 31) 5)) (defBody (inClass (top 31) 5)) (defScope (inClass (top 31) 5)) .none kV6 dc6 pm6 an6 cd6 ct6), (PySem.W.fnOf "_law_bad_plates" "_law_bad_plates" (defArgs (top 63)) (defBody (top 63)) (defScope (top 63)) .none kV7 dc7 pm7 an7 cd7 ct7), (PySem.W.fnOf "_law_bad_windows" "_law_bad_windows" (defArgs (top 60)) (defBody (top 60)) (defScope (top 60)) .none kV8 dc8 pm8 an8 cd8 ct8), (PySem.W.fnOf "_law_pick" "_law_pick" (defArgs (top 54)) (defBody (top 54)) (defScope (top 54)) .none kV9 dc9 pm9 an9 cd9 ct9), (PySem.W.fnOf "_law_levels" "_law_levels" (defArgs (top 55)) (defBody (top 55)) (defScope (top 55)) .none kV10 dc10 pm10 an10 cd10 ct10), (PySem.W.fnOf "_law_shade" "_law_shade" (defArgs (top 56)) (defBody (top 56)) (defScope (top 56)) .none kV11 dc11 pm11 an11 cd11 ct11), (PySem.W.fnOf "_law_plates" "_law_plates" (defArgs (top 57)) (defBody (top 57)) (defScope (top 57)) .none kV12 dc12 pm12 an12 cd12 ct12), (PySem.W.fnOf "_law_class" "_law_class" (defArgs (top 59)) (defBody (top 59)) (defScope (top 59)) .none kV13 dc13 pm13 an13 cd13 ct13), (PySem.W.fnOf "is_whole" "is_whole" (defArgs (top 2)) (defBody (top 2)) (defScope (top 2)) .none kV14 dc14 pm14 an14 cd14 ct14), (PySem.W.fnOf "is_shade" "is_shade" (defArgs (top 29)) (defBody (top 29)) (defScope (top 29)) .none kV15 dc15 pm15 an15 cd15 ct15), (PySem.W.fnOf "is_coordinate" "is_coordinate" (defArgs (top 38)) (defBody (top 38)) (defScope (top 38)) .none kV16 dc16 pm16 an16 cd16 ct16), (PySem.W.fnOf "is_plate" "is_plate" (defArgs (top 39)) (defBody (top 39)) (defScope (top 39)) .none kV17 dc17 pm17 an17 cd17 ct17), (PySem.W.fnOf "require_plates" "require_plates" (defArgs (top 40)) (defBody (top 40)) (defScope (top 40)) .none kV18 dc18 pm18 an18 cd18 ct18), (PySem.W.fnOf "is_window" "is_window" (defArgs (top 35)) (defBody (top 35)) (defScope (top 35)) .none kV19 dc19 pm19 an19 cd19 ct19), (PySem.W.fnOf "require_window" "require_window" (defArgs (top 36)) (defBody (top 36)) (defScope (top 36)) .none kV20 dc20 pm20 an20 cd20 ct20), (PySem.W.fnOf "depth" "Screen.depth" (defArgs (inClass (top 31) 3)) (defBody (inClass (top 31) 3)) (defScope (inClass (top 31) 3)) .none kV21 dc21 pm21 an21 cd21 ct21), (PySem.W.fnOf "looks_of" "looks_of" (defArgs (top 41)) (defBody (top 41)) (defScope (top 41)) .none kV22 dc22 pm22 an22 cd22 ct22), (PySem.W.fnOf "bit_of" "bit_of" (defArgs (top 42)) (defBody (top 42)) (defScope (top 42)) .none kV23 dc23 pm23 an23 cd23 ct23), (PySem.W.fnOf "step_of" "step_of" (defArgs (top 43)) (defBody (top 43)) (defScope (top 43)) .none kV24 dc24 pm24 an24 cd24 ct24), (PySem.W.fnOf "may_be" "may_be" (defArgs (top 44)) (defBody (top 44)) (defScope (top 44)) .none kV25 dc25 pm25 an25 cd25 ct25), (PySem.W.fnOf "less_so_far" "less_so_far" (defArgs (top 45)) (defBody (top 45)) (defScope (top 45)) .none kV26 dc26 pm26 an26 cd26 ct26), (PySem.W.fnOf "tally" "tally" (defArgs (top 46)) (defBody (top 46)) (defScope (top 46)) .none kV27 dc27 pm27 an27 cd27 ct27), (PySem.W.fnOf "ink_list" "ink_list" (defArgs (top 49)) (defBody (top 49)) (defScope (top 49)) .none kV28 dc28 pm28 an28 cd28 ct28), (PySem.W.fnOf "ink_counts" "ink_counts" (defArgs (top 50)) (defBody (top 50)) (defScope (top 50)) .none kV29 dc29 pm29 an29 cd29 ct29), (PySem.W.fnOf "covered" "covered" (defArgs (top 51)) (defBody (top 51)) (defScope (top 51)) .none kV30 dc30 pm30 an30 cd30 ct30), (PySem.W.fnOf "_law_told" "_law_told" (defArgs (top 61)) (defBody (top 61)) (defScope (top 61)) .none kV31 dc31 pm31 an31 cd31 ct31), (PySem.W.fnOf "_law_both" "_law_both" (defArgs (top 62)) (defBody (top 62)) (defScope (top 62)) .none kV32 dc32 pm32 an32 cd32 ct32), (PySem.W.fnOf "_law_right" "_law_right" (defArgs (top 64)) (defBody (top 64)) (defScope (top 64)) .none kV33 dc33 pm33 an33 cd33 ct33), (PySem.W.fnOf "law" "law" (defArgs (top 65)) (defBody (top 65)) (defScope (top 65)) .none kV34 dc34 pm34 an34 cd34 ct34)].getD j (PySem.W.fnOf "law" "law" (defArgs (top 65)) (defBody (top 65)) (defScope (top 65)) .none kV34 dc34 pm34 an34 cd34 ct34)) := {
    f_z_law_bag := F0,
    b_z_law_bag := B0,
    m_z_law_bag := PySem.W.mg_of X G a0,
    f_is_int := F1,
    b_is_int := B1,
    m_is_int := PySem.W.mg_of X G a1,
    f_is_level := F2,
    b_is_level := B2,
    m_is_level := PySem.W.mg_of X G a2,
    f_Screen___init := F3,
    b_Screen___init := B3,
    mk0 := ⟨mk0, a3, i3, kc0⟩,
    f_Screen_levels := F4,
    b_Screen_levels := B4,
    p_Screen_levels := ⟨p4, a4, b4, d4, _, e4⟩,
    f_z_law_made_v1 := F5,
    b_z_law_made_v1 := B5,
    m_z_law_made_v1 := PySem.W.mg_of X G a5,
    f_Screen_shades := F6,
    b_Screen_shades := B6,
    p_Screen_shades := ⟨p6, a6, b6, d6, _, e6⟩,
    f_z_law_bad_plates := F7,
    b_z_law_bad_plates := B7,
    m_z_law_bad_plates := PySem.W.mg_of X G a7,
    f_z_law_bad_windows := F8,
    b_z_law_bad_windows := B8,
    m_z_law_bad_windows := PySem.W.mg_of X G a8,
    f_z_law_pick := F9,
    b_z_law_pick := B9,
    m_z_law_pick := PySem.W.mg_of X G a9,
    f_z_law_levels_v1 := F10,
    b_z_law_levels_v1 := B10,
    m_z_law_levels_v1 := PySem.W.mg_of X G a10,
    f_z_law_shade_v1 := F11,
    b_z_law_shade_v1 := B11,
    m_z_law_shade_v1 := PySem.W.mg_of X G a11,
    f_z_law_plates_v1 := F12,
    b_z_law_plates_v1 := B12,
    m_z_law_plates_v1 := PySem.W.mg_of X G a12,
    f_z_law_class_v2 := F13,
    b_z_law_class_v2 := B13,
    m_z_law_class_v2 := PySem.W.mg_of X G a13,
    f_is_whole := F14,
    b_is_whole := B14,
    m_is_whole := PySem.W.mg_of X G a14,
    f_is_shade := F15,
    b_is_shade := B15,
    m_is_shade := PySem.W.mg_of X G a15,
    f_is_coordinate := F16,
    b_is_coordinate := B16,
    m_is_coordinate := PySem.W.mg_of X G a16,
    f_is_plate := F17,
    b_is_plate := B17,
    m_is_plate := PySem.W.mg_of X G a17,
    f_require_plates := F18,
    b_require_plates := B18,
    m_require_plates := PySem.W.mg_of X G a18,
    f_is_window := F19,
    b_is_window := B19,
    m_is_window := PySem.W.mg_of X G a19,
    f_require_window := F20,
    b_require_window := B20,
    m_require_window := PySem.W.mg_of X G a20,
    f_Screen_depth := F21,
    b_Screen_depth := B21,
    p_Screen_depth := ⟨p21, a21, b21, d21, _, e21⟩,
    f_looks_of := F22,
    b_looks_of := B22,
    m_looks_of := PySem.W.mg_of X G a22,
    f_bit_of := F23,
    b_bit_of := B23,
    m_bit_of := PySem.W.mg_of X G a23,
    f_step_of := F24,
    b_step_of := B24,
    m_step_of := PySem.W.mg_of X G a24,
    f_may_be := F25,
    b_may_be := B25,
    m_may_be := PySem.W.mg_of X G a25,
    f_less_so_far := F26,
    b_less_so_far := B26,
    m_less_so_far := PySem.W.mg_of X G a26,
    f_tally := F27,
    b_tally := B27,
    m_tally := PySem.W.mg_of X G a27,
    f_ink_list := F28,
    b_ink_list := B28,
    m_ink_list := PySem.W.mg_of X G a28,
    f_ink_counts := F29,
    b_ink_counts := B29,
    m_ink_counts := PySem.W.mg_of X G a29,
    f_covered := F30,
    b_covered := B30,
    m_covered := PySem.W.mg_of X G a30,
    f_z_law_told := F31,
    b_z_law_told := B31,
    m_z_law_told := PySem.W.mg_of X G a31,
    f_z_law_both := F32,
    b_z_law_both := B32,
    m_z_law_both := PySem.W.mg_of X G a32,
    f_z_law_right := F33,
    b_z_law_right := B33,
    m_z_law_right := PySem.W.mg_of X G a33,
    f_law := F34,
    b_law := B34,
    m_law := PySem.W.mg_of X G a34,
    cf0 := ClsF.of ⟨pg0, hd0, po0, sa0⟩ ha0 hn0 tk0 mro0 ty0 (by intro t ht; simp only [List.mem_cons, List.not_mem_nil, or_false] at ht; rcases ht with rfl | rfl | rfl | rfl | rfl | rfl <;> assumption) (by intro t ht; simp only [List.mem_cons, List.not_mem_nil, or_false] at ht; rcases ht with rfl | rfl | rfl | rfl | rfl | rfl | rfl <;> assumption),
    c0 := PySem.W.mg_of X G aC0,
    na_own_levels := nf0own_levels,
    xs := XS,
    xfs := XFS,
    gx100 := PySem.W.mg_of X G ax100,
    gx101 := PySem.W.mg_of X G ax101,
    gx102 := PySem.W.mg_of X G ax102,
    gx103 := PySem.W.mg_of X G ax103,
    gx104 := PySem.W.mg_of X G ax104,
    gx105 := PySem.W.mg_of X G ax105,
    gx106 := PySem.W.mg_of X G ax106,
    gx107 := PySem.W.mg_of X G ax107,
    gx108 := PySem.W.mg_of X G ax108,
    gx109 := PySem.W.mg_of X G ax109,
    gx110 := PySem.W.mg_of X G ax110,
    gx111 := PySem.W.mg_of X G ax111,
    gx112 := PySem.W.mg_of X G ax112,
    gx113 := PySem.W.mg_of X G ax113,
    gx114 := PySem.W.mg_of X G ax114,
    gx115 := PySem.W.mg_of X G ax115,
    gx116 := PySem.W.mg_of X G ax116,
    gx117 := PySem.W.mg_of X G ax117,
    gx118 := PySem.W.mg_of X G ax118,
    gx119 := PySem.W.mg_of X G ax119,
    xi110 := xi110,
    n_ValueError := PySem.W.mg_none_of X G n_ValueError,
    n_all := PySem.W.mg_none_of X G n_all,
    n_bool := PySem.W.mg_none_of X G n_bool,
    n_enumerate := PySem.W.mg_none_of X G n_enumerate,
    n_int := PySem.W.mg_none_of X G n_int,
    n_isinstance := PySem.W.mg_none_of X G n_isinstance,
    n_len := PySem.W.mg_none_of X G n_len,
    n_list := PySem.W.mg_none_of X G n_list,
    n_max := PySem.W.mg_none_of X G n_max,
    n_range := PySem.W.mg_none_of X G n_range,
    n_repr := PySem.W.mg_none_of X G n_repr,
    n_sorted := PySem.W.mg_none_of X G n_sorted,
    n_sum := PySem.W.mg_none_of X G n_sum,
    n_tuple := PySem.W.mg_none_of X G n_tuple,
    n_zip := PySem.W.mg_none_of X G n_zip,
    k_MOST_INKS := ⟨_, PySem.W.mg_of X G q_MOST_INKS⟩,
    k_MOST_LEVELS := ⟨_, PySem.W.mg_of X G q_MOST_LEVELS⟩,
    k_MOST_PLACE := ⟨_, PySem.W.mg_of X G q_MOST_PLACE⟩ }
  exact ⟨(fun j => [C0, 0, 0, 0, 0, 0, 0, 0, 0, 0, 0, 0, 0, 0, 0, 0, 0, 0, 0, 0, 0, 0, 0, 0, 0, 0, 0, 0, 0, 0, 0, 0, 0, 0, 0, 0, 0, 0, 0, 0, 0, 0, 0, 0, 0, 0, 0, 0, 0, 0, 0, 0, 0, 0, 0, 0, 0, 0, 0, 0, 0, 0, 0, 0, 0, 0, 0, 0, 0, 0, 0, 0, 0, 0, 0, 0, 0, 0, 0, 0, 0, 0, 0, 0, 0, 0, 0, 0, 0, 0, 0, 0, 0, 0, 0, 0, 0, 0, 0, 0, C100, C101, C102, C103, C104, C105, C106, C107, C108, C109, C110, C111, C112, C113, C114, C115, C116, C117, C118, C119].getD j 0), (PySem.W.fnOf "law" "law" (defArgs (top 65)) (defBody (top 65)) (defScope (top 65)) .none kV34 dc34 pm34 an34 cd34 ct34), (fun s v => .of_eq rfl), fun base _ _ => ok_law T⟩
theorem walk {l : PySem.W.OpenLaw} {q : Program} {loose : List Str} {XP : (Str → Option Value) → Heap → Prop} {YP : World → Heap → Prop} {d : DefRec} {K : Params → PySem.W.Frag} (hn : l.most = some 63) (hdf : d.params.defaults = [])
    (hY : ∀ (w : World) (h : Heap), YP w h → (K w.params).In h)
    (F : ∀ (w : World) (mg : Str → Option Value) (fa : Addr) (h : Heap), (K w.params).In h → h.Ns mainGlobals mg → mg d.name = some (.ref fa) →
      ∃ (cls : Nat → Addr) (fd : FuncData), (∀ (s : Shared) (u : Value), BindsTo s fd ⟨[u], []⟩ [("script", u)]) ∧ ∀ base : Heap, (K w.params).In base → base.Ns mainGlobals mg → FnG l.prog w (K w.params) mg base 10 fa fd ["script"] (spF ⟨K w.params, cls⟩ 1 s_law)) :
    PySem.W.WalkO q loose XP YP l.row.toRowW d [] (fun f vs => PySem.call f vs) :=
  walk_ofG (k := 10) (x := "script") hn (by decide) hdf ⟨rfl, by decide, by decide⟩ hY F law_true
end K29
open PySem PySem.W PyProof.Rows
set_option maxRecDepth 100000 in
set_option maxHeartbeats 0 in
theorem PySem.Challenge.cw_ditherdepths_k29_errors_of_inks_holds : PySem.Challenge.rw_ditherdepths_k29_errors_of_inks.Holds := by
  w_on; o_law; k_head; (case hw => w_witness2)
  k_fill
  refine K29.walk (l := PySem.Challenge.rw_ditherdepths_k29_errors_of_inks) rfl rfl (fun w h Y => PySem.W.kIn_of Y) ?F
  case F =>
    intro w mg fa h KX G hmg
    refine' K29.all_mk KX G hmg ?aC0 ?pg0 ?hd0 ?po0 ?sa0 ?mk0 ?kc0 ?ha0 ?hn0 ?tk0 ?mro0 ?ty0 ?y0bool ?y0int ?y0str ?y0tuple ?y0list ?y0dict ?z0NoneType ?z0bool ?z0int ?z0str ?z0tuple ?z0list ?z0dict ?nf0own_levels ?xhn ?xtk ?ax100 ?xo100 ?xa100 ?xg100 ?xh100 ?xk100 ?ax101 ?xo101 ?xa101 ?xg101 ?xh101 ?xk101 ?xs101 ?xn101 ?xd101 ?xt101 ?xf101 ?xl101 ?xc101 ?ax102 ?xo102 ?xa102 ?xg102 ?xh102 ?xk102 ?xs102 ?xn102 ?xd102 ?xt102 ?xf102 ?xl102 ?xc102 ?ax103 ?xo103 ?xa103 ?xg103 ?xh103 ?xk103 ?xs103 ?xn103 ?xd103 ?xt103 ?xf103 ?xl103 ?xc103 ?ax104 ?xo104 ?xa104 ?xg104 ?xh104 ?xk104 ?xs104 ?xn104 ?xd104 ?xt104 ?xf104 ?xl104 ?xc104 ?ax105 ?xo105 ?xa105 ?xg105 ?xh105 ?xk105 ?xs105 ?xn105 ?xd105 ?xt105 ?xf105 ?xl105 ?xc105 ?ax106 ?xo106 ?xa106 ?xg106 ?xh106 ?xk106 ?xs106 ?xn106 ?xd106 ?xt106 ?xf106 ?xl106 ?xc106 ?ax107 ?xo107 ?xa107 ?xg107 ?xh107 ?xk107 ?xs107 ?xn107 ?xd107 ?xt107 ?xf107 ?xl107 ?xc107 ?ax108 ?xo108 ?xa108 ?xg108 ?xh108 ?xk108 ?ax109 ?xo109 ?xa109 ?xg109 ?xh109 ?xk109 ?ax110 ?xo110 ?xa110 ?xg110 ?xh110 ?xk110 ?xi110 ?ax111 ?xo111 ?xa111 ?xg111 ?xh111 ?xk111 ?ax112 ?xo112 ?xa112 ?xg112 ?xh112 ?xk112 ?ax113 ?xo113 ?xa113 ?xg113 ?xh113 ?xk113 ?ax114 ?xo114 ?xa114 ?xg114 ?xh114 ?xk114 ?ax115 ?xo115 ?xa115 ?xg115 ?xh115 ?xk115 ?ax116 ?xo116 ?xa116 ?xg116 ?xh116 ?xk116 ?ax117 ?xo117 ?xa117 ?xg117 ?xh117 ?xk117 ?ax118 ?xo118 ?xa118 ?xg118 ?xh118 ?xk118 ?ax119 ?xo119 ?xa119 ?xg119 ?xh119 ?xk119 ?a0 ?l0 ?c0 ?k0 ?a1 ?l1 ?c1 ?k1 ?a2 ?l2 ?c2 ?k2 ?a3 ?i3 ?l3 ?c3 ?k3 ?a4 ?b4 ?d4 ?e4 ?l4 ?c4 ?k4 ?a5 ?l5 ?c5 ?k5 ?a6 ?b6 ?d6 ?e6 ?l6 ?c6 ?k6 ?a7 ?l7 ?c7 ?k7 ?a8 ?l8 ?c8 ?k8 ?a9 ?l9 ?c9 ?k9 ?a10 ?l10 ?c10 ?k10 ?a11 ?l11 ?c11 ?k11 ?a12 ?l12 ?c12 ?k12 ?a13 ?l13 ?c13 ?k13 ?a14 ?l14 ?c14 ?k14 ?a15 ?l15 ?c15 ?k15 ?a16 ?l16 ?c16 ?k16 ?a17 ?l17 ?c17 ?k17 ?a18 ?l18 ?c18 ?k18 ?a19 ?l19 ?c19 ?k19 ?a20 ?l20 ?c20 ?k20 ?a21 ?b21 ?d21 ?e21 ?l21 ?c21 ?k21 ?a22 ?l22 ?c22 ?k22 ?a23 ?l23 ?c23 ?k23 ?a24 ?l24 ?c24 ?k24 ?a25 ?l25 ?c25 ?k25 ?a26 ?l26 ?c26 ?k26 ?a27 ?l27 ?c27 ?k27 ?a28 ?l28 ?c28 ?k28 ?a29 ?l29 ?c29 ?k29 ?a30 ?l30 ?c30 ?k30 ?a31 ?l31 ?c31 ?k31 ?a32 ?l32 ?c32 ?k32 ?a33 ?l33 ?c33 ?k33 ?a34 ?l34 ?c34 ?k34 ?n_ValueError ?n_all ?n_bool ?n_enumerate ?n_int ?n_isinstance ?n_len ?n_list ?n_max ?n_range ?n_repr ?n_sorted ?n_sum ?n_tuple ?n_zip ?q_MOST_INKS ?q_MOST_LEVELS ?q_MOST_PLACE
    (case aC0 => k_is)
    (case pg0 => k_is)
    (case hd0 => k_is)
    (case po0 => k_is)
    (case sa0 => k_is)
    (case mk0 => k_is)
    (case kc0 => k_is)
    (case ha0 => k_is)
    (case hn0 => k_is)
    (case tk0 => k_is)
    (case mro0 => k_is)
    (case ty0 => k_is)
    (case y0bool => k_is)
    (case y0int => k_is)
    (case y0str => k_is)
    (case y0tuple => k_is)
    (case y0list => k_is)
    (case y0dict => k_is)
    (case z0NoneType => k_is)
    (case z0bool => k_is)
    (case z0int => k_is)
    (case z0str => k_is)
    (case z0tuple => k_is)
    (case z0list => k_is)
    (case z0dict => k_is)
    (case nf0own_levels => k_is)
    (case xhn => k_is)
    (case xtk => k_is)
    (case ax100 => k_is)
    (case xo100 => k_is)
    (case xa100 => k_is)
    (case xg100 => k_is)
    (case xh100 => k_is)
    (case xk100 => k_is)
    (case ax101 => k_is)
    (case xo101 => k_is)
    (case xa101 => k_is)
    (case xg101 => k_is)
    (case xh101 => k_is)
    (case xk101 => k_is)
    (case xs101 => k_is)
    (case xn101 => k_is)
    (case xd101 => k_is)
    (case xt101 => k_is)
    (case xf101 => k_is)
    (case xl101 => k_is)
    (case xc101 => k_is)
    (case ax102 => k_is)
    (case xo102 => k_is)
    (case xa102 => k_is)
    (case xg102 => k_is)
    (case xh102 => k_is)
    (case xk102 => k_is)
    (case xs102 => k_is)
    (case xn102 => k_is)
    (case xd102 => k_is)
    (case xt102 => k_is)
    (case xf102 => k_is)
    (case xl102 => k_is)
    (case xc102 => k_is)
    (case ax103 => k_is)
    (case xo103 => k_is)
    (case xa103 => k_is)
    (case xg103 => k_is)
    (case xh103 => k_is)
    (case xk103 => k_is)
    (case xs103 => k_is)
    (case xn103 => k_is)
    (case xd103 => k_is)
    (case xt103 => k_is)
    (case xf103 => k_is)
    (case xl103 => k_is)
    (case xc103 => k_is)
    (case ax104 => k_is)
    (case xo104 => k_is)
    (case xa104 => k_is)
    (case xg104 => k_is)
    (case xh104 => k_is)
    (case xk104 => k_is)
    (case xs104 => k_is)
    (case xn104 => k_is)
    (case xd104 => k_is)
    (case xt104 => k_is)
    (case xf104 => k_is)
    (case xl104 => k_is)
    (case xc104 => k_is)
    (case ax105 => k_is)
    (case xo105 => k_is)
    (case xa105 => k_is)
    (case xg105 => k_is)
    (case xh105 => k_is)
    (case xk105 => k_is)
    (case xs105 => k_is)
    (case xn105 => k_is)
    (case xd105 => k_is)
    (case xt105 => k_is)
    (case xf105 => k_is)
    (case xl105 => k_is)
    (case xc105 => k_is)
    (case ax106 => k_is)
    (case xo106 => k_is)
    (case xa106 => k_is)
    (case xg106 => k_is)
    (case xh106 => k_is)
    (case xk106 => k_is)
    (case xs106 => k_is)
    (case xn106 => k_is)
    (case xd106 => k_is)
    (case xt106 => k_is)
    (case xf106 => k_is)
    (case xl106 => k_is)
    (case xc106 => k_is)
    (case ax107 => k_is)
    (case xo107 => k_is)
    (case xa107 => k_is)
    (case xg107 => k_is)
    (case xh107 => k_is)
    (case xk107 => k_is)
    (case xs107 => k_is)
    (case xn107 => k_is)
    (case xd107 => k_is)
    (case xt107 => k_is)
    (case xf107 => k_is)
    (case xl107 => k_is)
    (case xc107 => k_is)
    (case ax108 => k_is)
    (case xo108 => k_is)
    (case xa108 => k_is)
    (case xg108 => k_is)
    (case xh108 => k_is)
    (case xk108 => k_is)
    (case ax109 => k_is)
    (case xo109 => k_is)
    (case xa109 => k_is)
    (case xg109 => k_is)
    (case xh109 => k_is)
    (case xk109 => k_is)
    (case ax110 => k_is)
    (case xo110 => k_is)
    (case xa110 => k_is)
    (case xg110 => k_is)
    (case xh110 => k_is)
    (case xk110 => k_is)
    (case xi110 => k_exc)
    (case ax111 => k_is)
    (case xo111 => k_is)
    (case xa111 => k_is)
    (case xg111 => k_is)
    (case xh111 => k_is)
    (case xk111 => k_is)
    (case ax112 => k_is)
    (case xo112 => k_is)
    (case xa112 => k_is)
    (case xg112 => k_is)
    (case xh112 => k_is)
    (case xk112 => k_is)
    (case ax113 => k_is)
    (case xo113 => k_is)
    (case xa113 => k_is)
    (case xg113 => k_is)
    (case xh113 => k_is)
    (case xk113 => k_is)
    (case ax114 => k_is)
    (case xo114 => k_is)
    (case xa114 => k_is)
    (case xg114 => k_is)
    (case xh114 => k_is)
    (case xk114 => k_is)
    (case ax115 => k_is)
    (case xo115 => k_is)
    (case xa115 => k_is)
    (case xg115 => k_is)
    (case xh115 => k_is)
    (case xk115 => k_is)
    (case ax116 => k_is)
    (case xo116 => k_is)
    (case xa116 => k_is)
    (case xg116 => k_is)
    (case xh116 => k_is)
    (case xk116 => k_is)
    (case ax117 => k_is)
    (case xo117 => k_is)
    (case xa117 => k_is)
    (case xg117 => k_is)
    (case xh117 => k_is)
    (case xk117 => k_is)
    (case ax118 => k_is)
    (case xo118 => k_is)
    (case xa118 => k_is)
    (case xg118 => k_is)
    (case xh118 => k_is)
    (case xk118 => k_is)
    (case ax119 => k_is)
    (case xo119 => k_is)
    (case xa119 => k_is)
    (case xg119 => k_is)
    (case xh119 => k_is)
    (case xk119 => k_is)
    (case a0 => k_is)
    (case l0 => k_is)
    (case c0 => k_is)
    (case k0 => k_is)
    (case a1 => k_is)
    (case l1 => k_is)
    (case c1 => k_is)
    (case k1 => k_is)
    (case a2 => k_is)
    (case l2 => k_is)
    (case c2 => k_is)
    (case k2 => k_is)
    (case a3 => k_is)
    (case i3 => k_is)
    (case l3 => k_is)
    (case c3 => k_is)
    (case k3 => k_is)
    (case a4 => k_is)
    (case b4 => k_is)
    (case d4 => k_is)
    (case e4 => k_is)
    (case l4 => k_is)
    (case c4 => k_is)
    (case k4 => k_is)
    (case a5 => k_is)
    (case l5 => k_is)
    (case c5 => k_is)
    (case k5 => k_is)
    (case a6 => k_is)
    (case b6 => k_is)
    (case d6 => k_is)
    (case e6 => k_is)
    (case l6 => k_is)
    (case c6 => k_is)
    (case k6 => k_is)
    (case a7 => k_is)
    (case l7 => k_is)
    (case c7 => k_is)
    (case k7 => k_is)
    (case a8 => k_is)
    (case l8 => k_is)
    (case c8 => k_is)
    (case k8 => k_is)
    (case a9 => k_is)
    (case l9 => k_is)
    (case c9 => k_is)
    (case k9 => k_is)
    (case a10 => k_is)
    (case l10 => k_is)
    (case c10 => k_is)
    (case k10 => k_is)
    (case a11 => k_is)
    (case l11 => k_is)
    (case c11 => k_is)
    (case k11 => k_is)
    (case a12 => k_is)
    (case l12 => k_is)
    (case c12 => k_is)
    (case k12 => k_is)
    (case a13 => k_is)
    (case l13 => k_is)
    (case c13 => k_is)
    (case k13 => k_is)
    (case a14 => k_is)
    (case l14 => k_is)
    (case c14 => k_is)
    (case k14 => k_is)
    (case a15 => k_is)
    (case l15 => k_is)
    (case c15 => k_is)
    (case k15 => k_is)
    (case a16 => k_is)
    (case l16 => k_is)
    (case c16 => k_is)
    (case k16 => k_is)
    (case a17 => k_is)
    (case l17 => k_is)
    (case c17 => k_is)
    (case k17 => k_is)
    (case a18 => k_is)
    (case l18 => k_is)
    (case c18 => k_is)
    (case k18 => k_is)
    (case a19 => k_is)
    (case l19 => k_is)
    (case c19 => k_is)
    (case k19 => k_is)
    (case a20 => k_is)
    (case l20 => k_is)
    (case c20 => k_is)
    (case k20 => k_is)
    (case a21 => k_is)
    (case b21 => k_is)
    (case d21 => k_is)
    (case e21 => k_is)
    (case l21 => k_is)
    (case c21 => k_is)
    (case k21 => k_is)
    (case a22 => k_is)
    (case l22 => k_is)
    (case c22 => k_is)
    (case k22 => k_is)
    (case a23 => k_is)
    (case l23 => k_is)
    (case c23 => k_is)
    (case k23 => k_is)
    (case a24 => k_is)
    (case l24 => k_is)
    (case c24 => k_is)
    (case k24 => k_is)
    (case a25 => k_is)
    (case l25 => k_is)
    (case c25 => k_is)
    (case k25 => k_is)
    (case a26 => k_is)
    (case l26 => k_is)
    (case c26 => k_is)
    (case k26 => k_is)
    (case a27 => k_is)
    (case l27 => k_is)
    (case c27 => k_is)
    (case k27 => k_is)
    (case a28 => k_is)
    (case l28 => k_is)
    (case c28 => k_is)
    (case k28 => k_is)
    (case a29 => k_is)
    (case l29 => k_is)
    (case c29 => k_is)
    (case k29 => k_is)
    (case a30 => k_is)
    (case l30 => k_is)
    (case c30 => k_is)
    (case k30 => k_is)
    (case a31 => k_is)
    (case l31 => k_is)
    (case c31 => k_is)
    (case k31 => k_is)
    (case a32 => k_is)
    (case l32 => k_is)
    (case c32 => k_is)
    (case k32 => k_is)
    (case a33 => k_is)
    (case l33 => k_is)
    (case c33 => k_is)
    (case k33 => k_is)
    (case a34 => k_is)
    (case l34 => k_is)
    (case c34 => k_is)
    (case k34 => k_is)
    (case n_ValueError => k_is)
    (case n_all => k_is)
    (case n_bool => k_is)
    (case n_enumerate => k_is)
    (case n_int => k_is)
    (case n_isinstance => k_is)
    (case n_len => k_is)
    (case n_list => k_is)
    (case n_max => k_is)
    (case n_range => k_is)
    (case n_repr => k_is)
    (case n_sorted => k_is)
    (case n_sum => k_is)
    (case n_tuple => k_is)
    (case n_zip => k_is)
    (case q_MOST_INKS => k_is)
    (case q_MOST_LEVELS => k_is)
    (case q_MOST_PLACE => k_is)
#print axioms PySem.Challenge.cw_ditherdepths_k29_errors_of_inks_holds
