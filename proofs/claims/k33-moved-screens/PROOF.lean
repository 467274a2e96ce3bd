import PyProof.Rows.All
import Wide.All
import OpenK.AllK
import Wide.FinOn
import HandS.ForExc
import HandS.Comp
import HandS.Iter
import HandS.Dict
import HandS.Text
import HandS.Property
import HandS.Conv
import HandS.Style
import HandS.Wide
import HandS.WideBits
import HandS.Zip
import HandS.Strs
import HandS.Deep
import HandS.DeepEq
import HandS.IsInst
import HandS.TupAny
import HandS.RaiseMore
import KE.GoesMore
import PyProof.LongRange
import PyProof.ReprRoads
import KE.KeyNested
import PyProof.DictRoadsH
import HandS.SortInts
import HandS.TryOnly
import HandS.Ends
import HandS.Star
import HandS.SetFor
import KE.DataMinMax
import PyProof.Rows.RowBridgeK
import KE.KRevSl
import HandS.Replace
import KE.SortData
import KE.KDictDisplayH
import HandS.DictTup
import KE.GoesZip
import HandS.Zip0
import HandS.TupLe
import PyProof.NeKinds
import KE.KExcIs
import HandS.ExcValue
import HandS.Spec
import HandS.More
import HandS.HeadHook3
import PyProof.MaxThree
import PySem.Challenge.RW_ditherdepths_k33_moved_screens
set_option Elab.async false
set_option linter.all false
set_option maxRecDepth 100000
/-! a semantic layer: pure data, store cells, outcomes -/
namespace Dd
open PySem PySem.Spec PyProof.Rows L2

/-- pure data -/
inductive D where
  | non | bl (b : Bool) | int (i : Int) | str (s : Str)
  | tup (l : List D) | lst (l : List D) | scr (l : List D) | edct
  | exn (k : Nat) (f : D) | scp (l : List D)
  | fn (k : Nat) | opq (k : Nat) | ol (l : List D) | dd (l : List D)
  deriving Inhabited
/-- a value: pure, or a cell of the store -/
inductive R where
  | p (d : D) | r (n : Nat)
  deriving Inhabited
/-- what a cell holds -/
inductive Con where
  | lst (l : List D) | dct (kvs : List (D × D)) | obj (k : Nat) (fs : List (Str × D)) | dt (kvs : List (D × D))
inductive Cell where
  | mu (o : Con) | fz (l : List D) | dead
abbrev Store := List Cell
structure Sg where
  sl : List (Option R)
  st : Store
/-- an own exception: its class's number, its field -/
structure Xn where
  k : Nat
  f : D
inductive Res (α : Type) where
  | ok (a : α) (S : Sg) | exc (x : Xn) (S : Sg) | bad
abbrev M (α : Type) := Sg → Res α
def M.pure {α : Type} (a : α) : M α := fun S => .ok a S
def M.bind {α β : Type} (f : M α) (g : α → M β) : M β := fun S => match f S with
  | .ok a S' => g a S'
  | .exc x S' => .exc x S'
  | .bad => .bad
instance : Monad M := { pure := M.pure, bind := M.bind }
def bad {α : Type} : M α := fun _ => .bad
def raiseX {α : Type} (x : Xn) : M α := fun S => .exc x S
section
variable {α β : Type}
theorem bind_ap (f : M α) (g : α → M β) (S : Sg) : (f >>= g) S = (match f S with | .ok a S' => g a S' | .exc x S' => .exc x S' | .bad => .bad) := rfl
theorem bind_ok {f : M α} {g : α → M β} {S S' : Sg} {a : α} (h : f S = .ok a S') : (f >>= g) S = g a S' := by rw [bind_ap, h]
theorem bind_exc {f : M α} {g : α → M β} {S S' : Sg} {x : Xn} (h : f S = .exc x S') : (f >>= g) S = .exc x S' := by rw [bind_ap, h]
theorem bind_bad {f : M α} {g : α → M β} {S : Sg} (h : f S = .bad) : (f >>= g) S = .bad := by rw [bind_ap, h]
end

/-- the static context: the written part, the classes by number -/
structure Cg where
  K : PySem.W.Frag
  cls : Nat → Addr
  fna : Nat → Addr
/-- ghosts: G what never changes any more, L what others keep, ρ where the cells stand, O the lists that objects own: by whom, as which attribute, what they hold -/
structure Gh where
  G : Hp
  L : Hp
  ρ : List Addr
  O : Addr → Option (Addr × Str × List V)
def Ext (H H' : Hp) : Prop := ∀ a o, H a = some o → H' a = some o
theorem Ext.refl {H : Hp} : Ext H H := fun _ _ h => h
theorem Ext.trans {H H1 H2 : Hp} (a : Ext H H1) (b : Ext H1 H2) : Ext H H2 := fun c o h => b c o (a c o h)
theorem Ext.upd {H : Hp} {p : Addr} {o : HO} (h : H p = none) : Ext H (upd H p o) := fun a u e => by rw [upd_ne (ne_of_none e h)]; exact e
theorem Ext.none {H H' : Hp} (e : Ext H H') {a : Addr} (h : H' a = none) : H a = none := by
  cases q : H a with
  | none => rfl
  | some o => rw [e _ _ q] at h; cases h
structure Gh.le (Γ Γ' : Gh) : Prop where
  g : Ext Γ.G Γ'.G
  l : Γ'.L = Γ.L
  r : ∃ t, Γ'.ρ = Γ.ρ ++ t
theorem Gh.le.refl {Γ : Gh} : Γ.le Γ := ⟨Ext.refl, rfl, [], by simp⟩
theorem Gh.le.trans {Γ Γ1 Γ2 : Gh} (a : Γ.le Γ1) (b : Γ1.le Γ2) : Γ.le Γ2 :=
  ⟨a.g.trans b.g, b.l.trans a.l, by
    obtain ⟨t, e⟩ := a.r
    obtain ⟨u, e'⟩ := b.r
    exact ⟨t ++ u, by rw [e', e, List.append_assoc]⟩⟩
theorem Gh.le.at {Γ Γ' : Gh} (h : Γ.le Γ') {n : Nat} {a : Addr} (e : Γ.ρ[n]? = some a) : Γ'.ρ[n]? = some a := by
  obtain ⟨t, q⟩ := h.r
  rw [q, List.getElem?_append_left (List.getElem?_eq_some_iff.mp e).1]
  exact e

/-- .. whatever others keep -/
structure Gh.sub (Γ Γ' : Gh) : Prop where
  g : Ext Γ.G Γ'.G
  r : ∃ t, Γ'.ρ = Γ.ρ ++ t
theorem Gh.le.sub {Γ Γ' : Gh} (h : Γ.le Γ') : Γ.sub Γ' := ⟨h.g, h.r⟩
theorem Gh.sub.trans {Γ Γ1 Γ2 : Gh} (a : Γ.sub Γ1) (b : Γ1.sub Γ2) : Γ.sub Γ2 :=
  ⟨a.g.trans b.g, by
    obtain ⟨t, e⟩ := a.r
    obtain ⟨u, e'⟩ := b.r
    exact ⟨t ++ u, by rw [e', e, List.append_assoc]⟩⟩
theorem Gh.sub.at {Γ Γ' : Gh} (h : Γ.sub Γ') {n : Nat} {a : Addr} (e : Γ.ρ[n]? = some a) : Γ'.ρ[n]? = some a := by
  obtain ⟨t, q⟩ := h.r
  rw [q, List.getElem?_append_left (List.getElem?_eq_some_iff.mp e).1]
  exact e
/-! ### data and values -/
/-- a tuple that is known to have no dict -/
def TupS (K : PySem.W.Frag) (G : Hp) (a : Addr) (vs : List V) : Prop :=
  (∃ o : Obj, G a = some (.frz o (.tup vs)) ∧ o.dict = none) ∨
    ∃ (o : Obj) (its : Array Value) (n : Nat), K.lookup a = some o ∧ o.cls = .type "tuple" ∧ o.dict = none ∧ o.data = .seq its n ∧ its.size ≤ sizeLine ∧ Vals vs its.toList
theorem TupS.sq {K : PySem.W.Frag} {G : Hp} {a : Addr} {vs : List V} (h : TupS K G a vs) : SqT K G a vs := by
  rcases h with ⟨o, h, _⟩ | ⟨o, its, n, h1, h2, _, h3, h4, h5⟩
  · exact .inl (.inr ⟨o, h⟩)
  · exact .inr ⟨o, its, n, h1, h2, h3, h4, h5⟩
theorem TupS.mono {K : PySem.W.Frag} {H H' : Hp} (e : Ext H H') {a : Addr} {xs : List V} (h : TupS K H a xs) : TupS K H' a xs := by
  rcases h with ⟨o, h, k⟩ | h
  · exact .inl ⟨o, e _ _ h, k⟩
  · exact .inr h
/-- the attribute of an own exception, by its class's number -/
def fldN (k : Nat) : Str := if k = 101 then "level" else if k = 105 then "part" else if k = 106 then "most" else if k = 107 then "count" else "item"
/-- an own exception's object at a -/
def ExV (cls : Value) (d : Option Addr) (a : Addr) : HO := .ext fun h => ∃ o fs, h.get? a = some o ∧ o.cls = cls ∧ o.dict = d ∧ o.data = .fields fs
/-! ### nested tuples of ints and truths as keys -/
mutual
def nkD : D → Option NestedKey
  | .int i => some (.num i)
  | .bl b => some (.num (if b = true then 1 else 0))
  | .tup l => (match nkL l with
    | some ks => some (.tup ks)
    | none => none)
  | _ => none
def nkL : List D → Option (List NestedKey)
  | [] => some []
  | d :: r => (match nkD d with
    | some k => (match nkL r with
      | some ks => some (k :: ks)
      | none => none)
    | none => none)
end
mutual
def noTxt : NestedKey → Bool
  | .text _ => false
  | .tup ks => noTxts ks
  | _ => true
def noTxts : List NestedKey → Bool
  | [] => true
  | k :: ks => noTxt k && noTxts ks
end
/-! ### a dict with such keys, by its raw entries -/
def entry0 (w0 : World) (x : NestedKey × Addr × Value) : DictEntry := ⟨x.1.hash w0, .ref x.2.1, x.2.2⟩
def RawAt (w0 : World) (d : Addr) (xs : List (NestedKey × Addr × Value)) (ep : Nat) (h : Heap) : Prop :=
  xs.length ≤ sizeLine ∧ (d == sysModules) = false ∧ ∃ o es, h.get? d = some o ∧ o.ExactDict ∧ o.data = .dict es ep ∧ es.toList = xs.map (entry0 w0) ∧ (xs.map (·.1)).Nodup
def rawD (w0 : World) (d : Addr) (xs : List (NestedKey × Addr × Value)) (ep : Nat) : HO := .ext (RawAt w0 d xs ep)
/-- keys and values by turns, and the entries -/
def Lnk : List D → List V → List (NestedKey × Addr × Value) → Prop
  | [], ws, xs => ws = [] ∧ xs = []
  | [_], _, _ => False
  | k :: _ :: r, ws, xs => ∃ b vv nk u ws' xs', ws = .ref b :: vv :: ws' ∧ xs = (nk, b, u) :: xs' ∧ nkD k = some nk ∧ nk.depth ≤ 8 ∧ noTxt nk = true ∧ RelV vv u ∧ Lnk r ws' xs'
mutual
def Rep (c : Cg) (G : Hp) : D → V → Prop
  | .non, v => v = .non
  | .bl b, v => v = .bl b
  | .int i, v => v = .int i
  | .str s, v => v = .str s
  | .tup l, v => ∃ a vs, v = .ref a ∧ TupS c.K G a vs ∧ RepL c G l vs
  | .lst l, v => ∃ a vs, v = .ref a ∧ G a = some (.lst vs) ∧ RepL c G l vs
  | .scp l, v => ∃ a vs, v = .ref a ∧ SqL c.K G a vs ∧ RepL c G l vs
  | .scr l, v => ∃ a dx b vs, v = .ref a ∧ G a = some (.ins (c.cls 0) dx [("own_levels", .ref b)]) ∧ TupS c.K G b vs ∧ RepL c G l vs
  | .edct, v => ∃ a, v = .ref a ∧ G a = some (.dK [])
  | .exn k f, v => ∃ a d, v = .ref a ∧ G a = some (ExV (.ref (c.cls k)) d a) ∧
      ((d = none ∧ f = .non ∧ (k ≤ 100 ∨ 108 ≤ k)) ∨ ∃ dx u, d = some dx ∧ G dx = some (.xd [(fldN k, u)]) ∧ Rep c G f u)
  | .fn k, v => v = .ref (c.fna k)
  | .opq k, v => ∃ a dx vs, v = .ref a ∧ G a = some (.ins (c.cls k) dx vs)
  | .ol _, _ => False
  | .dd l, v => ∃ a w0 xs ep ws, v = .ref a ∧ G a = some (rawD w0 a xs ep) ∧ RepL c G l ws ∧ Lnk l ws xs
def RepL (c : Cg) (G : Hp) : List D → List V → Prop
  | [], vs => vs = []
  | d :: ds, vs => ∃ v r, vs = v :: r ∧ Rep c G d v ∧ RepL c G ds r
end
theorem SqL.mono {K : PySem.W.Frag} {H H' : Hp} (e : Ext H H') {a : Addr} {xs : List V} (h : SqL K H a xs) : SqL K H' a xs := by
  rcases h with (h | ⟨o, h⟩) | h
  · exact .inl (.inl (e _ _ h))
  · exact .inl (.inr ⟨o, e _ _ h⟩)
  · exact .inr h
theorem SqT.mono {K : PySem.W.Frag} {H H' : Hp} (e : Ext H H') {a : Addr} {xs : List V} (h : SqT K H a xs) : SqT K H' a xs := by
  rcases h with (h | ⟨o, h⟩) | h
  · exact .inl (.inl (e _ _ h))
  · exact .inl (.inr ⟨o, e _ _ h⟩)
  · exact .inr h
mutual
theorem Rep.mono {c : Cg} {G G' : Hp} (e : Ext G G') : ∀ {d : D} {v : V}, Rep c G d v → Rep c G' d v
  | .non, v, h => h
  | .bl b, v, h => h
  | .int i, v, h => h
  | .str s, v, h => h
  | .tup l, v, h => by
    unfold Rep at h ⊢
    obtain ⟨a, vs, h1, h2, h3⟩ := h
    exact ⟨a, vs, h1, TupS.mono e h2, RepL.mono e h3⟩
  | .lst l, v, h => by
    unfold Rep at h ⊢
    obtain ⟨a, vs, h1, h2, h3⟩ := h
    exact ⟨a, vs, h1, e _ _ h2, RepL.mono e h3⟩
  | .scp l, v, h => by
    unfold Rep at h ⊢
    obtain ⟨a, vs, h1, h2, h3⟩ := h
    exact ⟨a, vs, h1, SqL.mono e h2, RepL.mono e h3⟩
  | .scr l, v, h => by
    unfold Rep at h ⊢
    obtain ⟨a, dx, b, vs, h1, h2, h3, h4⟩ := h
    exact ⟨a, dx, b, vs, h1, e _ _ h2, TupS.mono e h3, RepL.mono e h4⟩
  | .edct, v, h => by
    unfold Rep at h ⊢
    obtain ⟨a, h1, h2⟩ := h
    exact ⟨a, h1, e _ _ h2⟩
  | .exn k f, v, h => by
    unfold Rep at h ⊢
    obtain ⟨a, d, h1, h2, h3⟩ := h
    refine ⟨a, d, h1, e _ _ h2, ?_⟩
    rcases h3 with h3 | ⟨dx, u, h3, h4, h5⟩
    · exact .inl h3
    · exact .inr ⟨dx, u, h3, e _ _ h4, Rep.mono e h5⟩
  | .fn k, v, h => by unfold Rep at h ⊢; exact h
  | .opq k, v, h => by
    unfold Rep at h ⊢
    obtain ⟨a, dx, vs, h1, h2⟩ := h
    exact ⟨a, dx, vs, h1, e _ _ h2⟩
  | .ol l, v, h => by unfold Rep at h ⊢; exact h
  | .dd l, v, h => by
    unfold Rep at h ⊢
    obtain ⟨a, w0, xs, ep, ws, h1, h2, h3, h4⟩ := h
    exact ⟨a, w0, xs, ep, ws, h1, e _ _ h2, RepL.mono e h3, h4⟩
theorem RepL.mono {c : Cg} {G G' : Hp} (e : Ext G G') : ∀ {l : List D} {vs : List V}, RepL c G l vs → RepL c G' l vs
  | [], vs, h => by unfold RepL at h ⊢; exact h
  | d :: ds, vs, h => by
    unfold RepL at h ⊢
    obtain ⟨v, r, h1, h2, h3⟩ := h
    exact ⟨v, r, h1, Rep.mono e h2, RepL.mono e h3⟩
end
section
variable {c : Cg} {G : Hp}
theorem RepL.nil_iff {vs : List V} : RepL c G [] vs ↔ vs = [] := by unfold RepL; exact Iff.rfl
theorem RepL.cons_iff {d : D} {ds : List D} {vs : List V} : RepL c G (d :: ds) vs ↔ ∃ v r, vs = v :: r ∧ Rep c G d v ∧ RepL c G ds r := by
  constructor
  · intro h; unfold RepL at h; exact h
  · intro h; unfold RepL; exact h
theorem RepL.nil : RepL c G [] [] := RepL.nil_iff.mpr rfl
theorem RepL.cons {d : D} {ds : List D} {v : V} {vs : List V} (h : Rep c G d v) (t : RepL c G ds vs) : RepL c G (d :: ds) (v :: vs) := RepL.cons_iff.mpr ⟨v, vs, rfl, h, t⟩
theorem RepL.length : ∀ {ds : List D} {vs : List V}, RepL c G ds vs → vs.length = ds.length
  | [], vs, h => by rw [RepL.nil_iff.mp h]; rfl
  | d :: ds, vs, h => by
    obtain ⟨v, r, rfl, _, t⟩ := RepL.cons_iff.mp h
    simp [RepL.length t]
theorem RepL.get : ∀ {ds : List D} {vs : List V} {i : Nat} {d : D}, RepL c G ds vs → ds[i]? = some d → ∃ v, vs[i]? = some v ∧ Rep c G d v
  | [], vs, i, d, h, e => by simp at e
  | d' :: ds, vs, i, d, h, e => by
    obtain ⟨v, r, rfl, h1, t⟩ := RepL.cons_iff.mp h
    cases i with
    | zero => simp at e; subst e; exact ⟨v, rfl, h1⟩
    | succ i => exact RepL.get (i := i) t (by simpa using e)
theorem RepL.append : ∀ {ds es : List D} {vs ws : List V}, RepL c G ds vs → RepL c G es ws → RepL c G (ds ++ es) (vs ++ ws)
  | [], es, vs, ws, h, k => by rw [RepL.nil_iff.mp h]; exact k
  | d :: ds, es, vs, ws, h, k => by
    obtain ⟨v, r, rfl, h1, t⟩ := RepL.cons_iff.mp h
    exact RepL.cons h1 (RepL.append t k)
theorem RepL.one {d : D} {v : V} (h : Rep c G d v) : RepL c G [d] [v] := RepL.cons h RepL.nil
theorem RepL.set : ∀ {ds : List D} {vs : List V} {d : D} {v : V} (i : Nat), RepL c G ds vs → Rep c G d v → RepL c G (ds.set i d) (vs.set i v)
  | [], vs, d, v, i, h, k => by rw [RepL.nil_iff.mp h]; exact RepL.nil
  | d' :: ds, vs, d, v, i, h, k => by
    obtain ⟨v', r, rfl, h1, t⟩ := RepL.cons_iff.mp h
    cases i with
    | zero => exact RepL.cons k t
    | succ i => exact RepL.cons h1 (RepL.set i t k)
theorem RepL.take : ∀ {ds : List D} {vs : List V} (n : Nat), RepL c G ds vs → RepL c G (ds.take n) (vs.take n)
  | _, _, 0, _ => by simp; exact RepL.nil
  | [], vs, n + 1, h => by rw [RepL.nil_iff.mp h]; exact RepL.nil
  | d :: ds, vs, n + 1, h => by
    obtain ⟨v, r, rfl, h1, t⟩ := RepL.cons_iff.mp h
    exact RepL.cons h1 (RepL.take n t)
theorem RepL.drop : ∀ {ds : List D} {vs : List V} (n : Nat), RepL c G ds vs → RepL c G (ds.drop n) (vs.drop n)
  | _, _, 0, h => by simpa using h
  | [], vs, n + 1, h => by rw [RepL.nil_iff.mp h]; exact RepL.nil
  | d :: ds, vs, n + 1, h => by
    obtain ⟨v, r, rfl, h1, t⟩ := RepL.cons_iff.mp h
    exact RepL.drop n t
theorem RepL.eraseIdx : ∀ {ds : List D} {vs : List V} (i : Nat), RepL c G ds vs → RepL c G (ds.eraseIdx i) (vs.eraseIdx i)
  | [], vs, i, h => by rw [RepL.nil_iff.mp h]; exact RepL.nil
  | d :: ds, vs, i, h => by
    obtain ⟨v, r, rfl, h1, t⟩ := RepL.cons_iff.mp h
    cases i with
    | zero => exact t
    | succ i => exact RepL.cons h1 (RepL.eraseIdx i t)
theorem RepL.ints : ∀ {ns : List Int} {vs : List V}, RepL c G (ns.map D.int) vs → vs = ns.map V.int
  | [], vs, h => RepL.nil_iff.mp h
  | n :: ns, vs, h => by
    obtain ⟨v, r, rfl, h1, t⟩ := RepL.cons_iff.mp h
    unfold Rep at h1
    rw [h1, RepL.ints t]; rfl
theorem RepL.of_ints : ∀ (ns : List Int), RepL c G (ns.map D.int) (ns.map V.int)
  | [] => RepL.nil
  | n :: ns => RepL.cons (by unfold Rep; rfl) (RepL.of_ints ns)
theorem RepL.bls : ∀ {ns : List Bool} {vs : List V}, RepL c G (ns.map D.bl) vs → vs = ns.map V.bl
  | [], vs, h => RepL.nil_iff.mp h
  | n :: ns, vs, h => by
    obtain ⟨v, r, rfl, h1, t⟩ := RepL.cons_iff.mp h
    unfold Rep at h1
    rw [h1, RepL.bls t]; rfl
end
theorem Rep.int_iff {c : Cg} {G : Hp} {i : Int} {v : V} : Rep c G (.int i) v ↔ v = .int i := by unfold Rep; exact Iff.rfl
theorem Rep.bl_iff {c : Cg} {G : Hp} {b : Bool} {v : V} : Rep c G (.bl b) v ↔ v = .bl b := by unfold Rep; exact Iff.rfl
theorem Rep.str_iff {c : Cg} {G : Hp} {b : Str} {v : V} : Rep c G (.str b) v ↔ v = .str b := by unfold Rep; exact Iff.rfl
theorem Rep.non_iff {c : Cg} {G : Hp} {v : V} : Rep c G .non v ↔ v = .non := by unfold Rep; exact Iff.rfl
theorem Rep.tup_iff {c : Cg} {G : Hp} {l : List D} {v : V} : Rep c G (.tup l) v ↔ ∃ a vs, v = .ref a ∧ TupS c.K G a vs ∧ RepL c G l vs := by
  constructor
  · intro h; unfold Rep at h; exact h
  · intro h; unfold Rep; exact h
theorem Rep.scp_iff {c : Cg} {G : Hp} {l : List D} {v : V} : Rep c G (.scp l) v ↔ ∃ a vs, v = .ref a ∧ SqL c.K G a vs ∧ RepL c G l vs := by
  constructor
  · intro h; unfold Rep at h; exact h
  · intro h; unfold Rep; exact h
theorem Rep.lst_iff {c : Cg} {G : Hp} {l : List D} {v : V} : Rep c G (.lst l) v ↔ ∃ a vs, v = .ref a ∧ G a = some (.lst vs) ∧ RepL c G l vs := by
  constructor
  · intro h; unfold Rep at h; exact h
  · intro h; unfold Rep; exact h
theorem Rep.scr_iff {c : Cg} {G : Hp} {l : List D} {v : V} : Rep c G (.scr l) v ↔ ∃ a dx b vs, v = .ref a ∧ G a = some (.ins (c.cls 0) dx [("own_levels", .ref b)]) ∧ TupS c.K G b vs ∧ RepL c G l vs := by
  constructor
  · intro h; unfold Rep at h; exact h
  · intro h; unfold Rep; exact h
theorem Rep.exn_iff {c : Cg} {G : Hp} {k : Nat} {f : D} {v : V} : Rep c G (.exn k f) v ↔ ∃ a d, v = .ref a ∧ G a = some (ExV (.ref (c.cls k)) d a) ∧
    ((d = none ∧ f = .non ∧ (k ≤ 100 ∨ 108 ≤ k)) ∨ ∃ dx u, d = some dx ∧ G dx = some (.xd [(fldN k, u)]) ∧ Rep c G f u) := by
  constructor
  · intro h; unfold Rep at h; exact h
  · intro h; unfold Rep; exact h
theorem Rep.fn_iff {c : Cg} {G : Hp} {k : Nat} {v : V} : Rep c G (.fn k) v ↔ v = .ref (c.fna k) := by unfold Rep; exact Iff.rfl
theorem Rep.dd_iff {c : Cg} {G : Hp} {l : List D} {v : V} : Rep c G (.dd l) v ↔ ∃ a w0 xs ep ws, v = .ref a ∧ G a = some (rawD w0 a xs ep) ∧ RepL c G l ws ∧ Lnk l ws xs := by
  constructor
  · intro h; unfold Rep at h; exact h
  · intro h; unfold Rep; exact h
theorem Rep.ol_iff {c : Cg} {G : Hp} {l : List D} {v : V} : Rep c G (.ol l) v ↔ False := by unfold Rep; exact Iff.rfl
theorem Rep.opq_iff {c : Cg} {G : Hp} {k : Nat} {v : V} : Rep c G (.opq k) v ↔ ∃ a dx vs, v = .ref a ∧ G a = some (.ins (c.cls k) dx vs) := by
  constructor
  · intro h; unfold Rep at h; exact h
  · intro h; unfold Rep; exact h
theorem Rep.edct_iff {c : Cg} {G : Hp} {v : V} : Rep c G .edct v ↔ ∃ a, v = .ref a ∧ G a = some (.dK []) := by unfold Rep; exact Iff.rfl

def RepR (c : Cg) (Γ : Gh) : R → V → Prop
  | .p d, v => Rep c Γ.G d v
  | .r n, v => ∃ a, Γ.ρ[n]? = some a ∧ v = .ref a
theorem RepR.mono {c : Cg} {Γ Γ' : Gh} (e : Γ.le Γ') : ∀ {x : R} {v : V}, RepR c Γ x v → RepR c Γ' x v
  | .p d, v, h => Rep.mono e.g h
  | .r n, v, h => by
    obtain ⟨a, h1, h2⟩ := h
    exact ⟨a, e.at h1, h2⟩
theorem RepR.sub {c : Cg} {Γ Γ' : Gh} (e : Γ.sub Γ') : ∀ {x : R} {v : V}, RepR c Γ x v → RepR c Γ' x v
  | .p d, v, h => Rep.mono e.g h
  | .r n, v, h => by
    obtain ⟨a, h1, h2⟩ := h
    exact ⟨a, e.at h1, h2⟩
def RepRL (c : Cg) (Γ : Gh) : List R → List V → Prop
  | [], vs => vs = []
  | x :: xs, vs => ∃ v r, vs = v :: r ∧ RepR c Γ x v ∧ RepRL c Γ xs r
theorem RepRL.mono {c : Cg} {Γ Γ' : Gh} (e : Γ.le Γ') : ∀ {x : List R} {v : List V}, RepRL c Γ x v → RepRL c Γ' x v
  | [], v, h => h
  | x :: xs, v, h => by
    obtain ⟨u, r, h1, h2, h3⟩ := h
    exact ⟨u, r, h1, RepR.mono e h2, RepRL.mono e h3⟩
theorem RepRL.length {c : Cg} {Γ : Gh} : ∀ {x : List R} {v : List V}, RepRL c Γ x v → v.length = x.length
  | [], v, h => by rw [show v = [] from h]; rfl
  | x :: xs, v, h => by
    obtain ⟨u, r, rfl, h2, h3⟩ := h
    simp [RepRL.length h3]
theorem RepRL.get {c : Cg} {Γ : Gh} : ∀ {xs : List R} {vs : List V} {i : Nat} {x : R}, RepRL c Γ xs vs → xs[i]? = some x → ∃ v, vs[i]? = some v ∧ RepR c Γ x v
  | [], v, i, x, h, e => by simp at e
  | x' :: xs, v, i, x, h, e => by
    obtain ⟨u, r, rfl, h2, h3⟩ := h
    cases i with
    | zero => simp at e; subst e; exact ⟨u, rfl, h2⟩
    | succ i => exact RepRL.get (i := i) h3 (by simpa using e)

/-! ### the store, held -/
/-- an attribute of the object at a: pure data, or a list of its own -/
def RepX (c : Cg) (Γ : Gh) (a : Addr) (n : Str) : D → V → Prop
  | .ol l, v => ∃ b ws, v = .ref b ∧ Γ.O b = some (a, n, ws) ∧ RepL c Γ.G l ws
  | d, v => Rep c Γ.G d v
/-- an object's attributes -/
def RepF (c : Cg) (Γ : Gh) (a : Addr) : List (Str × D) → List (Str × V) → Prop
  | [], fs => fs = []
  | (n, x) :: xs, fs => ∃ v r, fs = (n, v) :: r ∧ RepX c Γ a n x v ∧ RepF c Γ a xs r
/-- a dict's entries, as data -/
def KvOk (c : Cg) (G : Hp) : List (D × D) → List (NestedKey × Addr × Value) → Prop
  | [], xs => xs = []
  | kv :: r, xs => ∃ nk b u vv t, xs = (nk, b, u) :: t ∧ Rep c G kv.1 (.ref b) ∧ nkD kv.1 = some nk ∧ nk.depth ≤ 8 ∧ noTxt nk = true ∧ Rep c G kv.2 vv ∧ RelV vv u ∧ KvOk c G r t
theorem KvOk.mono {c : Cg} {G G' : Hp} (e : Ext G G') : ∀ {kvs : List (D × D)} {xs : List (NestedKey × Addr × Value)}, KvOk c G kvs xs → KvOk c G' kvs xs
  | [], _, h => h
  | kv :: r, _, h => by
    obtain ⟨nk, b, u, vv, t, h1, h2, h3, h4, h5, h6, h7, h8⟩ := h
    exact ⟨nk, b, u, vv, t, h1, h2.mono e, h3, h4, h5, h6.mono e, h7, KvOk.mono e h8⟩
/-- a dict's entries, keys and values by turns -/
def kvFl : List (D × D) → List D
  | [] => []
  | kv :: r => kv.1 :: kv.2 :: kvFl r
theorem KvOk.lnk {c : Cg} {G : Hp} : ∀ {kvs : List (D × D)} {xs : List (NestedKey × Addr × Value)}, KvOk c G kvs xs → ∃ ws, RepL c G (kvFl kvs) ws ∧ Lnk (kvFl kvs) ws xs
  | [], xs, h => ⟨[], RepL.nil, rfl, h⟩
  | kv :: r, _, h => by
    obtain ⟨nk, b, u, vv, t, rfl, h2, h3, h4, h5, h6, h7, h8⟩ := h
    obtain ⟨ws, q1, q2⟩ := KvOk.lnk h8
    exact ⟨.ref b :: vv :: ws, RepL.cons h2 (RepL.cons h6 q1), b, vv, nk, u, ws, t, rfl, rfl, h3, h4, h5, h7, q2⟩
theorem Lnk.kv {c : Cg} {G : Hp} : ∀ {kvs : List (D × D)} {ws : List V} {xs : List (NestedKey × Addr × Value)}, RepL c G (kvFl kvs) ws → Lnk (kvFl kvs) ws xs → KvOk c G kvs xs
  | [], _, _, _, h => h.2
  | kv :: r, _, _, h, k => by
    obtain ⟨b, vv, nk, u, ws', xs', rfl, rfl, k1, k2, k3, k4, k5⟩ := k
    obtain ⟨v, t, e, h1, h2⟩ := RepL.cons_iff.mp h
    cases e
    obtain ⟨v, t, e, h3, h4⟩ := RepL.cons_iff.mp h2
    cases e
    exact ⟨nk, b, u, vv, xs', rfl, h1, k1, k2, k3, h3, k4, Lnk.kv h4 k5⟩
/-- what stands at a cell's address -/
def ConOk (c : Cg) (Γ : Gh) (a : Addr) : Con → HO → Prop
  | .lst l, o => ∃ vs, o = .lst vs ∧ RepL c Γ.G l vs
  | .dct kvs, o => kvs = [] ∧ o = .dK []
  | .obj k fs, o => ∃ dx vs, o = .ins (c.cls k) dx vs ∧ RepF c Γ a fs vs ∧ (fs.map (·.1)).Nodup
  | .dt kvs, o => ∃ w0 xs ep, o = rawD w0 a xs ep ∧ KvOk c Γ.G kvs xs
def CellOk (c : Cg) (Γ : Gh) (H : Hp) (a : Addr) : Cell → Prop
  | .mu o => ∃ u, H a = some u ∧ ConOk c Γ a o u ∧ Γ.G a = none ∧ Γ.L a = none
  | .fz l => ∃ vs, Γ.G a = some (.lst vs) ∧ RepL c Γ.G l vs
  | .dead => True
structure StOk (c : Cg) (Γ : Gh) (st : Store) (H : Hp) : Prop where
  g : Ext Γ.G H
  l : Ext Γ.L H
  gl : ∀ (a : Addr) (o : HO), Γ.L a = some o → Γ.G a = none
  len : st.length = Γ.ρ.length
  cell : ∀ (n : Nat) (x : Cell) (a : Addr), st[n]? = some x → Γ.ρ[n]? = some a → CellOk c Γ H a x
  inj : ∀ (n m : Nat) (a : Addr) (o u : Con), st[n]? = some (.mu o) → st[m]? = some (.mu u) → Γ.ρ[n]? = some a → Γ.ρ[m]? = some a → n = m
  own : ∀ (b a : Addr) (f : Str) (ws : List V), Γ.O b = some (a, f, ws) → H b = some (.lst ws) ∧ Γ.G b = none ∧ Γ.L b = none ∧ ∀ (n : Nat) (q : Con), st[n]? = some (.mu q) → Γ.ρ[n]? ≠ some b
structure FrOk (c : Cg) (Γ : Gh) (S : Sg) (σ : L2.St) (H : Hp) : Prop where
  s : StOk c Γ S.st H
  len : S.sl.length = σ.length
  sl : ∀ (i : Nat) (x : R), S.sl[i]? = some (some x) → ∃ v, σ[i]? = some (some v) ∧ RepR c Γ x v

/-- what is wanted of an own exception: class, dict -/
def XRep (c : Cg) (Γ : Gh) (H : Hp) (x : Xn) (cls : Value) (dd : Option Addr) : Prop := cls = .ref (c.cls x.k) ∧
  ((dd = none ∧ x.f = .non ∧ (x.k ≤ 100 ∨ 108 ≤ x.k)) ∨ ∃ dx u, dd = some dx ∧ Γ.G dx = some (.xd [(fldN x.k, u)]) ∧ Rep c Γ.G x.f u)
/-- what is wanted behind an outcome -/
def Post (c : Cg) (W : WX) (σ : L2.St) (Γ : Gh) {α : Type} (r : Res α) (K : α → Sg → Gh → Hp → Prop) : Prop := match r with
  | .ok a S' => ∀ Γ' H', Γ.le Γ' → FrOk c Γ' S' σ H' → K a S' Γ' H'
  | .exc x S' => ∀ Γ' H' cls dd, Γ.le Γ' → FrOk c Γ' S' σ H' → XRep c Γ' H' x cls dd → W cls dd σ H'
  | .bad => False
section
variable {c : Cg} {W : WX} {σ : L2.St} {Γ Γ1 : Gh} {α β : Type}
theorem Post.le {r : Res α} {K : α → Sg → Gh → Hp → Prop} (h : Post c W σ Γ r K) (e : Γ.le Γ1) : Post c W σ Γ1 r K := by
  cases r with
  | ok a S => exact fun Γ' H' e' f => h Γ' H' (e.trans e') f
  | exc x S => exact fun Γ' H' cls dd e' f q => h Γ' H' cls dd (e.trans e') f q
  | bad => exact h
theorem Post.imp {r : Res α} {K K' : α → Sg → Gh → Hp → Prop} (h : Post c W σ Γ r K) (k : ∀ a S' Γ' H', Γ.le Γ' → FrOk c Γ' S' σ H' → K a S' Γ' H' → K' a S' Γ' H') : Post c W σ Γ r K' := by
  cases r with
  | ok a S => exact fun Γ' H' e' f => k _ _ _ _ e' f (h Γ' H' e' f)
  | exc x S => exact h
  | bad => exact h
theorem Post.bind {f : M α} {g : α → M β} {S : Sg} {K : β → Sg → Gh → Hp → Prop} (h : Post c W σ Γ ((f >>= g) S) K) :
    Post c W σ Γ (f S) fun a S' Γ' H' => Γ.le Γ' ∧ Post c W σ Γ' (g a S') K := by
  rw [bind_ap] at h
  cases e : f S with
  | ok a S' => rw [e] at h; exact fun Γ' H' e' f => ⟨e', Post.le h e'⟩
  | exc x S' => rw [e] at h; exact h
  | bad => rw [e] at h; exact h
theorem Post.ok {a : α} {S : Sg} {K : α → Sg → Gh → Hp → Prop} {Γ' : Gh} {H' : Hp} (h : Post c W σ Γ (.ok a S) K) (e : Γ.le Γ') (f : FrOk c Γ' S σ H') : K a S Γ' H' := h Γ' H' e f
end

/-- an expression's reading -/
def rdE (c : Cg) (W : WX) (f : M R) : TE := fun σ H Q => ∃ Γ S, FrOk c Γ S σ H ∧ Post c W σ Γ (f S) fun x S' Γ' H' => ∀ v, RepR c Γ' x v → Q v H'
/-- a test's -/
def rdT (c : Cg) (W : WX) (f : M Bool) : TT := fun σ H Q => ∃ Γ S, FrOk c Γ S σ H ∧ Post c W σ Γ (f S) fun b S' Γ' H' => Q b H'
/-- an argument list's -/
def rdA (c : Cg) (W : WX) (f : M (List R)) : TA := fun σ H Q => ∃ Γ S, FrOk c Γ S σ H ∧ Post c W σ Γ (f S) fun xs S' Γ' H' => ∀ vs, RepRL c Γ' xs vs → Q vs H'

/-- where a statement goes on -/
inductive Fl where
  | nx | bk | ct | rt (x : R)
def PostS (c : Cg) (W : WX) (Γ : Gh) (r : Res Fl) (E : Ends) : Prop := match r with
  | .ok .nx S' => ∀ Γ' σ' H', Γ.le Γ' → FrOk c Γ' S' σ' H' → E.nx σ' H'
  | .ok .bk S' => ∀ Γ' σ' H', Γ.le Γ' → FrOk c Γ' S' σ' H' → E.bk σ' H'
  | .ok .ct S' => ∀ Γ' σ' H', Γ.le Γ' → FrOk c Γ' S' σ' H' → E.ct σ' H'
  | .ok (.rt x) S' => ∀ Γ' σ' H' v, Γ.le Γ' → FrOk c Γ' S' σ' H' → RepR c Γ' x v → E.rt v H'
  | .exc x S' => ∀ Γ' σ' H' cls dd, Γ.le Γ' → FrOk c Γ' S' σ' H' → XRep c Γ' H' x cls dd → W cls dd σ' H'
  | .bad => False
def rdS (c : Cg) (W : WX) (f : M Fl) : TS := fun E σ H => ∃ Γ S, FrOk c Γ S σ H ∧ PostS c W Γ (f S) E
section
variable {c : Cg} {W : WX} {Γ Γ1 : Gh} {E : Ends}
theorem PostS.le {r : Res Fl} (h : PostS c W Γ r E) (e : Γ.le Γ1) : PostS c W Γ1 r E := by
  cases r with
  | ok a S =>
    cases a with
    | nx => exact fun Γ' σ' H' e' f => h Γ' σ' H' (e.trans e') f
    | bk => exact fun Γ' σ' H' e' f => h Γ' σ' H' (e.trans e') f
    | ct => exact fun Γ' σ' H' e' f => h Γ' σ' H' (e.trans e') f
    | rt x => exact fun Γ' σ' H' v e' f q => h Γ' σ' H' v (e.trans e') f q
  | exc x S => exact fun Γ' σ' H' cls dd e' f q => h Γ' σ' H' cls dd (e.trans e') f q
  | bad => exact h
/-- an expression ahead of a statement -/
theorem PostS.bindE {α : Type} {f : M α} {g : α → M Fl} {S : Sg} {σ : L2.St} (h : PostS c W Γ ((f >>= g) S) E) :
    Post c W σ Γ (f S) fun a S' Γ' H' => Γ.le Γ' ∧ PostS c W Γ' (g a S') E := by
  rw [bind_ap] at h
  cases e : f S with
  | ok a S' => rw [e] at h; exact fun Γ' H' e' f => ⟨e', PostS.le h e'⟩
  | exc x S' => rw [e] at h; exact fun Γ' H' cls dd e' f q => h Γ' σ H' cls dd e' f q
  | bad => rw [e] at h; exact h
end
end Dd

set_option Elab.async false
set_option linter.all false
set_option maxRecDepth 100000
namespace Dd
open PySem PySem.Spec PyProof.Rows L2

/-! ### names, constants, operators -/
section
variable {X : Cx} {c : Cg} {W : WX} {e a b : Expr} {f fa fb : M R} {pos : Pos}
theorem se_of {t : TE} (h : PE X e t) (hi : ∀ σ H Q, rdE c W f σ H Q → t σ H Q) : PE X e (rdE c W f) := ⟨fun pins s σ H Q I q => h.run pins s σ H Q I (hi σ H Q q)⟩
theorem st_of {t : TT} {f : M Bool} (h : PT X e t) (hi : ∀ σ H Q, rdT c W f σ H Q → t σ H Q) : PT X e (rdT c W f) := ⟨fun pins s σ H Q I q => h.run pins s σ H Q I (hi σ H Q q)⟩
theorem sa_of {es : List Expr} {t : TA} {f : M (List R)} (h : PA X es t) (hi : ∀ σ H Q, rdA c W f σ H Q → t σ H Q) : PA X es (rdA c W f) := ⟨fun pos pins s σ H Q I q => h.run pos pins s σ H Q I (hi σ H Q q)⟩
theorem ss_of {st : Stmt} {t : TS} {f : M Fl} (h : PS X st t) (hi : ∀ E σ H, rdS c W f E σ H → t E σ H) : PS X st (rdS c W f) := ⟨fun pins s σ H E I q => h.run pins s σ H E I (hi E σ H q)⟩
theorem sss_of {st : List Stmt} {t : TS} {f : M Fl} (h : PSs X st t) (hi : ∀ E σ H, rdS c W f E σ H → t E σ H) : PSs X st (rdS c W f) := ⟨fun pins s σ H E I q => h.run pins s σ H E I (hi E σ H q)⟩

theorem RepR.pure {Γ : Gh} {d : D} {v : V} : RepR c Γ (.p d) v ↔ Rep c Γ.G d v := Iff.rfl
theorem RepR.int {Γ : Gh} {i : Int} {v : V} (h : RepR c Γ (.p (.int i)) v) : v = .int i := Rep.int_iff.mp (RepR.pure.mp h)
theorem RepR.bl {Γ : Gh} {i : Bool} {v : V} (h : RepR c Γ (.p (.bl i)) v) : v = .bl i := Rep.bl_iff.mp (RepR.pure.mp h)
theorem RepR.str {Γ : Gh} {i : Str} {v : V} (h : RepR c Γ (.p (.str i)) v) : v = .str i := Rep.str_iff.mp (RepR.pure.mp h)
theorem RepR.non {Γ : Gh} {v : V} (h : RepR c Γ (.p .non) v) : v = .non := Rep.non_iff.mp (RepR.pure.mp h)
/-- the name in slot i -/
def vr (i : Nat) : M R := fun S => match S.sl[i]? with
  | some (some x) => .ok x S
  | _ => .bad
theorem se_var {i : Nat} (h : PE X e (tVar i)) : PE X e (rdE c W (vr i)) := by
  refine se_of h fun σ H Q q => ?_
  obtain ⟨Γ, S, F, P⟩ := q
  unfold vr at P
  split at P
  · rename_i x hx
    obtain ⟨v, h1, h2⟩ := F.sl i x hx
    exact ⟨v, h1, P.ok Gh.le.refl F v h2⟩
  · exact P.elim
def ci (i : Int) : M R := pure (.p (.int i))
def cb (b : Bool) : M R := pure (.p (.bl b))
def cn : M R := pure (.p .non)
def cs (s : Str) : M R := pure (.p (.str s))
theorem se_tC {d : D} {v : V} (hr : ∀ G, Rep c G d v) (h : PE X e (tC v)) : PE X e (rdE c W (pure (.p d))) := by
  refine se_of h fun σ H Q q => ?_
  obtain ⟨Γ, S, F, P⟩ := q
  exact Post.ok (c := c) (W := W) P Gh.le.refl F v (hr _)
theorem se_int {i : Int} {j} : PE X (.Constant (.int i) j pos) (rdE c W (ci i)) := se_tC (fun _ => Rep.int_iff.mpr rfl) pe_int
theorem se_bl {i : Bool} {j} : PE X (.Constant (.bool i) j pos) (rdE c W (cb i)) := se_tC (fun _ => Rep.bl_iff.mpr rfl) pe_bl
theorem se_non {j} : PE X (.Constant .none j pos) (rdE c W cn) := se_tC (fun _ => Rep.non_iff.mpr rfl) pe_non
theorem se_str {i : Str} {j} : PE X (.Constant (.str i) j pos) (rdE c W (cs i)) := se_tC (fun _ => Rep.str_iff.mpr rfl) pe_str
/-- a module's constant that is pure data -/
def cd (d : D) : M R := pure (.p d)
theorem se_glob {d : D} {v : V} (hr : ∀ G, Rep c G d v) (h : PE X e (tC v)) : PE X e (rdE c W (cd d)) := se_tC hr h

def bin (op : R → R → M R) (f g : M R) : M R := do
  let x ← f
  let y ← g
  op x y
/-- an operation on values serves a rule -/
def OpD (c : Cg) (W : WX) (op : R → R → M R) (r : R2) : Prop :=
  ∀ (Γ : Gh) (S : Sg) (σ : L2.St) (H : Hp) (x y : R) (v w : V) (Q : VK), FrOk c Γ S σ H → RepR c Γ x v → RepR c Γ y w →
    Post c W σ Γ (op x y S) (fun z S' Γ' H' => ∀ u, RepR c Γ' z u → Q u H') → r v w H Q
theorem bin_read {op : R → R → M R} {r : R2} (hd : OpD c W op r) {σ : L2.St} {H : Hp} {Q : VK} (q : rdE c W (bin op fa fb) σ H Q) : tOp r (rdE c W fa) (rdE c W fb) σ H Q := by
  obtain ⟨Γ, S, F, P⟩ := q
  refine ⟨Γ, S, F, ?_⟩
  refine (Post.bind P).imp fun x S1 Γ1 H1 e1 F1 ⟨_, P1⟩ v hv => ?_
  refine ⟨Γ1, S1, F1, ?_⟩
  refine (Post.bind P1).imp fun y S2 Γ2 H2 e2 F2 ⟨_, P2⟩ w hw => ?_
  exact hd Γ2 S2 σ H2 x y v w Q F2 (hv.mono e2) hw P2
theorem se_bin {o : Operator} {op : R → R → M R} {r : R2} (ho : OpR X (binaryOp o) r) (hd : OpD c W op r) (ha : PE X a (rdE c W fa)) (hb : PE X b (rdE c W fb)) : PE X (.BinOp a o b pos) (rdE c W (bin op fa fb)) :=
  se_of (pe_op ho ha hb) fun _ _ _ q => bin_read hd q
theorem se_cmp {o : CmpOp} {op : R → R → M R} {r : R2} (ho : OpR X (compareOp o) r) (hd : OpD c W op r) (ha : PE X a (rdE c W fa)) (hb : PE X b (rdE c W fb)) (hm : behindInMarks o b = false) : PE X (.Compare a [o] [b] pos) (rdE c W (bin op fa fb)) :=
  se_of (pe_cmpR ho ha hb hm) fun _ _ _ q => bin_read hd q
theorem OpD.or {op : R → R → M R} {r r' : R2} (h : OpD c W op r) : OpD c W op (fun x y H Q => r x y H Q ∨ r' x y H Q) := fun Γ S σ H x y v w Q F hx hy P => .inl (h Γ S σ H x y v w Q F hx hy P)

/-- ints in -/
def opI (C : Int → Int → Prop) [∀ i j, Decidable (C i j)] (g : Int → Int → D) : R → R → M R := fun x y S => match x, y with
  | .p (.int i), .p (.int j) => if C i j then .ok (.p (g i j)) S else .bad
  | _, _ => .bad
def opI0 (g : Int → Int → D) : R → R → M R := fun x y S => match x, y with
  | .p (.int i), .p (.int j) => .ok (.p (g i j)) S
  | _, _ => .bad
/-- the ints behind two values -/
theorem two_ints {x y : R} {S : Sg} {α : Type} {k : Int → Int → Res α} {Z : Prop}
    (h : ∀ i j, x = .p (.int i) → y = .p (.int j) → Z) (P : (match x, y with | .p (.int i), .p (.int j) => k i j | _, _ => (Res.bad : Res α)) ≠ .bad) : Z := by
  split at P
  · exact h _ _ rfl rfl
  · exact (P rfl).elim
theorem Post.ne {α : Type} {σ : L2.St} {Γ : Gh} {r : Res α} {K : α → Sg → Gh → Hp → Prop} (P : Post c W σ Γ r K) : r ≠ .bad := by
  intro e
  rw [e] at P
  exact P
theorem od_I {C : Int → Int → Prop} [∀ i j, Decidable (C i j)] {g : Int → Int → D} {gv : Int → Int → V} (hg : ∀ G i j, Rep c G (g i j) (gv i j)) : OpD c W (opI C g) (rI C gv) := by
  intro Γ S σ H x y v w Q F hx hy P
  unfold opI at P
  refine two_ints (S := S) (k := fun i j => if C i j then Res.ok (R.p (g i j)) S else .bad) (fun i j e1 e2 => ?_) P.ne
  subst e1 e2
  have P : Post c W σ Γ (if C i j then Res.ok (R.p (g i j)) S else Res.bad) fun z S' Γ' H' => ∀ u, RepR c Γ' z u → Q u H' := P
  by_cases h : C i j
  · rw [if_pos h] at P
    exact ⟨i, j, RepR.int hx, RepR.int hy, h, P.ok Gh.le.refl F _ (hg _ _ _)⟩
  · rw [if_neg h] at P
    exact P.elim
theorem od_I0 {g : Int → Int → D} {gv : Int → Int → V} (hg : ∀ G i j, Rep c G (g i j) (gv i j)) : OpD c W (opI0 g) (rI0 gv) := by
  intro Γ S σ H x y v w Q F hx hy P
  unfold opI0 at P
  refine two_ints (S := S) (k := fun i j => Res.ok (R.p (g i j)) S) (fun i j e1 e2 => ?_) P.ne
  subst e1 e2
  exact ⟨i, j, RepR.int hx, RepR.int hy, P.ok Gh.le.refl F _ (hg _ _ _)⟩
end
instance (i j : Int) : Decidable (CDivW i j) := inferInstanceAs (Decidable (_ ∧ _))
instance (i j : Int) : Decidable (CMulW i j) := inferInstanceAs (Decidable (_ < _))
instance (i j : Int) : Decidable (CPow i j) := inferInstanceAs (Decidable (_ ∧ _ ∧ _))
instance (i j : Int) : Decidable (CShl i j) := inferInstanceAs (Decidable (_ ∧ _))

/-! ### sequences, looked into -/
/-- the items of a list or tuple -/
def getL (x : R) (S : Sg) : Option (List D) := match x with
  | .p (.tup l) => some l
  | .p (.lst l) => some l
  | .p (.scp l) => some l
  | .p _ => none
  | .r n => match S.st[n]? with
    | some (.mu (.lst l)) => some l
    | some (.fz l) => some l
    | _ => none
/-- a list's alone -/
def getLst (x : R) (S : Sg) : Option (List D) := match x with
  | .p (.lst l) => some l
  | .p (.scp l) => some l
  | .p _ => none
  | .r n => match S.st[n]? with
    | some (.mu (.lst l)) => some l
    | some (.fz l) => some l
    | _ => none
section
variable {c : Cg} {W : WX} {Γ : Gh} {S : Sg} {σ : L2.St} {H : Hp} {x : R} {v : V} {l : List D}
theorem StOk.at {st : Store} (F : StOk c Γ st H) {n : Nat} {o : Cell} (h : st[n]? = some o) : ∃ a, Γ.ρ[n]? = some a := by
  have h1 := (List.getElem?_eq_some_iff.mp h).1
  rw [F.len] at h1
  exact ⟨_, List.getElem?_eq_getElem h1⟩
theorem StOk.lst {st : Store} (F : StOk c Γ st H) {n : Nat} {l : List D} (h : st[n]? = some (.mu (.lst l))) : ∃ a vs, Γ.ρ[n]? = some a ∧ H a = some (.lst vs) ∧ RepL c Γ.G l vs ∧ Γ.G a = none ∧ Γ.L a = none := by
  obtain ⟨a, ha⟩ := F.at h
  obtain ⟨u, h1, ⟨vs, h2, h3⟩, h4, h5⟩ := F.cell n _ a h ha
  subst h2
  exact ⟨a, vs, ha, h1, h3, h4, h5⟩
theorem StOk.fro {st : Store} (F : StOk c Γ st H) {n : Nat} {l : List D} (h : st[n]? = some (.fz l)) : ∃ a vs, Γ.ρ[n]? = some a ∧ Γ.G a = some (.lst vs) ∧ RepL c Γ.G l vs := by
  obtain ⟨a, ha⟩ := F.at h
  obtain ⟨vs, h1, h2⟩ := F.cell n _ a h ha
  exact ⟨a, vs, ha, h1, h2⟩
theorem getLst_ok (F : FrOk c Γ S σ H) (hx : RepR c Γ x v) (h : getLst x S = some l) : ∃ a vs, v = .ref a ∧ SqL c.K H a vs ∧ RepL c Γ.G l vs := by
  cases x with
  | p d =>
    cases d with
    | lst l' =>
      cases h
      obtain ⟨a, vs, h1, h2, h3⟩ := Rep.lst_iff.mp hx
      exact ⟨a, vs, h1, .inl (.inl (F.s.g _ _ h2)), h3⟩
    | scp l' =>
      cases h
      obtain ⟨a, vs, h1, h2, h3⟩ := Rep.scp_iff.mp hx
      exact ⟨a, vs, h1, SqL.mono F.s.g h2, h3⟩
    | _ => cases h
  | r n =>
    obtain ⟨a, h1, h2⟩ := hx
    unfold getLst at h
    simp only at h
    split at h
    · rename_i l' e
      cases h
      obtain ⟨a', vs, h3, h4, h5, _⟩ := F.s.lst e
      rw [h1] at h3; cases h3
      exact ⟨a, vs, h2, .inl (.inl h4), h5⟩
    · rename_i l' e
      cases h
      obtain ⟨a', vs, h3, h4, h5⟩ := F.s.fro e
      rw [h1] at h3; cases h3
      exact ⟨a, vs, h2, .inl (.inl (F.s.g _ _ h4)), h5⟩
    · cases h
theorem getL_ok (F : FrOk c Γ S σ H) (hx : RepR c Γ x v) (h : getL x S = some l) : ∃ a vs, v = .ref a ∧ (SqL c.K H a vs ∨ SqT c.K H a vs) ∧ RepL c Γ.G l vs := by
  cases x with
  | p d =>
    cases d with
    | lst l' =>
      cases h
      obtain ⟨a, vs, h1, h2, h3⟩ := Rep.lst_iff.mp hx
      exact ⟨a, vs, h1, .inl (.inl (.inl (F.s.g _ _ h2))), h3⟩
    | scp l' =>
      cases h
      obtain ⟨a, vs, h1, h2, h3⟩ := Rep.scp_iff.mp hx
      exact ⟨a, vs, h1, .inl (SqL.mono F.s.g h2), h3⟩
    | tup l' =>
      cases h
      obtain ⟨a, vs, h1, h2, h3⟩ := Rep.tup_iff.mp hx
      exact ⟨a, vs, h1, .inr (TupS.mono F.s.g h2).sq, h3⟩
    | _ => cases h
  | r n =>
    obtain ⟨a, vs, h1, h2, h3⟩ := getLst_ok (x := .r n) F hx h
    exact ⟨a, vs, h1, .inl h2, h3⟩

/-! ### the store changes: a new object, a new cell, a list written, a list frozen -/
theorem RepX.of {Γ : Gh} {a : Addr} {n : Str} {d : D} {v : V} (h : Rep c Γ.G d v) : RepX c Γ a n d v := by
  cases d <;> first | exact h | exact (Rep.ol_iff.mp h).elim
theorem RepX.mono {Γ Γ' : Gh} {a : Addr} {n : Str} {d : D} {v : V} (e : Ext Γ.G Γ'.G) (ho : ∀ b f ws, Γ.O b = some (a, f, ws) → Γ'.O b = some (a, f, ws)) (h : RepX c Γ a n d v) : RepX c Γ' a n d v := by
  cases d with
  | ol l =>
    obtain ⟨b, ws, h1, h2, h3⟩ := h
    exact ⟨b, ws, h1, ho _ _ _ h2, RepL.mono e h3⟩
  | _ => exact Rep.mono e h
theorem RepF.mono {Γ Γ' : Gh} {a : Addr} (e : Ext Γ.G Γ'.G) (ho : ∀ b f ws, Γ.O b = some (a, f, ws) → Γ'.O b = some (a, f, ws)) : ∀ {fs : List (Str × D)} {vs : List (Str × V)}, RepF c Γ a fs vs → RepF c Γ' a fs vs
  | [], _, h => h
  | (n, x) :: xs, _, h => by
    obtain ⟨v, r, h1, h2, h3⟩ := h
    exact ⟨v, r, h1, h2.mono e ho, RepF.mono e ho h3⟩
theorem ConOk.mono {Γ Γ' : Gh} (e : Γ.le Γ') (hO : Γ'.O = Γ.O) {a : Addr} {o : Con} {u : HO} (h : ConOk c Γ a o u) : ConOk c Γ' a o u := by
  cases o with
  | lst l => obtain ⟨vs, k1, k2⟩ := h; exact ⟨vs, k1, RepL.mono e.g k2⟩
  | dct kvs => exact h
  | obj k fs => obtain ⟨dx, vs, k1, k2, k3⟩ := h; exact ⟨dx, vs, k1, k2.mono e.g (fun b f ws q => by rw [hO]; exact q), k3⟩
  | dt kvs => obtain ⟨w0, xs, ep, k1, k2⟩ := h; exact ⟨w0, xs, ep, k1, k2.mono e.g⟩
/-- a new object that never changes -/
theorem StOk.newG {st : Store} {p : Addr} {o : HO} (F : StOk c Γ st H) (hp : H p = none) : StOk c { Γ with G := upd Γ.G p o } st (upd H p o) where
  g := fun a u e => by
    by_cases h : a = p
    · have e' : upd Γ.G p o a = some u := e
      subst h; rw [upd_same] at e' ⊢; exact e'
    · have e' : upd Γ.G p o a = some u := e
      rw [upd_ne h] at e' ⊢; exact F.g _ _ e'
  l := fun a u e => by rw [upd_ne (ne_of_none (F.l _ _ e) hp)]; exact F.l _ _ e
  gl := fun a u e => by
    show upd Γ.G p o a = none
    rw [upd_ne (ne_of_none (F.l _ _ e) hp)]; exact F.gl a u e
  len := F.len
  cell := fun n x a e1 e2 => by
    have hGp : Γ.G p = none := Ext.none F.g hp
    have ex : Ext Γ.G (upd Γ.G p o) := Ext.upd hGp
    have q := F.cell n x a e1 e2
    cases x with
    | mu u =>
      obtain ⟨w, h1, h2, h3, h4⟩ := q
      have hap : a ≠ p := ne_of_none h1 hp
      refine ⟨w, by rw [upd_ne hap]; exact h1, ?_, by show upd Γ.G p o a = none; rw [upd_ne hap]; exact h3, h4⟩
      cases u with
      | lst l => obtain ⟨vs, k1, k2⟩ := h2; exact ⟨vs, k1, RepL.mono ex k2⟩
      | dct kvs => exact h2
      | obj k fs =>
        have le : Γ.le { Γ with G := upd Γ.G p o } := ⟨ex, rfl, [], by simp⟩
        exact ConOk.mono le rfl h2
      | dt kvs =>
        have le : Γ.le { Γ with G := upd Γ.G p o } := ⟨ex, rfl, [], by simp⟩
        exact ConOk.mono le rfl h2
    | fz l =>
      obtain ⟨vs, h1, h2⟩ := q
      exact ⟨vs, ex _ _ h1, RepL.mono ex h2⟩
    | dead => trivial
  inj := F.inj
  own := fun b a f ws e => by
    obtain ⟨h1, h2, h3, h4⟩ := F.own b a f ws e
    have hb : b ≠ p := ne_of_none h1 hp
    exact ⟨by rw [upd_ne hb]; exact h1, by show upd Γ.G p o b = none; rw [upd_ne hb]; exact h2, h3, h4⟩
/-- a new cell -/
theorem StOk.newC {st : Store} {p : Addr} {o : Con} {u : HO} (F : StOk c Γ st H) (hp : H p = none) (ho : ConOk c Γ p o u) : StOk c { Γ with ρ := Γ.ρ ++ [p] } (st ++ [.mu o]) (upd H p u) where
  g := fun a w e => by rw [upd_ne (ne_of_none (F.g _ _ e) hp)]; exact F.g _ _ e
  l := fun a w e => by rw [upd_ne (ne_of_none (F.l _ _ e) hp)]; exact F.l _ _ e
  gl := F.gl
  len := by simp [F.len]
  cell := fun n x a e1 e2 => by
    have le : Γ.le { Γ with ρ := Γ.ρ ++ [p] } := ⟨Ext.refl, rfl, [p], rfl⟩
    by_cases hn : n < st.length
    · rw [List.getElem?_append_left hn] at e1
      have hn2 : n < Γ.ρ.length := by rw [← F.len]; exact hn
      have e2' : (Γ.ρ ++ [p])[n]? = some a := e2
      rw [List.getElem?_append_left hn2] at e2'
      have q := F.cell n x a e1 e2'
      cases x with
      | mu w =>
        obtain ⟨w', h1, h2, h3, h4⟩ := q
        exact ⟨w', by rw [upd_ne (ne_of_none h1 hp)]; exact h1, h2.mono le rfl, h3, h4⟩
      | fz l => exact q
      | dead => trivial
    · have hn' : n = st.length := by
        have := (List.getElem?_eq_some_iff.mp e1).1
        simp at this
        omega
      subst hn'
      have e2' : (Γ.ρ ++ [p])[st.length]? = some a := e2
      rw [F.len] at e2'
      simp at e1 e2'
      subst e1 e2'
      exact ⟨u, upd_same, ho.mono le rfl, Ext.none F.g hp, Ext.none F.l hp⟩
  own := fun b a f ws e => by
    obtain ⟨h1, h2, h3, h4⟩ := F.own b a f ws e
    have hb : b ≠ p := ne_of_none h1 hp
    refine ⟨by rw [upd_ne hb]; exact h1, h2, h3, fun n q e1 e2 => ?_⟩
    have e2' : (Γ.ρ ++ [p])[n]? = some b := e2
    by_cases hn : n < st.length
    · have hn2 : n < Γ.ρ.length := by rw [← F.len]; exact hn
      rw [List.getElem?_append_left hn] at e1
      rw [List.getElem?_append_left hn2] at e2'
      exact h4 n q e1 e2'
    · have hn' : n = st.length := by
        have := (List.getElem?_eq_some_iff.mp e1).1
        simp at this
        omega
      subst hn'
      rw [F.len] at e2'
      simp at e2'
      exact hb e2'.symm
  inj := fun n m a o1 o2 h1 h2 h3 h4 => by
    have h3' : (Γ.ρ ++ [p])[n]? = some a := h3
    have h4' : (Γ.ρ ++ [p])[m]? = some a := h4
    have old : ∀ (k : Nat) (o : Con), k < st.length → (st ++ [Cell.mu o])[k]? = st[k]? := fun k o hk => List.getElem?_append_left hk
    have ne : ∀ (k : Nat) (o : Con), k < st.length → st[k]? = some (.mu o) → Γ.ρ[k]? = some a → a ≠ p := fun k o hk e1 e2 => by
      obtain ⟨w, q, _⟩ := F.cell k _ a e1 e2
      exact ne_of_none q hp
    by_cases hn : n < st.length
    · have hn2 : n < Γ.ρ.length := by rw [← F.len]; exact hn
      rw [List.getElem?_append_left hn] at h1
      rw [List.getElem?_append_left hn2] at h3'
      by_cases hm : m < st.length
      · have hm2 : m < Γ.ρ.length := by rw [← F.len]; exact hm
        rw [List.getElem?_append_left hm] at h2
        rw [List.getElem?_append_left hm2] at h4'
        exact F.inj n m a o1 o2 h1 h2 h3' h4'
      · have hm' : m = st.length := by
          have := (List.getElem?_eq_some_iff.mp h2).1
          simp at this; omega
        subst hm'
        rw [F.len] at h4'
        simp at h4'
        exact ((ne n o1 hn h1 h3') h4'.symm).elim
    · have hn' : n = st.length := by
        have := (List.getElem?_eq_some_iff.mp h1).1
        simp at this; omega
      subst hn'
      rw [F.len] at h3'
      simp at h3'
      by_cases hm : m < st.length
      · have hm2 : m < Γ.ρ.length := by rw [← F.len]; exact hm
        rw [List.getElem?_append_left hm] at h2
        rw [List.getElem?_append_left hm2] at h4'
        exact ((ne m o2 hm h2 h4') h3'.symm).elim
      · have := (List.getElem?_eq_some_iff.mp h2).1
        simp at this; omega
/-- a cell is written -/
theorem StOk.setC {st : Store} {n : Nat} {a : Addr} {o o' : Con} {u : HO} (F : StOk c Γ st H) (h : st[n]? = some (.mu o)) (ha : Γ.ρ[n]? = some a) (ho : ConOk c Γ a o' u) : StOk c Γ (st.set n (.mu o')) (upd H a u) := by
  obtain ⟨w, h1, h2, h3, h4⟩ := F.cell n _ a h ha
  have hlt := (List.getElem?_eq_some_iff.mp h).1
  have back : ∀ (m : Nat) (p : Con), (st.set n (.mu o'))[m]? = some (.mu p) → ∃ p', st[m]? = some (.mu p') := fun m p e => by
    by_cases hm : n = m
    · subst hm; exact ⟨o, h⟩
    · rw [List.getElem?_set_ne hm] at e; exact ⟨p, e⟩
  refine ⟨fun b x e => ?_, fun b x e => ?_, F.gl, by simpa using F.len, fun m x b e1 e2 => ?_, fun m k b p p' e1 e2 e3 e4 => ?_, fun b a' f ws e => ?_⟩
  · have : b ≠ a := fun z => by rw [z, h3] at e; cases e
    rw [upd_ne this]; exact F.g _ _ e
  · have : b ≠ a := fun z => by rw [z, h4] at e; cases e
    rw [upd_ne this]; exact F.l _ _ e
  · by_cases hm : n = m
    · subst hm
      rw [List.getElem?_set_self hlt] at e1
      cases e1
      rw [ha] at e2; cases e2
      exact ⟨u, upd_same, ho, h3, h4⟩
    · rw [List.getElem?_set_ne hm] at e1
      have q := F.cell m x b e1 e2
      cases x with
      | mu p =>
        obtain ⟨w', q1, q2, q3, q4⟩ := q
        have : b ≠ a := fun z => by subst z; exact hm (F.inj n m b o p h e1 ha e2)
        exact ⟨w', by rw [upd_ne this]; exact q1, q2, q3, q4⟩
      | fz l => exact q
      | dead => trivial
  · obtain ⟨q1, r1⟩ := back m p e1
    obtain ⟨q2, r2⟩ := back k p' e2
    exact F.inj m k b q1 q2 r1 r2 e3 e4
  · obtain ⟨k1, k2, k3, k4⟩ := F.own b a' f ws e
    have hb : b ≠ a := fun z => k4 n o h (by rw [z]; exact ha)
    refine ⟨by rw [upd_ne hb]; exact k1, k2, k3, fun m p e1 e2 => ?_⟩
    obtain ⟨q1, r1⟩ := back m p e1
    exact k4 m q1 r1 e2
/-- what is known of a cell no longer matters -/
theorem StOk.drop {st : Store} {n : Nat} {x : Cell} (F : StOk c Γ st H) (hx : ∀ a, Γ.ρ[n]? = some a → CellOk c Γ H a x) (hm : ∀ o, x ≠ .mu o) : StOk c Γ (st.set n x) H := by
  have old : ∀ (m : Nat) (p : Con), (st.set n x)[m]? = some (.mu p) → st[m]? = some (.mu p) := fun m p e => by
      by_cases h : n = m
      · subst h
        have hlt := (List.getElem?_eq_some_iff.mp e).1
        simp at hlt
        rw [List.getElem?_set_self hlt] at e
        cases e
        exact (hm p rfl).elim
      · rw [List.getElem?_set_ne h] at e; exact e
  refine ⟨F.g, F.l, F.gl, by simpa using F.len, fun m y b e1 e2 => ?_, fun m k b p p' e1 e2 e3 e4 => ?_, fun b a f ws e => let ⟨k1, k2, k3, k4⟩ := F.own b a f ws e; ⟨k1, k2, k3, fun m q e1 e2 => k4 m q (old m q e1) e2⟩⟩
  · by_cases h : n = m
    · subst h
      have hlt := (List.getElem?_eq_some_iff.mp e1).1
      simp at hlt
      rw [List.getElem?_set_self hlt] at e1
      cases e1
      exact hx b e2
    · rw [List.getElem?_set_ne h] at e1
      exact F.cell m y b e1 e2
  · have old : ∀ (m : Nat) (p : Con), (st.set n x)[m]? = some (.mu p) → st[m]? = some (.mu p) := fun m p e => by
      by_cases h : n = m
      · subst h
        have hlt := (List.getElem?_eq_some_iff.mp e).1
        simp at hlt
        rw [List.getElem?_set_self hlt] at e
        cases e
        exact (hm p rfl).elim
      · rw [List.getElem?_set_ne h] at e; exact e
    exact F.inj m k b p p' (old m p e1) (old k p' e2) e3 e4
/-- G takes in what stands at an address, no cell's any more -/
theorem StOk.takeG {st : Store} {a : Addr} {o : HO} (F : StOk c Γ st H) (h : H a = some o) (hg : Γ.G a = none) (hL : Γ.L a = none) (hn : ∀ (n : Nat) (p : Con), st[n]? = some (.mu p) → Γ.ρ[n]? ≠ some a) (hO : Γ.O a = none) : StOk c { Γ with G := upd Γ.G a o } st H where
  g := fun b u e => by
    have e' : upd Γ.G a o b = some u := e
    by_cases hb : b = a
    · subst hb; rw [upd_same] at e'; cases e'; exact h
    · rw [upd_ne hb] at e'; exact F.g _ _ e'
  l := F.l
  gl := fun b u e => by
    show upd Γ.G a o b = none
    have : b ≠ a := fun z => by
      have e' : Γ.L b = some u := e
      rw [z, hL] at e'; cases e'
    rw [upd_ne this]; exact F.gl b u e
  len := F.len
  cell := fun n x b e1 e2 => by
    have ex : Ext Γ.G (upd Γ.G a o) := Ext.upd hg
    have le : Γ.le { Γ with G := upd Γ.G a o } := ⟨ex, rfl, [], by simp⟩
    have q := F.cell n x b e1 e2
    cases x with
    | mu p =>
      obtain ⟨w, q1, q2, q3, q4⟩ := q
      have hb : b ≠ a := fun z => hn n p e1 (by rw [← z]; exact e2)
      exact ⟨w, q1, q2.mono le rfl, by show upd Γ.G a o b = none; rw [upd_ne hb]; exact q3, q4⟩
    | fz l => obtain ⟨vs, q1, q2⟩ := q; exact ⟨vs, ex _ _ q1, RepL.mono ex q2⟩
    | dead => trivial
  inj := F.inj
  own := fun b a' f ws e => by
    obtain ⟨k1, k2, k3, k4⟩ := F.own b a' f ws e
    have hb : b ≠ a := fun z => by
      have e' : Γ.O b = some (a', f, ws) := e
      rw [z, hO] at e'; cases e'
    exact ⟨k1, by show upd Γ.G a o b = none; rw [upd_ne hb]; exact k2, k3, k4⟩
theorem StOk.noO {st : Store} {n : Nat} {a : Addr} {o : Con} (F : StOk c Γ st H) (h : st[n]? = some (.mu o)) (ha : Γ.ρ[n]? = some a) : Γ.O a = none := by
  cases e : Γ.O a with
  | none => rfl
  | some x =>
    obtain ⟨b, f, ws⟩ := x
    exact ((F.own a b f ws e).2.2.2 n o h ha).elim
theorem FrOk.of {Γ' : Gh} {st' : Store} {H' : Hp} (F : FrOk c Γ S σ H) (e : Γ.le Γ') (F' : StOk c Γ' st' H') : FrOk c Γ' { S with st := st' } σ H' :=
  ⟨F', F.len, fun i x h => let ⟨v, h1, h2⟩ := F.sl i x h; ⟨v, h1, h2.mono e⟩⟩
end
/-- an object's data, a screen's -/
def objD (k : Nat) (fs : List (Str × D)) : Option D := match fs with
  | [] => none
  | f :: r => match f.2 with
    | .tup l => if k = 0 ∧ f.1 = "own_levels" ∧ r.isEmpty = true then some (.scr l) else none
    | _ => none
/-- a value as pure data: a list's cell is frozen, a made screen is one -/
def pureC (n : Nat) (S : Sg) : Option Cell → Res D
  | some (.fz l) => .ok (.lst l) S
  | some (.mu o) => match o with
    | .lst l => .ok (.lst l) { S with st := S.st.set n (.fz l) }
    | .dct kvs => if kvs.isEmpty = true then .ok .edct { S with st := S.st.set n .dead } else .bad
    | .obj k fs => match objD k fs with
      | some d => .ok d { S with st := S.st.set n .dead }
      | none => if 1 ≤ k ∧ k ≤ 99 then .ok (.opq k) { S with st := S.st.set n .dead } else .bad
    | .dt kvs => .ok (.dd (kvFl kvs)) { S with st := S.st.set n .dead }
  | _ => .bad
def pure1 : R → M D
  | .p d => pure d
  | .r n => fun S => pureC n S S.st[n]?
section
variable {c : Cg} {W : WX} {Γ : Gh} {S : Sg} {σ : L2.St} {H : Hp} {x : R} {v : V} {l : List D}
theorem freeze_aux {n : Nat} {o : Con} {a : Addr} {u : HO} {d : D} {y : Cell} (F : FrOk c Γ S σ H) (h : S.st[n]? = some (.mu o)) (ha : Γ.ρ[n]? = some a) (hu : H a = some u) (hG : Γ.G a = none) (hL : Γ.L a = none)
    (hd : Rep c (upd Γ.G a u) d (.ref a)) (hy : ∀ o, y ≠ .mu o) (hc : CellOk c { Γ with G := upd Γ.G a u } H a y) :
    ∃ Γ', Γ.le Γ' ∧ FrOk c Γ' { S with st := S.st.set n y } σ H ∧ Rep c Γ'.G d (.ref a) := by
  have ex : Ext Γ.G (upd Γ.G a u) := Ext.upd hG
  have le : Γ.le { Γ with G := upd Γ.G a u } := ⟨ex, rfl, [], by simp⟩
  have F1 : StOk c Γ (S.st.set n .dead) H := F.s.drop (fun _ _ => trivial) (fun _ => by simp)
  have F2 : StOk c { Γ with G := upd Γ.G a u } (S.st.set n .dead) H := F1.takeG (hO := F.s.noO h ha) hu hG hL fun m p e1 e2 => by
    by_cases hm : n = m
    · subst hm
      have hlt := (List.getElem?_eq_some_iff.mp h).1
      rw [List.getElem?_set_self hlt] at e1
      cases e1
    · rw [List.getElem?_set_ne hm] at e1
      exact hm (F.s.inj n m a o p h e1 ha e2)
  have F3 : StOk c { Γ with G := upd Γ.G a u } ((S.st.set n .dead).set n y) H := F2.drop (fun b hb => by
    have hb' : Γ.ρ[n]? = some b := hb
    rw [ha] at hb'; cases hb'; exact hc) hy
  rw [List.set_set] at F3
  exact ⟨_, le, F.of le F3, hd⟩
theorem objD_some {k : Nat} {fs : List (Str × D)} {d : D} (h : objD k fs = some d) : ∃ l, d = .scr l ∧ k = 0 ∧ fs = [(("own_levels" : Str), D.tup l)] := by
  cases fs with
  | nil => cases h
  | cons f r =>
    obtain ⟨nm, x⟩ := f
    cases x with
    | tup l =>
      have h : (if k = 0 ∧ nm = "own_levels" ∧ r.isEmpty = true then some (D.scr l) else none) = some d := h
      by_cases q : k = 0 ∧ nm = "own_levels" ∧ r.isEmpty = true
      · rw [if_pos q] at h
        cases h
        obtain ⟨q1, q2, q3⟩ := q
        subst q1 q2
        cases r with
        | nil => exact ⟨l, rfl, rfl, rfl⟩
        | cons y ys => cases q3
      · rw [if_neg q] at h; cases h
    | _ => cases h
theorem pure1_ok {K : D → Sg → Gh → Hp → Prop} (F : FrOk c Γ S σ H) (hx : RepR c Γ x v) (P : Post c W σ Γ (pure1 x S) K) : ∃ d Γ' S', Γ.le Γ' ∧ FrOk c Γ' S' σ H ∧ Rep c Γ'.G d v ∧ K d S' Γ' H := by
  cases x with
  | p d => exact ⟨d, Γ, S, Gh.le.refl, F, hx, Post.ok (c := c) (W := W) P Gh.le.refl F⟩
  | r n =>
    obtain ⟨a, ha, hv⟩ := hx
    subst hv
    have P : Post c W σ Γ (pureC n S S.st[n]?) K := P
    cases e : S.st[n]? with
    | none => rw [e] at P; exact P.elim
    | some y =>
      rw [e] at P
      cases y with
      | dead => exact P.elim
      | fz l =>
        obtain ⟨a', vs, h1, h2, h3⟩ := F.s.fro e
        rw [ha] at h1; cases h1
        exact ⟨.lst l, Γ, S, Gh.le.refl, F, Rep.lst_iff.mpr ⟨a, vs, rfl, h2, h3⟩, Post.ok (c := c) (W := W) P Gh.le.refl F⟩
      | mu o =>
        obtain ⟨u, h1, h2, h4, h5⟩ := F.s.cell n _ a e ha
        cases o with
        | lst l =>
          obtain ⟨vs, h2, h3⟩ := h2
          subst h2
          have ex : Ext Γ.G (upd Γ.G a (.lst vs)) := Ext.upd h4
          obtain ⟨Γ', le, F', R'⟩ := freeze_aux (d := .lst l) (y := .fz l) F e ha h1 h4 h5 (Rep.lst_iff.mpr ⟨a, vs, rfl, upd_same, RepL.mono ex h3⟩) (fun _ => by simp) ⟨vs, upd_same, RepL.mono ex h3⟩
          exact ⟨_, Γ', _, le, F', R', Post.ok (c := c) (W := W) P le F'⟩
        | dt kvs =>
          obtain ⟨w0, xs, ep, h2, h3⟩ := h2
          subst h2
          have ex : Ext Γ.G (upd Γ.G a (rawD w0 a xs ep)) := Ext.upd h4
          obtain ⟨ws, q1, q2⟩ := KvOk.lnk (KvOk.mono ex h3)
          obtain ⟨Γ', le, F', R'⟩ := freeze_aux (d := .dd (kvFl kvs)) (y := .dead) F e ha h1 h4 h5 (Rep.dd_iff.mpr ⟨a, w0, xs, ep, ws, rfl, upd_same, q1, q2⟩) (fun _ => by simp) trivial
          exact ⟨_, Γ', _, le, F', R', Post.ok (c := c) (W := W) P le F'⟩
        | dct kvs =>
          have P : Post c W σ Γ (if kvs.isEmpty = true then Res.ok D.edct { S with st := S.st.set n .dead } else .bad) K := P
          by_cases hk : kvs.isEmpty = true
          · rw [if_pos hk] at P
            obtain ⟨_, h2⟩ := h2
            subst h2
            obtain ⟨Γ', le, F', R'⟩ := freeze_aux (d := .edct) (y := .dead) F e ha h1 h4 h5 (Rep.edct_iff.mpr ⟨a, rfl, upd_same⟩) (fun _ => by simp) trivial
            exact ⟨_, Γ', _, le, F', R', Post.ok (c := c) (W := W) P le F'⟩
          · rw [if_neg hk] at P; exact P.elim
        | obj k fs =>
          have P : Post c W σ Γ (match objD k fs with | some d => Res.ok d { S with st := S.st.set n .dead } | none => if 1 ≤ k ∧ k ≤ 99 then Res.ok (.opq k) { S with st := S.st.set n .dead } else .bad) K := P
          cases hd : objD k fs with
          | none =>
            rw [hd] at P
            have P : Post c W σ Γ (if 1 ≤ k ∧ k ≤ 99 then Res.ok (.opq k) { S with st := S.st.set n .dead } else .bad) K := P
            by_cases hk : 1 ≤ k ∧ k ≤ 99
            · rw [if_pos hk] at P
              obtain ⟨dx, vs, rfl, _, _⟩ := h2
              obtain ⟨Γ', le, F', R'⟩ := freeze_aux (d := .opq k) (y := .dead) F e ha h1 h4 h5 (Rep.opq_iff.mpr ⟨a, dx, vs, rfl, upd_same⟩) (fun _ => by simp) trivial
              exact ⟨_, Γ', _, le, F', R', Post.ok (c := c) (W := W) P le F'⟩
            · rw [if_neg hk] at P; exact P.elim
          | some d =>
            rw [hd] at P
            obtain ⟨l, rfl, rfl, rfl⟩ := objD_some hd
            obtain ⟨dx, fs, h2, ⟨v', r, h3, h3', h3''⟩, _⟩ := h2
            have h3b : r = [] := h3''
            subst h3b h3 h2
            obtain ⟨b, vs, k1, k2, k3⟩ := Rep.tup_iff.mp h3'
            subst k1
            have ex : Ext Γ.G (upd Γ.G a (.ins (c.cls 0) dx [("own_levels", .ref b)])) := Ext.upd h4
            obtain ⟨Γ', le, F', R'⟩ := freeze_aux (d := .scr l) (y := .dead) F e ha h1 h4 h5 (Rep.scr_iff.mpr ⟨a, dx, b, vs, rfl, upd_same, TupS.mono ex k2, RepL.mono ex k3⟩) (fun _ => by simp) trivial
            exact ⟨_, Γ', _, le, F', R', Post.ok (c := c) (W := W) P le F'⟩
end
end Dd

set_option Elab.async false
set_option linter.all false
set_option maxRecDepth 100000
namespace Dd
open PySem PySem.Spec PyProof.Rows L2

/-! ### argument lists, displays -/
def aN : M (List R) := pure []
def aC (f : M R) (g : M (List R)) : M (List R) := do
  let x ← f
  let xs ← g
  pure (x :: xs)
def pur (f : M R) : M R := do
  let x ← f
  let d ← pure1 x
  pure (.p d)
def pureL : List R → M (List D)
  | [] => pure []
  | x :: xs => do
    let d ← pure1 x
    let ds ← pureL xs
    pure (d :: ds)
def allocT (ds : List D) : M R := fun S => if ds.length ≤ sizeLine then .ok (.p (.tup ds)) S else .bad
def allocL (ds : List D) : M R := fun S => if ds.length ≤ sizeLine then .ok (.r S.st.length) { S with st := S.st ++ [.mu (.lst ds)] } else .bad
def tupE (g : M (List R)) : M R := do
  let xs ← g
  let ds ← pureL xs
  allocT ds
def lstE (g : M (List R)) : M R := do
  let xs ← g
  let ds ← pureL xs
  allocL ds
section
variable {X : Cx} {c : Cg} {W : WX} {e a b : Expr} {es : List Expr} {f fa fb : M R} {g : M (List R)} {pos : Pos}
theorem sa_nil : PA X [] (rdA c W aN) := sa_of pa_nil fun σ H Q q => by
  obtain ⟨Γ, S, F, P⟩ := q
  exact Post.ok (c := c) (W := W) P Gh.le.refl F [] rfl
theorem sa_cons (ha : PE X e (rdE c W f)) (hr : PA X es (rdA c W g)) (hs : starEach (e :: es) X.env = (false, eval e X.env) :: starEach es X.env := by rfl) : PA X (e :: es) (rdA c W (aC f g)) :=
  sa_of (pa_cons ha hr hs) fun σ H Q q => by
    obtain ⟨Γ, S, F, P⟩ := q
    refine ⟨Γ, S, F, ?_⟩
    refine (Post.bind P).imp fun x S1 Γ1 H1 e1 F1 ⟨_, P1⟩ v hv => ?_
    refine ⟨Γ1, S1, F1, ?_⟩
    refine (Post.bind P1).imp fun xs S2 Γ2 H2 e2 F2 ⟨_, P2⟩ vs hvs => ?_
    exact Post.ok (c := c) (W := W) P2 Gh.le.refl F2 (v :: vs) ⟨v, vs, rfl, hv.mono e2, hvs⟩
theorem se_pur (ha : PE X e (rdE c W f)) : PE X e (rdE c W (pur f)) := se_of ha fun σ H Q q => by
  obtain ⟨Γ, S, F, P⟩ := q
  refine ⟨Γ, S, F, ?_⟩
  refine (Post.bind P).imp fun x S1 Γ1 H1 e1 F1 ⟨_, P1⟩ v hv => ?_
  obtain ⟨d, Γ2, S2, e2, F2, hd, _, P2⟩ := pure1_ok F1 hv (Post.bind P1)
  exact Post.ok (c := c) (W := W) P2 Gh.le.refl F2 v hd
theorem pureL_ok {σ : L2.St} {H : Hp} : ∀ {xs : List R} {vs : List V} {Γ : Gh} {S : Sg} {K : List D → Sg → Gh → Hp → Prop}, FrOk c Γ S σ H → RepRL c Γ xs vs → Post c W σ Γ (pureL xs S) K → ∃ ds Γ' S', Γ.le Γ' ∧ FrOk c Γ' S' σ H ∧ RepL c Γ'.G ds vs ∧ K ds S' Γ' H
  | [], vs, Γ, S, K, F, hx, P => ⟨[], Γ, S, Gh.le.refl, F, RepL.nil_iff.mpr hx, Post.ok (c := c) (W := W) P Gh.le.refl F⟩
  | x :: xs, vs, Γ, S, K, F, hx, P => by
    obtain ⟨v, r, rfl, h1, h2⟩ := hx
    obtain ⟨d, Γ1, S1, e1, F1, hd, _, P1⟩ := pure1_ok F h1 (Post.bind P)
    obtain ⟨ds, Γ2, S2, e2, F2, hds, _, P2⟩ := pureL_ok F1 (RepRL.mono e1 h2) (Post.bind P1)
    exact ⟨d :: ds, Γ2, S2, e1.trans e2, F2, RepL.cons (Rep.mono e2.g hd) hds, Post.ok (c := c) (W := W) P2 Gh.le.refl F2⟩
/-- a tuple that is made: known to have no dict -/
def tTupF (t : TA) : TE := fun σ H Q => t σ H fun xs H1 => xs.length ≤ sizeLine ∧ ∀ p o, H1 p = none → o.dict = none → Q (.ref p) (upd H1 p (.frz o (.tup xs)))
theorem pe_tupF {x1} {t : TA} (h : PA X es t) : PE X (.Tuple es x1 pos) (tTupF t) := by
  refine ⟨fun pins s σ H Q I hq => ?_⟩
  refine wpAny_Tuple_spliced (thn (h.run pos pins s σ H _ I hq) fun us s1 ⟨xs, H1, I1, r, z, q⟩ => ⟨by rw [← r.length]; exact z, ?_⟩)
  have hf : H1 s1.heap.objs.size = none := I1.hok.fresh (Nat.le_refl _)
  refine ⟨.ref s1.heap.objs.size, upd H1 s1.heap.objs.size (.frz { cls := .type "tuple", data := .seq us.toArray } (.tup xs)), I1.laid (t' := s1.toks) (fun b u e => Heap.get?_push_of_some _ e) (Nat.le_refl _) ?_, rfl, q _ _ hf rfl⟩
  exact ⟨Heap.get?_push_size _ rfl, z, us, r, ⟨_, Heap.get?_push_size _ rfl, rfl, _, rfl⟩⟩
theorem newT_ok {Γ : Gh} {S : Sg} {σ : L2.St} {H : Hp} {ds : List D} {vs : List V} {p : Addr} {o : Obj} (F : FrOk c Γ S σ H) (h : RepL c Γ.G ds vs) (hp : H p = none) (ho : o.dict = none) :
    ∃ Γ', Γ.le Γ' ∧ FrOk c Γ' S σ (upd H p (.frz o (.tup vs))) ∧ Rep c Γ'.G (.tup ds) (.ref p) := by
  have hG : Γ.G p = none := Ext.none F.s.g hp
  have ex : Ext Γ.G (upd Γ.G p (.frz o (.tup vs))) := Ext.upd hG
  have le : Γ.le { Γ with G := upd Γ.G p (.frz o (.tup vs)) } := ⟨ex, rfl, [], by simp⟩
  exact ⟨_, le, F.of le (F.s.newG hp), Rep.tup_iff.mpr ⟨p, vs, rfl, .inl ⟨o, upd_same, ho⟩, RepL.mono ex h⟩⟩
theorem newL_ok {Γ : Gh} {S : Sg} {σ : L2.St} {H : Hp} {ds : List D} {vs : List V} {p : Addr} (F : FrOk c Γ S σ H) (h : RepL c Γ.G ds vs) (hp : H p = none) :
    ∃ Γ', Γ.le Γ' ∧ FrOk c Γ' { S with st := S.st ++ [.mu (.lst ds)] } σ (upd H p (.lst vs)) ∧ RepR c Γ' (.r S.st.length) (.ref p) := by
  have le : Γ.le { Γ with ρ := Γ.ρ ++ [p] } := ⟨Ext.refl, rfl, [p], rfl⟩
  refine ⟨_, le, F.of le (F.s.newC hp ⟨vs, rfl, h⟩), p, ?_, rfl⟩
  show (Γ.ρ ++ [p])[S.st.length]? = some p
  rw [F.s.len]; simp
theorem se_tup {x1} (h : PA X es (rdA c W g)) : PE X (.Tuple es x1 pos) (rdE c W (tupE g)) := se_of (pe_tupF h) fun σ H Q q => by
  obtain ⟨Γ, S, F, P⟩ := q
  refine ⟨Γ, S, F, ?_⟩
  refine (Post.bind P).imp fun xs S1 Γ1 H1 e1 F1 ⟨_, P1⟩ vs hvs => ?_
  obtain ⟨ds, Γ2, S2, e2, F2, hds, _, P2⟩ := pureL_ok F1 hvs (Post.bind P1)
  unfold allocT at P2
  by_cases hz : ds.length ≤ sizeLine
  · rw [if_pos hz] at P2
    refine ⟨by rw [hds.length]; exact hz, fun p o hp ho => ?_⟩
    obtain ⟨Γ3, e3, F3, r3⟩ := newT_ok F2 hds hp ho
    exact P2.ok e3 F3 _ r3
  · rw [if_neg hz] at P2; exact P2.elim
theorem se_lst (h : PA X es (rdA c W g)) : PE X (.List es pos) (rdE c W (lstE g)) := se_of (pe_lst h) fun σ H Q q => by
  obtain ⟨Γ, S, F, P⟩ := q
  refine ⟨Γ, S, F, ?_⟩
  refine (Post.bind P).imp fun xs S1 Γ1 H1 e1 F1 ⟨_, P1⟩ vs hvs => ?_
  obtain ⟨ds, Γ2, S2, e2, F2, hds, _, P2⟩ := pureL_ok F1 hvs (Post.bind P1)
  unfold allocL at P2
  by_cases hz : ds.length ≤ sizeLine
  · rw [if_pos hz] at P2
    refine ⟨by rw [hds.length]; exact hz, fun p hp => ?_⟩
    obtain ⟨Γ3, e3, F3, r3⟩ := newL_ok F2 hds hp
    exact P2.ok e3 F3 _ r3
  · rw [if_neg hz] at P2; exact P2.elim
end

/-! ### functions -/
inductive FR where
  | val (d : D) | new (o : Con)
inductive FRes where
  | ok (r : FR) (st : Store) | exc (x : Xn) (st : Store) | bad
abbrev Fn := List R → Store → FRes
def applyF (S : Sg) : FRes → Res R
  | .ok (.val d) st => .ok (.p d) { S with st := st }
  | .ok (.new o) st => .ok (.r st.length) { S with st := st ++ [.mu o] }
  | .exc x st => .exc x { S with st := st }
  | .bad => .bad
def callM (F : Fn) (n : Nat) (g : M (List R)) : M R := do
  let xs ← g
  fun S => if xs.length = n then applyF S (F xs S.st) else .bad
def FPost (c : Cg) (Γ : Gh) (r : FRes) (Q : VK) (E : XK) : Prop := match r with
  | .ok (.val d) st => ∀ Γ' H' v, Γ.le Γ' → StOk c Γ' st H' → Rep c Γ'.G d v → Q v H'
  | .ok (.new o) st => ∀ Γ' H' a, Γ.le Γ' → StOk c { Γ' with ρ := Γ'.ρ ++ [a] } (st ++ [.mu o]) H' → Q (.ref a) H'
  | .exc x st => ∀ Γ' H' cls dd, Γ.le Γ' → StOk c Γ' st H' → XRep c Γ' H' x cls dd → E cls dd H'
  | .bad => False
def spF (c : Cg) (n : Nat) (F : Fn) : Sp := fun vs H Q E => ∃ xs Γ st, vs.length = n ∧ RepRL c Γ xs vs ∧ StOk c Γ st H ∧ FPost c Γ (F xs st) Q E
theorem le_app {Γ : Gh} {a : Addr} : Γ.le { Γ with ρ := Γ.ρ ++ [a] } := ⟨Ext.refl, rfl, [a], rfl⟩
/-- from the wish at an expression to the promise -/
theorem applyF_ok {c : Cg} {W : WX} {Γ : Gh} {S : Sg} {σ : L2.St} {H : Hp} {r : FRes} {Q : VK} (F : FrOk c Γ S σ H) (P : Post c W σ Γ (applyF S r) fun x S' Γ' H' => ∀ v, RepR c Γ' x v → Q v H') : FPost c Γ r Q (WE W σ) := by
  cases r with
  | bad => exact P.elim
  | exc x st => exact fun Γ' H' cls dd e s q => P Γ' H' cls dd e (F.of e s) q
  | ok r st =>
    cases r with
    | val d => exact fun Γ' H' v e s q => Post.ok (c := c) (W := W) P e (F.of e s) v q
    | new o =>
      intro Γ' H' a e s
      have e' : Γ.le { Γ' with ρ := Γ'.ρ ++ [a] } := e.trans le_app
      refine Post.ok (c := c) (W := W) P e' (F.of e' s) (.ref a) ⟨a, ?_, rfl⟩
      show (Γ'.ρ ++ [a])[st.length]? = some a
      have hl := s.len
      simp at hl
      rw [hl]; simp
/-- a def's promise where no repr is under way -/
structure FnG (P : Program) (w : World) (K : PySem.W.Frag) (mg : Str → Option Value) (base : Heap) (k : Nat) (f : Addr) (fd : FuncData) (ps : List Str) (sp : Sp) : Prop where
  len : ∀ vs H Q E, sp vs H Q E → vs.length = ps.length
  run : ∀ (A : Around) (outer : List Env) (s : Shared) (H : Hp) (args : Args) (us : List Value) (vs : List V) (Q : VK) (E : XK), A.guards = some [] → Room k A → Env0 P w K mg base A outer s H → BindsTo s fd args (ps.zip us) → Vals vs us → sp vs H Q E →
    codeAny (model P w) A (.call (.ref f) args) (CR (L2.CX P w) outer P w H s Q E) s
/-- how a call's outcome is taken -/
theorem taken {X : Cx} {pins : List (Addr × Obj)} {σ : L2.St} {H : Hp} {s s' : Shared} {Q : VK} {E : XK} {r : Result} (hx : PassesAt (L2.CX X.prog X.w) X σ E) (I : L2.Inv X pins σ H s) (h : CR (L2.CX X.prog X.w) X.stack X.prog X.w H s Q E r s') :
    (∃ e, r = .error e ∧ X.xe e s') ∨ ∃ u, r = .ok (.ret u) ∧ EP X pins σ Q u s' := by
  match r, h with
  | .error e, h => exact .inl ⟨e, rfl, hx pins H s e s' I h⟩
  | .ok (.ret u), h => exact .inr ⟨u, rfl, I.after h⟩
theorem run_fnG {X : Cx} {pins : List (Addr × Obj)} {σ : L2.St} {H : Hp} {s : Shared} {Q : VK} {us : List Value} {vs : List V} {E : XK} {k : Nat} {f : Addr} {fd : FuncData} {ps : List Str} {sp : Sp} (F : FnG X.prog X.w X.K X.mg X.base k f fd ps sp) (hG : X.A.guards = some []) (hr : Room k X.A) (hb : Binds X.K fd ps [])
    (hx : PassesAt (L2.CX X.prog X.w) X σ E) (I : L2.Inv X pins σ H s) (r : Vals vs us) (h : sp vs H Q E) : wpAny (model X.prog X.w) X.A (call (.ref f) us) (EP X pins σ Q) X.xe s := by
  have hl : (us ++ []).length = ps.length := by rw [List.append_nil, ← r.length]; exact F.len _ _ _ _ h
  have b := hb s us I.kIn hl
  simp only [List.append_nil] at b
  refine wpAny_call (codeAny_mono (F.run X.A X.stack s H _ us vs Q E hG hr I.env0 b r h) fun r s' hq => ?_)
  rcases taken hx I hq with ⟨e, rfl, q⟩ | ⟨u, rfl, q⟩
  · exact q
  · exact q
theorem pe_callG {X : Cx} {W : WX} {p pos : Pos} {x : Str} {e : Expr} {es : List Expr} {t : TA} {k : Nat} {f : Addr} {fd : FuncData} {ps : List Str} {sp : Sp} (F : FnG X.prog X.w X.K X.mg X.base k f fd ps sp) (hG : X.A.guards = some []) (hr : Room k X.A) (hg : Gl X x) (hm : X.mg x = some (.ref f)) (hk : PySem.W.keepIn X.K (.ref f) = true) (hb : Binds X.K fd ps []) (tk : Takes X W)
    (ha : PA X (e :: es) t) (hdb : (x == ("__debug__" : Str)) = false) (he : starEach (e :: es) X.env = (false, eval e X.env) :: starEach es X.env) (hpl : (backTo pos (starEach es X.env)).any (·.1) = false) :
    PE X (.Call (.Name x p) (e :: es) [] pos) (tCallS sp (WE W) t) :=
  ⟨fun pins s σ H Q I h => wpAny_Call_Name_kw (ld_glob I hg hm (PySem.W.callWith_K (h₀ := X.base) I.ok.mod.kin hk (thn (ha.run pos pins s σ H _ I h) fun us s1 ⟨vs, H1, I1, r, q⟩ => ⟨I1.kIn, run_fnG F hG hr hb (passAt tk σ) I1 r q⟩) he hpl) hdb)⟩
section
variable {X : Cx} {c : Cg} {W : WX} {e a b o : Expr} {es : List Expr} {f fa fb : M R} {g : M (List R)} {pos p apos : Pos} {F : Fn} {n k : Nat} {fA C : Addr} {fd : FuncData} {ps : List Str} {x m : Str}
theorem callM_read {σ : L2.St} {H : Hp} {Q : VK} (q : rdE c W (callM F n g) σ H Q) : rdA c W g σ H fun vs H1 => spF c n F vs H1 Q (WE W σ) := by
  obtain ⟨Γ, S, Fo, P⟩ := q
  refine ⟨Γ, S, Fo, ?_⟩
  refine (Post.bind P).imp fun xs S1 Γ1 H1 e1 F1 ⟨_, P1⟩ vs hvs => ?_
  by_cases h : xs.length = n
  · rw [if_pos h] at P1
    exact ⟨xs, Γ1, S1.st, by rw [hvs.length, h], hvs, F1.s, applyF_ok F1 P1⟩
  · rw [if_neg h] at P1; exact P1.elim
theorem se_call (Fk : FnG X.prog X.w X.K X.mg X.base k fA fd ps (spF c n F)) (hG : X.A.guards = some []) (hr : Room k X.A) (hg : Gl X x) (hm : X.mg x = some (.ref fA)) (hk : PySem.W.keepIn X.K (.ref fA) = true) (hb : Binds X.K fd ps []) (tk : Takes X W)
    (ha : PA X (e :: es) (rdA c W g)) (hdb : (x == ("__debug__" : Str)) = false := by decide) (he : starEach (e :: es) X.env = (false, eval e X.env) :: starEach es X.env := by rfl) (hpl : (backTo pos (starEach es X.env)).any (·.1) = false := by rfl) :
    PE X (.Call (.Name x p) (e :: es) [] pos) (rdE c W (callM F n g)) :=
  se_of (pe_callG Fk hG hr hg hm hk hb tk ha hdb he hpl) fun σ H Q q => callM_read q

/-! ### rules for built-ins -/
def CallD (c : Cg) (W : WX) (op : List R → M R) (r : List V → Hp → VK → Prop) : Prop :=
  ∀ (Γ : Gh) (S : Sg) (σ : L2.St) (H : Hp) (xs : List R) (vs : List V) (Q : VK), FrOk c Γ S σ H → RepRL c Γ xs vs →
    Post c W σ Γ (op xs S) (fun z S' Γ' H' => ∀ u, RepR c Γ' z u → Q u H') → r vs H Q
def opA (op : List R → M R) (g : M (List R)) : M R := g >>= op
theorem opA_read {op : List R → M R} {r : List V → Hp → VK → Prop} (hd : CallD c W op r) {σ : L2.St} {H : Hp} {Q : VK} (q : rdE c W (opA op g) σ H Q) : tCB r (rdA c W g) σ H Q := by
  obtain ⟨Γ, S, F, P⟩ := q
  refine ⟨Γ, S, F, ?_⟩
  refine (Post.bind P).imp fun xs S1 Γ1 H1 e1 F1 ⟨_, P1⟩ vs hvs => ?_
  exact hd Γ1 S1 σ H1 xs vs Q F1 hvs P1
theorem se_callB {id : String} {op : List R → M R} {r : List V → Hp → VK → Prop} (hc : CallR X (.builtin id) r) (hd : CallD c W op r) (hg : Gl X x) (hm : X.mg x = none) (hv : bootBuiltins x = some (.builtin id)) (ha : PA X (e :: es) (rdA c W g)) (hn : x ≠ "__name__" := by decide) (hdb : (x == ("__debug__" : Str)) = false := by decide)
    (he : starEach (e :: es) X.env = (false, eval e X.env) :: starEach es X.env := by rfl) (hpl : (backTo pos (starEach es X.env)).any (·.1) = false := by rfl) : PE X (.Call (.Name x p) (e :: es) [] pos) (rdE c W (opA op g)) :=
  se_of (pe_callB hc hg hm hv ha hn hdb he hpl) fun σ H Q q => opA_read hd q
theorem se_callTy {T : String} {op : List R → M R} {r : List V → Hp → VK → Prop} (hc : CallR X (.type T) r) (hd : CallD c W op r) (hg : Gl X x) (hm : X.mg x = none) (hv : bootBuiltins x = some (.type T)) (ha : PA X (e :: es) (rdA c W g)) (hn : x ≠ "__name__" := by decide) (hdb : (x == ("__debug__" : Str)) = false := by decide)
    (he : starEach (e :: es) X.env = (false, eval e X.env) :: starEach es X.env := by rfl) (hpl : (backTo pos (starEach es X.env)).any (·.1) = false := by rfl) : PE X (.Call (.Name x p) (e :: es) [] pos) (rdE c W (opA op g)) :=
  se_of (pe_callTy hc hg hm hv ha hn hdb he hpl) fun σ H Q q => opA_read hd q
/-- a method of a built-in type: the receiver looked at ahead of the arguments -/
def MtD (c : Cg) (W : WX) (op : R → List R → M R) (r : V → List V → Hp → VK → Prop) : Prop :=
  ∀ (Γ : Gh) (S : Sg) (σ : L2.St) (H : Hp) (x : R) (v : V) (xs : List R) (vs : List V) (Q : VK), FrOk c Γ S σ H → RepR c Γ x v → RepRL c Γ xs vs →
    Post c W σ Γ (op x xs S) (fun z S' Γ' H' => ∀ u, RepR c Γ' z u → Q u H') → r v vs H Q
/-- what is asked of the receiver -/
def TyD (c : Cg) (chk : R → Sg → Bool) (ty : V → Hp → Prop) : Prop := ∀ (Γ : Gh) (S : Sg) (σ : L2.St) (H : Hp) (x : R) (v : V), FrOk c Γ S σ H → RepR c Γ x v → chk x S = true → ty v H
def methM (chk : R → Sg → Bool) (op : R → List R → M R) (f : M R) (g : M (List R)) : M R := do
  let x ← f
  fun S => if chk x S = true then (g >>= op x) S else .bad
def tMg (ty : V → Hp → Prop) (r : V → List V → Hp → VK → Prop) (to : TE) (t : TA) : TE := fun σ H Q => to σ H fun x H1 => ty x H1 ∧ t σ H1 fun xs H2 => r x xs H2 Q
theorem methM_read {chk : R → Sg → Bool} {ty : V → Hp → Prop} {op : R → List R → M R} {r : V → List V → Hp → VK → Prop} (ht : TyD c chk ty) (hd : MtD c W op r) {σ : L2.St} {H : Hp} {Q : VK} (q : rdE c W (methM chk op f g) σ H Q) : tMg ty r (rdE c W f) (rdA c W g) σ H Q := by
  obtain ⟨Γ, S, F, P⟩ := q
  refine ⟨Γ, S, F, ?_⟩
  refine (Post.bind P).imp fun x S1 Γ1 H1 e1 F1 ⟨_, P1⟩ v hv => ?_
  by_cases h : chk x S1 = true
  · rw [if_pos h] at P1
    refine ⟨ht Γ1 S1 σ H1 x v F1 hv h, Γ1, S1, F1, ?_⟩
    refine (Post.bind P1).imp fun xs S2 Γ2 H2 e2 F2 ⟨_, P2⟩ vs hvs => ?_
    exact hd Γ2 S2 σ H2 x v xs vs Q F2 (hv.mono e2) hvs P2
  · rw [if_neg h] at P1; exact P1.elim
/-- the rules of method calls, the type told by any predicate -/
structure TyOk (X : Cx) (T : String) (ty : V → Hp → Prop) : Prop where
  is : ∀ (pins : List (Addr × Obj)) (σ : L2.St) (H : Hp) (s : Shared) (x : V) (v : Value), Inv X pins σ H s → RelV x v → ty x H → s.TypeIs v T ∧ ∀ a, v = .ref a → ∃ ob, s.heap.get? a = some ob ∧ ob.dict = none
theorem tyOk_V {T : String} : TyOk X T (tyV X.K T) := ⟨fun _ _ _ _ _ _ I r ty => tyV_is I r ty⟩
theorem tyOk_T : TyOk X "tuple" (fun v H => ∃ a vs, v = .ref a ∧ TupS X.K H a vs) := by
  refine ⟨fun pins σ H s x v I r ty => ?_⟩
  obtain ⟨a, vs, e, h⟩ := ty
  subst e
  obtain rfl : v = Value.ref a := r
  rcases h with ⟨o, h, hd⟩ | ⟨o, its, n, h1, h2, h3, _⟩
  · obtain ⟨e, _, its, _, o', e', hc, _⟩ := (show ObjOk X.prog X.w H s.heap a (.frz o (.tup vs)) from I.hok a _ h)
    rw [e] at e'; cases e'
    exact ⟨⟨_, e, hc⟩, fun b hb => by cases hb; exact ⟨o, e, hd⟩⟩
  · have e := I.kIn a o h1
    exact ⟨⟨_, e, h2⟩, fun b hb => by cases hb; exact ⟨o, e, h3⟩⟩
variable {T id : String} {name : Str} {to : TE} {t : TA} {r : V → List V → Hp → VK → Prop} {ty : V → Hp → Prop} {cpos : Pos}
theorem pe_bmG (pa : PlainAttrs T) (slot : Slot T name id) (hty : typeOf (.builtin id) = pure (.type "method_descriptor")) (hT : TyOk X T ty) (hm : MtR X id r) (ho : PE X o to) (ha : PA X (e :: es) t)
    (hbase : attributeBase o name X.env (eval o X.env) = eval o X.env := by rfl)
    (hfew : ((backTo cpos (starEach (e :: es) X.env)).all (fun x => !x.1) && (backToKw cpos (keywordEach [] X.env)).all (fun x => x.1.isSome)
      && decide ((e :: es).length + ([] : List Keyword).length + (if ([] : List Keyword).isEmpty then 0 else 1) < 30)) = true := by rfl)
    (hline : (apos.endLine == cpos.line) = true := by rfl) (hs : starEach (e :: es) X.env = (false, eval e X.env) :: starEach es X.env := by rfl) (hplain : (backTo cpos (starEach es X.env)).any (·.1) = false := by rfl) :
    PE X (.Call (.Attribute o name apos) (e :: es) [] cpos) (tMg ty r to t) := by
  refine ⟨fun pins s σ H Q I h => ?_⟩
  refine wpAny_Call_method_late hbase hfew hline rfl (thn (ho.run pins s σ H _ I h) fun v s1 ⟨x, H1, I1, r1, ty, q1⟩ => ?_)
  obtain ⟨h1, h2⟩ := hT.is _ _ _ _ _ _ I1 r1 ty
  refine ⟨T, id, pa, slot, hty, h1, h2, ?_⟩
  have hA := ha.run cpos pins s1 σ H1 _ I1 q1
  rw [hs] at hA ⊢
  refine Calls.callWith_builtin (by show (false || (backTo cpos (starEach es X.env)).any (·.1)) = false; rw [hplain] <;> rfl) (Calls.evalArgs_plain ?_)
  exact thn hA fun us s2 ⟨vs, H2, I2, r2, q2⟩ => hm pins s2 σ H2 x vs v us Q I2 r1 r2 q2
theorem se_bm {chk : R → Sg → Bool} {op : R → List R → M R} (pa : PlainAttrs T) (slot : Slot T name id) (hty : typeOf (.builtin id) = pure (.type "method_descriptor")) (hT : TyOk X T ty) (hm : MtR X id r) (ht : TyD c chk ty) (hd : MtD c W op r) (ho : PE X o (rdE c W f)) (ha : PA X (e :: es) (rdA c W g))
    (hbase : attributeBase o name X.env (eval o X.env) = eval o X.env := by rfl)
    (hfew : ((backTo cpos (starEach (e :: es) X.env)).all (fun x => !x.1) && (backToKw cpos (keywordEach [] X.env)).all (fun x => x.1.isSome)
      && decide ((e :: es).length + ([] : List Keyword).length + (if ([] : List Keyword).isEmpty then 0 else 1) < 30)) = true := by rfl)
    (hline : (apos.endLine == cpos.line) = true := by rfl) (hs : starEach (e :: es) X.env = (false, eval e X.env) :: starEach es X.env := by rfl) (hplain : (backTo cpos (starEach es X.env)).any (·.1) = false := by rfl) :
    PE X (.Call (.Attribute o name apos) (e :: es) [] cpos) (rdE c W (methM chk op f g)) :=
  se_of (pe_bmG pa slot hty hT hm ho ha hbase hfew hline hs hplain) fun σ H Q q => methM_read ht hd q
end

/-! ### statements -/
section
variable {X : Cx} {c : Cg} {W : WX} {e a b o : Expr} {es : List Expr} {f fa fb : M R} {g : M (List R)} {h h1 h2 : M Fl} {pos pos' : Pos} {st : Stmt} {sts : List Stmt}
def sNx : M Fl := pure .nx
/-- one statement, then others -/
def sSq (h1 h2 : M Fl) : M Fl := do
  let f ← h1
  match f with
  | .nx => h2
  | x => pure x
theorem sSq_nx {S S' : Sg} (q : h1 S = .ok .nx S') : sSq h1 h2 S = h2 S' := by unfold sSq; rw [bind_ok q]
theorem sSq_rt {S S' : Sg} {x : R} (q : h1 S = .ok (.rt x) S') : sSq h1 h2 S = .ok (.rt x) S' := by unfold sSq; rw [bind_ok q]; rfl
theorem sSq_bk {S S' : Sg} (q : h1 S = .ok .bk S') : sSq h1 h2 S = .ok .bk S' := by unfold sSq; rw [bind_ok q]; rfl
theorem sSq_ct {S S' : Sg} (q : h1 S = .ok .ct S') : sSq h1 h2 S = .ok .ct S' := by unfold sSq; rw [bind_ok q]; rfl
theorem sSq_exc {S S' : Sg} {x : Xn} (q : h1 S = .exc x S') : sSq h1 h2 S = .exc x S' := by unfold sSq; rw [bind_exc q]
theorem sSq_bad {S : Sg} (q : h1 S = .bad) : sSq h1 h2 S = .bad := by unfold sSq; rw [bind_bad q]
theorem sss_nil : PSs X [] (rdS c W sNx) := sss_of pss_nil fun E σ H q => by
  obtain ⟨Γ, S, F, P⟩ := q
  exact P Γ σ H Gh.le.refl F
theorem PostS.seq {Γ : Gh} {S : Sg} {E : Ends} (P : PostS c W Γ (sSq h1 h2 S) E) : PostS c W Γ (h1 S) { E with nx := rdS c W h2 E } := by
  cases q : h1 S with
  | bad => rw [sSq_bad q] at P; exact P.elim
  | exc x S' => rw [sSq_exc q] at P; exact P
  | ok a S' =>
    cases a with
    | nx => rw [sSq_nx q] at P; exact fun Γ' σ' H' e F => ⟨Γ', S', F, P.le e⟩
    | rt x => rw [sSq_rt q] at P; exact P
    | bk => rw [sSq_bk q] at P; exact P
    | ct => rw [sSq_ct q] at P; exact P
theorem sss_cons (hs : PS X st (rdS c W h1)) (ht : PSs X sts (rdS c W h2)) : PSs X (st :: sts) (rdS c W (sSq h1 h2)) := sss_of (pss_cons hs ht) fun E σ H q => by
  obtain ⟨Γ, S, F, P⟩ := q
  exact ⟨Γ, S, F, P.seq⟩
theorem sss_one (hs : PS X st (rdS c W h1)) : PSs X [st] (rdS c W h1) := pss_one hs
def sBad : M Fl := bad
def sBk : M Fl := pure .bk
def sCt : M Fl := pure .ct
theorem ss_cont : PS X (.Continue pos) (rdS c W sCt) := ss_of ps_continue fun E σ H q => by
  obtain ⟨Γ, S, F, P⟩ := q
  exact P Γ σ H Gh.le.refl F
def sEx (f : M R) : M Fl := do
  let _ ← f
  pure .nx
theorem ss_expr (he : PE X e (rdE c W f)) (hs : swapsWith e none pos.line X.env = pure false := by rfl) : PS X (.Expr e pos) (rdS c W (sEx f)) := ss_of (ps_expr he hs) fun E σ H q => by
  obtain ⟨Γ, S, F, P⟩ := q
  refine ⟨Γ, S, F, (PostS.bindE P).imp fun x S1 Γ1 H1 e1 F1 ⟨_, P1⟩ v hv => ?_⟩
  exact P1 Γ1 σ H1 Gh.le.refl F1
def sRt (f : M R) : M Fl := do
  let x ← f
  pure (.rt x)
theorem ss_ret (he : PE X e (rdE c W f)) : PS X (.Return (some e) pos) (rdS c W (sRt f)) := ss_of (ps_ret he) fun E σ H q => by
  obtain ⟨Γ, S, F, P⟩ := q
  refine ⟨Γ, S, F, (PostS.bindE P).imp fun x S1 Γ1 H1 e1 F1 ⟨_, P1⟩ v hv => ?_⟩
  exact P1 Γ1 σ H1 v Gh.le.refl F1 hv
def sRtN : M Fl := pure (.rt (.p .non))
def sIf (t : M Bool) (h1 h2 : M Fl) : M Fl := do
  let k ← t
  if k = true then h1 else h2
theorem ss_if {t : M Bool} {p q : List Stmt} (hc : PT X e (rdT c W t)) (hp : PSs X p (rdS c W h1)) (hq : PSs X q (rdS c W h2)) : PS X (.If e p q pos) (rdS c W (sIf t h1 h2)) := ss_of (ps_if hc hp hq) fun E σ H q => by
  obtain ⟨Γ, S, F, P⟩ := q
  refine ⟨Γ, S, F, (PostS.bindE P).imp fun k S1 Γ1 H1 e1 F1 ⟨_, P1⟩ => ?_⟩
  cases k with
  | true => exact ⟨Γ1, S1, F1, P1⟩
  | false => exact ⟨Γ1, S1, F1, P1⟩
/-- a name is stored -/
def put (i : Nat) (x : R) : M Unit := fun S => .ok () { S with sl := S.sl.set i (some x) }
theorem FrOk.put {Γ : Gh} {S : Sg} {σ : L2.St} {H : Hp} {x : R} {v : V} (i : Nat) (F : FrOk c Γ S σ H) (h : RepR c Γ x v) : FrOk c Γ { S with sl := S.sl.set i (some x) } (σ.set i (some v)) H := by
  refine ⟨F.s, by simp [F.len], fun j y hj => ?_⟩
  by_cases e : i = j
  · subst e
    have hlt := (List.getElem?_eq_some_iff.mp hj).1
    simp at hlt
    rw [List.getElem?_set_self hlt] at hj
    cases hj
    exact ⟨v, by rw [List.getElem?_set_self (by rw [← F.len]; exact hlt)], h⟩
  · rw [List.getElem?_set_ne e] at hj
    obtain ⟨w, h1, h2⟩ := F.sl j y hj
    exact ⟨w, by rw [List.getElem?_set_ne e]; exact h1, h2⟩
def sSet (i : Nat) (f : M R) : M Fl := do
  let x ← f
  put i x
  pure .nx
theorem ss_set {i : Nat} {x : Str} (hN : X.N.Nodup) (hi : X.N[i]? = some x) (hx : Loc X.env.scope x) (he : PE X e (rdE c W f)) (hs : swapsWith e (some (.Name x pos')) pos.line X.env = pure false := by rfl) (hf : X.fn x = true ∨ X.env.scope.names.lookup x = some .local := by first | exact .inl rfl | exact .inr rfl | assumption) :
    PS X (.Assign [.Name x pos'] e pos) (rdS c W (sSet i f)) := ss_of (ps_set hN hi hx he hs hf) fun E σ H q => by
  obtain ⟨Γ, S, F, P⟩ := q
  refine ⟨Γ, S, F, (PostS.bindE P).imp fun x S1 Γ1 H1 e1 F1 ⟨_, P1⟩ v hv => ?_⟩
  exact P1 Γ1 _ H1 Gh.le.refl (F1.put i hv)
end
end Dd

set_option Elab.async false
set_option linter.all false
set_option maxRecDepth 100000
namespace Dd
open PySem PySem.Spec PyProof.Rows L2

/-! ### tests -/
def toB : R → M Bool := fun x S => match x with
  | .p (.bl b) => .ok b S
  | _ => .bad
def tst (f : M R) : M Bool := f >>= toB
def mNot (t : M Bool) : M Bool := do
  let b ← t
  pure (!b)
def mAnd (t u : M Bool) : M Bool := do
  let b ← t
  if b = true then u else pure false
def mOr (t u : M Bool) : M Bool := do
  let b ← t
  if b = true then pure true else u
section
variable {X : Cx} {c : Cg} {W : WX} {e a b o : Expr} {rest : List Expr} {f fa fb fc : M R} {t u : M Bool} {pos : Pos}
theorem toB_ok {σ : L2.St} {Γ : Gh} {S : Sg} {x : R} {v : V} {K : Bool → Sg → Gh → Hp → Prop} {H : Hp} (F : FrOk c Γ S σ H) (hv : RepR c Γ x v) (P : Post c W σ Γ (toB x S) K) : ∃ k, v = .bl k ∧ K k S Γ H := by
  cases x with
  | r n => exact P.elim
  | p d =>
    cases d with
    | bl k => exact ⟨k, RepR.bl hv, Post.ok (c := c) (W := W) P Gh.le.refl F⟩
    | _ => exact P.elim
theorem tst_read {σ : L2.St} {H : Hp} {Q : Bool → Hp → Prop} (q : rdT c W (tst f) σ H Q) : rdE c W f σ H fun x H1 => ∃ k, x = .bl k ∧ Q k H1 := by
  obtain ⟨Γ, S, F, P⟩ := q
  refine ⟨Γ, S, F, (Post.bind P).imp fun x S1 Γ1 H1 e1 F1 ⟨_, P1⟩ v hv => ?_⟩
  exact toB_ok F1 hv P1
theorem st_val (h : PE X e (rdE c W f)) (he : ∀ whole, isTrue e X.env whole = (do let v ← whole; standAt e.pos; holding [v] (truthy v)) := by intro _; rfl) : PT X e (rdT c W (tst f)) :=
  st_of (pt_val h he) fun σ H Q q => tst_read q
theorem st_cmp {op' : CmpOp} {op : R → R → M R} {r : R2} (ho : OpR X (compareOp op') r) (hd : OpD c W op r) (ha : PE X a (rdE c W fa)) (hb : PE X b (rdE c W fb)) (hm : behindInMarks op' b = false) : PT X (.Compare a [op'] [b] pos) (rdT c W (tst (bin op fa fb))) :=
  st_of (pt_cmpR ho ha hb hm) fun σ H Q q => bin_read hd (tst_read q)
theorem st_not (h : PT X a (rdT c W t)) : PT X (.UnaryOp .Not a pos) (rdT c W (mNot t)) := st_of (pt_not h) fun σ H Q q => by
  obtain ⟨Γ, S, F, P⟩ := q
  refine ⟨Γ, S, F, (Post.bind P).imp fun k S1 Γ1 H1 e1 F1 ⟨_, P1⟩ => ?_⟩
  exact Post.ok (c := c) (W := W) P1 Gh.le.refl F1
theorem sw_and1 (h : PT X a (rdT c W t)) : PW X (.BoolOp .And [a] pos) (rdT c W t) := pw_and1 h
theorem sw_or1 (h : PT X a (rdT c W t)) : PW X (.BoolOp .Or [a] pos) (rdT c W t) := pw_or1 h
theorem sw_and (ha : PT X a (rdT c W t)) (hb : PW X (.BoolOp .And (b :: rest) pos) (rdT c W u)) : PW X (.BoolOp .And (a :: b :: rest) pos) (rdT c W (mAnd t u)) := ⟨fun wh pins s σ H Q I q => (pw_and ha hb).run wh pins s σ H Q I (by
  obtain ⟨Γ, S, F, P⟩ := q
  refine ⟨Γ, S, F, (Post.bind P).imp fun k S1 Γ1 H1 e1 F1 ⟨_, P1⟩ => ?_⟩
  cases k with
  | true => exact ⟨Γ1, S1, F1, P1⟩
  | false => exact Post.ok (c := c) (W := W) P1 Gh.le.refl F1)⟩
theorem sw_or (ha : PT X a (rdT c W t)) (hb : PW X (.BoolOp .Or (b :: rest) pos) (rdT c W u)) : PW X (.BoolOp .Or (a :: b :: rest) pos) (rdT c W (mOr t u)) := ⟨fun wh pins s σ H Q I q => (pw_or ha hb).run wh pins s σ H Q I (by
  obtain ⟨Γ, S, F, P⟩ := q
  refine ⟨Γ, S, F, (Post.bind P).imp fun k S1 Γ1 H1 e1 F1 ⟨_, P1⟩ => ?_⟩
  cases k with
  | false => exact ⟨Γ1, S1, F1, P1⟩
  | true => exact Post.ok (c := c) (W := W) P1 Gh.le.refl F1)⟩
theorem st_bool {o : BoolOp} {es : List Expr} (h : PW X (.BoolOp o es pos) (rdT c W t)) : PT X (.BoolOp o es pos) (rdT c W t) := h.pt
/-- values: a and b, a or b, not a (bools) -/
def eAnd (f g : M R) : M R := do
  let b ← tst f
  if b = true then g else pure (.p (.bl false))
def eOr (f g : M R) : M R := do
  let b ← tst f
  if b = true then pure (.p (.bl true)) else g
def eNot (f : M R) : M R := do
  let b ← tst f
  pure (.p (.bl (!b)))
theorem se_one {o : BoolOp} (h : PE X a (rdE c W f)) : PE X (.BoolOp o [a] pos) (rdE c W f) := pe_one h
theorem se_and (ha : PE X a (rdE c W fa)) (hb : PE X (.BoolOp .And (b :: rest) pos) (rdE c W fb)) : PE X (.BoolOp .And (a :: b :: rest) pos) (rdE c W (eAnd fa fb)) := se_of (pe_and ha hb) fun σ H Q q => by
  obtain ⟨Γ, S, F, P⟩ := q
  refine ⟨Γ, S, F, (Post.bind (Post.bind P)).imp fun x S1 Γ1 H1 e1 F1 ⟨_, P1⟩ v hv => ?_⟩
  obtain ⟨k, ek, _, P2⟩ := toB_ok F1 hv P1
  refine ⟨k, ek, ?_⟩
  cases k with
  | true => exact ⟨Γ1, S1, F1, P2⟩
  | false => exact Post.ok (c := c) (W := W) P2 Gh.le.refl F1 _ ((Rep.bl_iff (c := c) (G := Γ1.G)).mpr rfl)
theorem se_or (ha : PE X a (rdE c W fa)) (hb : PE X (.BoolOp .Or (b :: rest) pos) (rdE c W fb)) : PE X (.BoolOp .Or (a :: b :: rest) pos) (rdE c W (eOr fa fb)) := se_of (pe_or ha hb) fun σ H Q q => by
  obtain ⟨Γ, S, F, P⟩ := q
  refine ⟨Γ, S, F, (Post.bind (Post.bind P)).imp fun x S1 Γ1 H1 e1 F1 ⟨_, P1⟩ v hv => ?_⟩
  obtain ⟨k, ek, _, P2⟩ := toB_ok F1 hv P1
  refine ⟨k, ek, ?_⟩
  cases k with
  | false => exact ⟨Γ1, S1, F1, P2⟩
  | true => exact Post.ok (c := c) (W := W) P2 Gh.le.refl F1 _ ((Rep.bl_iff (c := c) (G := Γ1.G)).mpr rfl)
theorem se_not (ha : PE X a (rdE c W fa)) : PE X (.UnaryOp .Not a pos) (rdE c W (eNot fa)) := se_of (pe_not ha) fun σ H Q q => by
  obtain ⟨Γ, S, F, P⟩ := q
  refine ⟨Γ, S, F, (Post.bind (Post.bind P)).imp fun x S1 Γ1 H1 e1 F1 ⟨_, P1⟩ v hv => ?_⟩
  obtain ⟨k, ek, _, P2⟩ := toB_ok F1 hv P1
  exact ⟨k, ek, Post.ok (c := c) (W := W) P2 Gh.le.refl F1 _ ((Rep.bl_iff (c := c) (G := Γ1.G)).mpr rfl)⟩
def eIf (t : M Bool) (f g : M R) : M R := do
  let b ← t
  if b = true then f else g
theorem se_if {e : Expr} (hc : PT X e (rdT c W t)) (ha : PE X a (rdE c W fa)) (hb : PE X b (rdE c W fb)) : PE X (.IfExp e a b pos) (rdE c W (eIf t fa fb)) := se_of (pe_ifExp hc ha hb) fun σ H Q q => by
  obtain ⟨Γ, S, F, P⟩ := q
  refine ⟨Γ, S, F, (Post.bind P).imp fun k S1 Γ1 H1 e1 F1 ⟨_, P1⟩ => ?_⟩
  cases k with
  | true => exact ⟨Γ1, S1, F1, P1⟩
  | false => exact ⟨Γ1, S1, F1, P1⟩
/-- a op1 b op2 c -/
def eChain (op op' : R → R → M R) (f g h : M R) : M R := do
  let x ← f
  let y ← g
  let z ← op x y
  let b ← toB z
  if b = true then do
    let w ← h
    op' y w
  else pure (.p (.bl false))
theorem se_chain_read {op op' : R → R → M R} {r r' : R2} (hd : OpD c W op r) (hd' : OpD c W op' r') {σ : L2.St} {H : Hp} {Q : VK} (q : rdE c W (eChain op op' fa fb fc) σ H Q) : tChain r r' (rdE c W fa) (rdE c W fb) (rdE c W fc) σ H Q := by
  obtain ⟨Γ, S, F, P⟩ := q
  refine ⟨Γ, S, F, (Post.bind P).imp fun x S1 Γ1 H1 e1 F1 ⟨_, P1⟩ v hv => ?_⟩
  refine ⟨Γ1, S1, F1, (Post.bind P1).imp fun y S2 Γ2 H2 e2 F2 ⟨_, P2⟩ w hw => ?_⟩
  refine hd Γ2 S2 σ H2 x y v w _ F2 (hv.mono e2) hw ((Post.bind P2).imp fun z S3 Γ3 H3 e3 F3 ⟨_, P3⟩ u hu => ?_)
  obtain ⟨k, ek, _, P4⟩ := toB_ok F3 hu (Post.bind P3)
  refine ⟨k, ek, ?_⟩
  cases k with
  | false => exact Post.ok (c := c) (W := W) P4 Gh.le.refl F3 _ ((Rep.bl_iff (c := c) (G := Γ3.G)).mpr rfl)
  | true =>
    refine ⟨Γ3, S3, F3, (Post.bind P4).imp fun y' S4 Γ4 H4 e4 F4 ⟨_, P5⟩ w' hw' => ?_⟩
    exact hd' Γ4 S4 σ H4 y y' w w' Q F4 (hw.mono (e3.trans e4)) hw' P5
theorem se_chain {o o' : CmpOp} {op op' : R → R → M R} {r r' : R2} (ho : OpR X (compareOp o) r) (ho' : OpR X (compareOp o') r') (hd : OpD c W op r) (hd' : OpD c W op' r') {e' : Expr} (ha : PE X a (rdE c W fa)) (hb : PE X b (rdE c W fb)) (hc : PE X e' (rdE c W fc))
    (hm : lastMarks [o, o'] [b, e'] = false := by with_unfolding_all rfl) : PE X (.Compare a [o, o'] [b, e'] pos) (rdE c W (eChain op op' fa fb fc)) :=
  se_of (pe_chain ho ho' ha hb hc hm) fun σ H Q q => se_chain_read hd hd' q
theorem st_chain {o o' : CmpOp} {op op' : R → R → M R} {r r' : R2} (ho : OpR X (compareOp o) r) (ho' : OpR X (compareOp o') r') (hd : OpD c W op r) (hd' : OpD c W op' r') {e' : Expr} (ha : PE X a (rdE c W fa)) (hb : PE X b (rdE c W fb)) (hc : PE X e' (rdE c W fc))
    (hm : lastMarks [o, o'] [b, e'] = false := by with_unfolding_all rfl) : PT X (.Compare a [o, o'] [b, e'] pos) (rdT c W (tst (eChain op op' fa fb fc))) :=
  st_of (pt_chain ho ho' ha hb hc hm) fun σ H Q q => se_chain_read hd hd' (tst_read q)
end

/-! ### targets -/
/-- what a target does with an item -/
abbrev Tg := D → M Unit
def rdG (c : Cg) (W : WX) (t : Tg) : TG := fun v σ H Q => ∃ Γ S d, FrOk c Γ S σ H ∧ Rep c Γ.G d v ∧ match t d S with
  | .ok _ S' => ∀ Γ' σ' H', Γ.le Γ' → FrOk c Γ' S' σ' H' → Q σ' H'
  | _ => False
def rdGs (c : Cg) (W : WX) (t : List D → M Unit) : TGs := fun vs σ H Q => ∃ Γ S ds, FrOk c Γ S σ H ∧ RepL c Γ.G ds vs ∧ match t ds S with
  | .ok _ S' => ∀ Γ' σ' H', Γ.le Γ' → FrOk c Γ' S' σ' H' → Q σ' H'
  | _ => False
def gN (i : Nat) : Tg := fun d => put i (.p d)
def gsN : List D → M Unit := fun ds S => match ds with
  | [] => .ok () S
  | _ => .bad
def gsC (t : Tg) (u : List D → M Unit) : List D → M Unit := fun ds S => match ds with
  | d :: r => (t d >>= fun _ => u r) S
  | _ => .bad
/-- (a, b, ..) = a tuple -/
def gT (n : Nat) (u : List D → M Unit) : Tg := fun d S => match d with
  | .tup l => if l.length = n then u l S else .bad
  | _ => .bad
section
variable {X : Cx} {c : Cg} {W : WX} {e : Expr} {es : List Expr} {t : Tg} {u : List D → M Unit} {pos : Pos}
theorem sg_of {g : TG} (h : PG X e g) (hi : ∀ v σ H Q, rdG c W t v σ H Q → g v σ H Q) : PG X e (rdG c W t) := ⟨fun pins s σ H v u Q I r q => h.run pins s σ H v u Q I r (hi v σ H Q q)⟩
theorem sgs_of {g : TGs} (h : PGs X es g) (hi : ∀ vs σ H Q, rdGs c W u vs σ H Q → g vs σ H Q) : PGs X es (rdGs c W u) := ⟨fun pins s σ H vs us Q I r q => h.run pins s σ H vs us Q I r (hi vs σ H Q q)⟩
theorem sg_name {i : Nat} {x : Str} (hN : X.N.Nodup) (hi : X.N[i]? = some x) (hx : Loc X.env.scope x) (hf : X.fn x = true ∨ X.env.scope.names.lookup x = some .local := by first | exact .inl rfl | exact .inr rfl | assumption) : PG X (.Name x pos) (rdG c W (gN i)) :=
  sg_of (pg_name hN hi hx hf) fun v σ H Q q => by
    obtain ⟨Γ, S, d, F, r, k⟩ := q
    exact k Γ _ H Gh.le.refl (F.put i (x := .p d) r)
theorem sgs_nil : PGs X [] (rdGs c W gsN) := sgs_of pgs_nil fun vs σ H Q q => by
  obtain ⟨Γ, S, ds, F, r, k⟩ := q
  cases ds with
  | nil => exact ⟨RepL.nil_iff.mp r, k Γ σ H Gh.le.refl F⟩
  | cons d ds => exact k.elim
theorem sgs_cons (h1 : PG X e (rdG c W t)) (h2 : PGs X es (rdGs c W u)) (hs : (assignEach (e :: es) X.env).map (·.2) = assign e X.env :: (assignEach es X.env).map (·.2) := by rfl) : PGs X (e :: es) (rdGs c W (gsC t u)) :=
  sgs_of (pgs_cons h1 h2 hs) fun vs σ H Q q => by
    obtain ⟨Γ, S, ds, F, r, k⟩ := q
    cases ds with
    | nil => exact k.elim
    | cons d ds =>
      obtain ⟨v, vs', rfl, h1, h2⟩ := RepL.cons_iff.mp r
      refine ⟨v, vs', rfl, Γ, S, d, F, h1, ?_⟩
      have k : match (t d >>= fun _ => u ds) S with | .ok _ S' => ∀ Γ' σ' H', Γ.le Γ' → FrOk c Γ' S' σ' H' → Q σ' H' | _ => False := k
      rw [bind_ap] at k
      cases e1 : t d S with
      | bad => rw [e1] at k; exact k
      | exc x S' => rw [e1] at k; exact k
      | ok a S' =>
        rw [e1] at k
        intro Γ' σ' H' le F'
        refine ⟨Γ', S', ds, F', RepL.mono le.g h2, ?_⟩
        have k : match u ds S' with | .ok _ S' => ∀ Γ' σ' H', Γ.le Γ' → FrOk c Γ' S' σ' H' → Q σ' H' | _ => False := k
        cases e2 : u ds S' with
        | bad => rw [e2] at k; exact k
        | exc x S2 => rw [e2] at k; exact k
        | ok a S2 => rw [e2] at k; exact fun Γ2 σ2 H2 le2 F2 => k Γ2 σ2 H2 (le.trans le2) F2
theorem sg_tup {k : Nat} {n : Nat} (hc : X.calm = true) (hK : X.K = c.K) (h : PGs X es (rdGs c W u)) (hn : (assignEach es X.env).length = n := by rfl) (hst : (assignEach es X.env).findIdx? (·.1) = none := by rfl) : PG X (.Tuple es k pos) (rdG c W (gT n u)) :=
  sg_of (pg_tup hc h hn hst) fun v σ H Q q => by
    obtain ⟨Γ, S, d, F, r, k⟩ := q
    cases d with
    | tup l =>
      obtain ⟨a, vs, h1, h2, h3⟩ := Rep.tup_iff.mp r
      have k : match (if l.length = n then u l S else .bad) with | .ok _ S' => ∀ Γ' σ' H', Γ.le Γ' → FrOk c Γ' S' σ' H' → Q σ' H' | _ => False := k
      by_cases hl : l.length = n
      · rw [if_pos hl] at k
        exact ⟨a, vs, h1, hK ▸ (TupS.mono F.s.g h2).sq, by rw [h3.length, hl], Γ, S, l, F, h3, k⟩
      · rw [if_neg hl] at k; exact k.elim
    | _ => exact k.elim
/-- target = e, a tuple's items to names -/
def sAsg (f : M R) (t : Tg) : M Fl := do
  let x ← f
  let d ← pure1 x
  t d
  pure .nx
theorem ss_asg {tg e : Expr} {f : M R} (he : PE X e (rdE c W f)) (hg : PG X tg (rdG c W t)) (ht : ∀ d S x S', t d S ≠ .exc x S') (hs : swapsWithSole [tg] e pos.line X.env = pure false := by rfl) (hw : swappedStores [tg] e X.env = pure none := by rfl)
    (h1 : (assignEach [tg] X.env).map (·.2) = [assign tg X.env] := by rfl) : PS X (.Assign [tg] e pos) (rdS c W (sAsg f t)) := ss_of (ps_asg he hg hs hw h1) fun E σ H q => by
  obtain ⟨Γ, S, F, P⟩ := q
  refine ⟨Γ, S, F, (PostS.bindE P).imp fun x S1 Γ1 H1 e1 F1 ⟨_, P1⟩ v hv => ?_⟩
  obtain ⟨d, Γ2, S2, e2, F2, hd, _, P2⟩ := pure1_ok F1 hv (PostS.bindE P1)
  refine ⟨Γ2, S2, d, F2, hd, ?_⟩
  rw [bind_ap] at P2
  cases q : t d S2 with
  | bad => rw [q] at P2; exact P2
  | exc x S' => exact (ht _ _ _ _ q).elim
  | ok a S' => rw [q] at P2; exact fun Γ' σ' H' le F' => P2 Γ' σ' H' le F'
end
theorem gN_noexc {i : Nat} : ∀ d S x S', gN i d S ≠ .exc x S' := fun _ _ _ _ h => by cases h
theorem gsN_noexc : ∀ d S x S', gsN d S ≠ .exc x S' := fun d _ _ _ h => by cases d <;> cases h
theorem gsC_noexc {t : Tg} {u : List D → M Unit} (h1 : ∀ d S x S', t d S ≠ .exc x S') (h2 : ∀ d S x S', u d S ≠ .exc x S') : ∀ d S x S', gsC t u d S ≠ .exc x S' := fun d S x S' h => by
  cases d with
  | nil => cases h
  | cons d r =>
    have h : (t d >>= fun _ => u r) S = .exc x S' := h
    rw [bind_ap] at h
    cases e : t d S with
    | ok a S1 => rw [e] at h; exact h2 _ _ _ _ h
    | exc y S1 => exact h1 _ _ _ _ e
    | bad => rw [e] at h; cases h
theorem gT_noexc {n : Nat} {u : List D → M Unit} (h2 : ∀ d S x S', u d S ≠ .exc x S') : ∀ d S x S', gT n u d S ≠ .exc x S' := fun d S x S' h => by
  cases d with
  | tup l =>
    have h : (if l.length = n then u l S else .bad) = .exc x S' := h
    split at h
    · exact h2 _ _ _ _ h
    · cases h
  | _ => cases h

/-! ### what is walked -/
/-- the items that are come by, and what must stand while they are -/
structure Itm (α : Type) where
  ok : Sg → Prop
  l : List α
/-- the machine's side, items as values -/
def ItOk (c : Cg) (Γ0 : Gh) (I : Itm D) (J : L2.It) : Prop := ∀ (Γ : Gh) (S : Sg) (σ : L2.St) (H : Hp) (i : Nat), Γ0.sub Γ → FrOk c Γ S σ H → I.ok S →
  (∀ d, I.l[i]? = some d → J.go i H ∧ ∀ x H', J.yld i H x H' → ∃ Γ', Γ.le Γ' ∧ FrOk c Γ' S σ H' ∧ Rep c Γ'.G d x) ∧ (I.l.length = i → J.stop i H)
/-- .. items as new pairs -/
def ItOkT (c : Cg) (Γ0 : Gh) (I : Itm (List D)) (J : L2.It) : Prop := ∀ (Γ : Gh) (S : Sg) (σ : L2.St) (H : Hp) (i : Nat), Γ0.sub Γ → FrOk c Γ S σ H → I.ok S →
  (∀ ds, I.l[i]? = some ds → J.go i H ∧ ∀ x H', J.yld i H x H' → ∃ Γ' T vs, Γ.le Γ' ∧ FrOk c Γ' S σ H' ∧ x = .ref T ∧ H' T = some (.tup vs) ∧ RepL c Γ'.G ds vs) ∧ (I.l.length = i → J.stop i H)
def rdI (c : Cg) (W : WX) (f : M (Itm D)) : TI := fun σ H R => ∃ Γ S, FrOk c Γ S σ H ∧ Post c W σ Γ (f S) fun I S' Γ' H' => ∀ J, ItOk c Γ' I J → R J H'
def rdIT (c : Cg) (W : WX) (f : M (Itm (List D))) : TI := fun σ H R => ∃ Γ S, FrOk c Γ S σ H ∧ Post c W σ Γ (f S) fun I S' Γ' H' => ∀ J, ItOkT c Γ' I J → R J H'
open Classical in
/-- the turns of a loop -/
noncomputable def loopL {α : Type} (ok : Sg → Prop) (body : α → M Fl) : List α → M Fl
  | [] => fun S => if ok S then .ok .nx S else .bad
  | d :: ds => fun S => if ok S then (match body d S with
    | .ok .nx S' => loopL ok body ds S'
    | .ok .ct S' => loopL ok body ds S'
    | .ok .bk S' => .ok .nx S'
    | .ok (.rt x) S' => .ok (.rt x) S'
    | .exc x S' => .exc x S'
    | .bad => .bad) else .bad
noncomputable def sFor {α : Type} (it : M (Itm α)) (t : α → M Unit) (h : M Fl) : M Fl := do
  let I ← it
  loopL I.ok (fun d => t d >>= fun _ => h) I.l
section
variable {α : Type} {ok : Sg → Prop} {body : α → M Fl} {d : α} {ds : List α} {S S' : Sg}
theorem loopL_nil (h : ok S) : loopL ok body [] S = .ok .nx S := by unfold loopL; rw [if_pos h]
theorem loopL_cons (h : ok S) : loopL ok body (d :: ds) S = (match body d S with
    | .ok .nx S' => loopL ok body ds S'
    | .ok .ct S' => loopL ok body ds S'
    | .ok .bk S' => .ok .nx S'
    | .ok (.rt x) S' => .ok (.rt x) S'
    | .exc x S' => .exc x S'
    | .bad => .bad) := by
  conv => lhs; unfold loopL
  rw [if_pos h]
theorem loopL_ok {l : List α} (h : loopL ok body l S ≠ .bad) : ok S := by
  apply Classical.byContradiction
  intro hn
  cases l with
  | nil => exact h (by unfold loopL; rw [if_neg hn])
  | cons d ds => exact h (by unfold loopL; rw [if_neg hn])
theorem loopL_nx (h : ok S) (q : body d S = .ok .nx S') : loopL ok body (d :: ds) S = loopL ok body ds S' := by rw [loopL_cons h, q]
theorem loopL_ct (h : ok S) (q : body d S = .ok .ct S') : loopL ok body (d :: ds) S = loopL ok body ds S' := by rw [loopL_cons h, q]
theorem loopL_bk (h : ok S) (q : body d S = .ok .bk S') : loopL ok body (d :: ds) S = .ok .nx S' := by rw [loopL_cons h, q]
theorem loopL_rt {x : R} (h : ok S) (q : body d S = .ok (.rt x) S') : loopL ok body (d :: ds) S = .ok (.rt x) S' := by rw [loopL_cons h, q]
theorem loopL_exc {x : Xn} (h : ok S) (q : body d S = .exc x S') : loopL ok body (d :: ds) S = .exc x S' := by rw [loopL_cons h, q]
end
section
variable {X : Cx} {c : Cg} {W : WX} {tg iter : Expr} {body : List Stmt} {t : Tg} {h : M Fl} {pos : Pos}
theorem PostS.ne {Γ : Gh} {r : Res Fl} {E : Ends} (P : PostS c W Γ r E) : r ≠ .bad := by
  intro e
  rw [e] at P
  exact P
/-- a target ahead of a body -/
theorem bodyG {Γ : Gh} {S : Sg} {σ : L2.St} {H : Hp} {d : D} {v : V} {E : Ends} {r : M Fl} (F : FrOk c Γ S σ H) (hd : Rep c Γ.G d v) (ht : ∀ d S x S', t d S ≠ .exc x S') (P : PostS c W Γ ((t d >>= fun _ => r) S) E) :
    rdG c W t v σ H fun σ2 H2 => rdS c W r E σ2 H2 := by
  refine ⟨Γ, S, d, F, hd, ?_⟩
  rw [bind_ap] at P
  cases q : t d S with
  | bad => rw [q] at P; exact P
  | exc x S' => exact (ht _ _ _ _ q).elim
  | ok a S' => rw [q] at P; exact fun Γ' σ' H' le F' => ⟨Γ', S', F', P.le le⟩
theorem bodyGs {u : List D → M Unit} {Γ : Gh} {S : Sg} {σ : L2.St} {H : Hp} {ds : List D} {vs : List V} {E : Ends} {r : M Fl} (F : FrOk c Γ S σ H) (hd : RepL c Γ.G ds vs) (ht : ∀ d S x S', u d S ≠ .exc x S') (P : PostS c W Γ ((u ds >>= fun _ => r) S) E) :
    rdGs c W u vs σ H fun σ2 H2 => rdS c W r E σ2 H2 := by
  refine ⟨Γ, S, ds, F, hd, ?_⟩
  rw [bind_ap] at P
  cases q : u ds S with
  | bad => rw [q] at P; exact P
  | exc x S' => exact (ht _ _ _ _ q).elim
  | ok a S' => rw [q] at P; exact fun Γ' σ' H' le F' => ⟨Γ', S', F', P.le le⟩
theorem ss_for {it : M (Itm D)} (hp : PassesOwn (model X.prog X.w) X.A X.env X.xe) (hc : X.calm = true) (hi : PI X tg iter (rdI c W it)) (hg : PG X tg (rdG c W t)) (ht : ∀ d S x S', t d S ≠ .exc x S') (hb : PSs X body (rdS c W h))
    (hs : ∀ x, foldedSetIterable iter X.env x = pure x := by intro _; rfl) : PS X (.For tg iter body [] pos) (rdS c W (sFor it t h)) := ss_of (ps_for hp hc hi hg hb hs) fun E σ H q => by
  obtain ⟨Γ, S, F, P⟩ := q
  refine ⟨Γ, S, F, (PostS.bindE P).imp fun I S1 Γ1 H1 e1 F1 ⟨_, P1⟩ J hJ => ?_⟩
  refine ⟨fun i m σ H => m = I.l.length - i ∧ i ≤ I.l.length ∧ ∃ Γ S, Γ1.le Γ ∧ FrOk c Γ S σ H ∧ PostS c W Γ (loopL I.ok (fun d => t d >>= fun _ => h) (I.l.drop i) S) E, ⟨_, rfl, Nat.zero_le _, Γ1, S1, Gh.le.refl, F1, P1⟩, ?_⟩
  rintro i m σ H ⟨rfl, hi, Γ2, S2, e2, F2, P2⟩
  have hok := loopL_ok P2.ne
  obtain ⟨k1, k2⟩ := hJ Γ2 S2 σ H i e2.sub F2 hok
  by_cases hl : i < I.l.length
  · refine .inr ?_
    have hget := List.getElem?_eq_getElem hl
    obtain ⟨g1, g2⟩ := k1 _ hget
    rw [List.drop_eq_getElem_cons hl] at P2
    refine ⟨g1, fun σ' H' => ∃ Γ S, Γ1.le Γ ∧ FrOk c Γ S σ' H' ∧ PostS c W Γ (loopL I.ok (fun d => t d >>= fun _ => h) (I.l.drop (i + 1)) S) E, fun σ' H' ⟨Γ3, S3, e3, F3, P3⟩ => ⟨_, by omega, rfl, hl, Γ3, S3, e3, F3, P3⟩, fun x H' y => ?_⟩
    obtain ⟨Γ3, e3, F3, r3⟩ := g2 x H' y
    refine bodyG F3 r3 ht ?_
    have P3 := PostS.le P2 e3
    have e13 := e2.trans e3
    cases q : (t I.l[i] >>= fun _ => h) S2 with
    | bad => rw [loopL_cons hok, q] at P3; exact P3
    | exc x S' => rw [loopL_exc (body := fun d => t d >>= fun _ => h) hok q] at P3; exact P3
    | ok a S' =>
      cases a with
      | nx => rw [loopL_nx (body := fun d => t d >>= fun _ => h) hok q] at P3; exact fun Γ' σ' H' le F' => ⟨Γ', S', e13.trans le, F', P3.le le⟩
      | ct => rw [loopL_ct (body := fun d => t d >>= fun _ => h) hok q] at P3; exact fun Γ' σ' H' le F' => ⟨Γ', S', e13.trans le, F', P3.le le⟩
      | bk => rw [loopL_bk (body := fun d => t d >>= fun _ => h) hok q] at P3; exact P3
      | rt x => rw [loopL_rt (body := fun d => t d >>= fun _ => h) hok q] at P3; exact P3
  · have e : I.l.length = i := by omega
    refine .inl ⟨k2 e, ?_⟩
    rw [List.drop_eq_nil_of_le (by omega), loopL_nil hok] at P2
    exact P2 Γ2 σ H Gh.le.refl F2
/-- .. over new pairs, to a tuple of names -/
theorem ss_forT {it : M (Itm (List D))} {u : List D → M Unit} {es : List Expr} {kk : Nat} {tpos : Pos} {n : Nat} (hp : PassesOwn (model X.prog X.w) X.A X.env X.xe) (hc : X.calm = true) (hK : X.K = c.K) (hi : PI X (.Tuple es kk tpos) iter (rdIT c W it)) (hg : PGs X es (rdGs c W u)) (ht : ∀ d S x S', u d S ≠ .exc x S') (hb : PSs X body (rdS c W h))
    (hu : ∀ ds S, ds.length ≠ n → u ds S = .bad) (hn : (assignEach es X.env).length = n := by rfl) (hst : (assignEach es X.env).findIdx? (·.1) = none := by rfl)
    (hs : ∀ x, foldedSetIterable iter X.env x = pure x := by intro _; rfl) : PS X (.For (.Tuple es kk tpos) iter body [] pos) (rdS c W (sFor it u h)) := ss_of (ps_for hp hc hi (pg_tup hc hg hn hst) hb hs) fun E σ H q => by
  obtain ⟨Γ, S, F, P⟩ := q
  refine ⟨Γ, S, F, (PostS.bindE P).imp fun I S1 Γ1 H1 e1 F1 ⟨_, P1⟩ J hJ => ?_⟩
  refine ⟨fun i m σ H => m = I.l.length - i ∧ i ≤ I.l.length ∧ ∃ Γ S, Γ1.le Γ ∧ FrOk c Γ S σ H ∧ PostS c W Γ (loopL I.ok (fun d => u d >>= fun _ => h) (I.l.drop i) S) E, ⟨_, rfl, Nat.zero_le _, Γ1, S1, Gh.le.refl, F1, P1⟩, ?_⟩
  rintro i m σ H ⟨rfl, hi, Γ2, S2, e2, F2, P2⟩
  have hok := loopL_ok P2.ne
  obtain ⟨k1, k2⟩ := hJ Γ2 S2 σ H i e2.sub F2 hok
  by_cases hl : i < I.l.length
  · refine .inr ?_
    have hget := List.getElem?_eq_getElem hl
    obtain ⟨g1, g2⟩ := k1 _ hget
    rw [List.drop_eq_getElem_cons hl] at P2
    refine ⟨g1, fun σ' H' => ∃ Γ S, Γ1.le Γ ∧ FrOk c Γ S σ' H' ∧ PostS c W Γ (loopL I.ok (fun d => u d >>= fun _ => h) (I.l.drop (i + 1)) S) E, fun σ' H' ⟨Γ3, S3, e3, F3, P3⟩ => ⟨_, by omega, rfl, hl, Γ3, S3, e3, F3, P3⟩, fun x H' y => ?_⟩
    obtain ⟨Γ3, T, vs, e3, F3, rfl, hT, r3⟩ := g2 x H' y
    have P3 := PostS.le P2 e3
    have e13 := e2.trans e3
    have hlen : vs.length = n := by
      rw [r3.length]
      refine Classical.byContradiction fun hne => ?_
      have qb := hu I.l[i] S2 hne
      rw [loopL_cons hok, bind_bad qb] at P3
      exact P3
    refine ⟨T, vs, rfl, .inl (.inl hT), hlen, bodyGs F3 r3 ht ?_⟩
    cases q : (u I.l[i] >>= fun _ => h) S2 with
    | bad => rw [loopL_cons hok, q] at P3; exact P3
    | exc x S' => rw [loopL_exc (body := fun d => u d >>= fun _ => h) hok q] at P3; exact P3
    | ok a S' =>
      cases a with
      | nx => rw [loopL_nx (body := fun d => u d >>= fun _ => h) hok q] at P3; exact fun Γ' σ' H' le F' => ⟨Γ', S', e13.trans le, F', P3.le le⟩
      | ct => rw [loopL_ct (body := fun d => u d >>= fun _ => h) hok q] at P3; exact fun Γ' σ' H' le F' => ⟨Γ', S', e13.trans le, F', P3.le le⟩
      | bk => rw [loopL_bk (body := fun d => u d >>= fun _ => h) hok q] at P3; exact P3
      | rt x => rw [loopL_rt (body := fun d => u d >>= fun _ => h) hok q] at P3; exact P3
  · have e : I.l.length = i := by omega
    refine .inl ⟨k2 e, ?_⟩
    rw [List.drop_eq_nil_of_le (by omega), loopL_nil hok] at P2
    exact P2 Γ2 σ H Gh.le.refl F2
end
end Dd

set_option Elab.async false
set_option linter.all false
set_option maxRecDepth 100000
namespace Dd
open PySem PySem.Spec PyProof.Rows L2

/-! ### a def runs as its meaning -/
def finishR (base : Nat) (st : Store) : R → FRes
  | .p d => .ok (.val d) (st.take base)
  | .r n => if base ≤ n then (match st[n]? with
    | some (.mu o) => .ok (.new o) (st.take base)
    | some (.fz l) => .ok (.val (.lst l)) (st.take base)
    | _ => .bad) else .bad
def finish (base : Nat) : Res Fl → FRes
  | .ok .nx S => .ok (.val .non) (S.st.take base)
  | .ok (.rt x) S => finishR base S.st x
  | .exc x S => .exc x (S.st.take base)
  | _ => .bad
def startS (n : Nat) (xs : List R) (st : Store) : Sg := { sl := xs.map some ++ List.replicate (n - xs.length) none, st := st }
def runF (n : Nat) (h : M Fl) : Fn := fun xs st => finish st.length (h (startS n xs st))
section
variable {c : Cg} {Γ Γ' : Gh} {st st' : Store} {H H' : Hp}
theorem ConOk.rho {a : Addr} {o : Con} {u : HO} {ρ : List Addr} (h : ConOk c Γ a o u) : ConOk c { Γ with ρ := ρ } a o u := by
  cases o with
  | lst l => exact h
  | dct k => exact h
  | dt k => exact h
  | obj k fs =>
    obtain ⟨dx, vs, k1, k2, k3⟩ := h
    exact ⟨dx, vs, k1, RepF.mono (Γ := Γ) (Γ' := { Γ with ρ := ρ }) Ext.refl (fun _ _ _ q => q) k2, k3⟩
theorem StOk.trunc (F : StOk c Γ' st' H') (e : Γ.le Γ') : StOk c { Γ' with ρ := Γ.ρ } (st'.take Γ.ρ.length) H' := by
  obtain ⟨t, ht⟩ := e.r
  have hlen : Γ.ρ.length ≤ st'.length := by rw [F.len, ht]; simp
  have ix : ∀ (n : Nat) (a : Addr), Γ.ρ[n]? = some a → Γ'.ρ[n]? = some a := fun n a h => e.at h
  have cl : ∀ (n : Nat) (x : Cell), (st'.take Γ.ρ.length)[n]? = some x → st'[n]? = some x := fun n x h => by
    rw [List.getElem?_take] at h
    split at h
    · exact h
    · cases h
  refine ⟨F.g, F.l, F.gl, by simp [hlen], fun n x a e1 e2 => ?_, fun n m a o u e1 e2 e3 e4 => F.inj n m a o u (cl _ _ e1) (cl _ _ e2) (ix _ _ e3) (ix _ _ e4),
    fun b a f ws q => let ⟨k1, k2, k3, k4⟩ := F.own b a f ws q; ⟨k1, k2, k3, fun n o e1 e2 => k4 n o (cl _ _ e1) (ix _ _ e2)⟩⟩
  have q := F.cell n x a (cl _ _ e1) (ix _ _ e2)
  cases x with
  | mu o =>
    obtain ⟨u, q1, q2, q3, q4⟩ := q
    exact ⟨u, q1, q2.rho, q3, q4⟩
  | fz l => exact q
  | dead => trivial
/-- one cell above is kept -/
theorem StOk.trunc1 {n : Nat} {a : Addr} {o : Con} (F : StOk c Γ' st' H') (e : Γ.le Γ') (hn : Γ.ρ.length ≤ n) (ho : st'[n]? = some (.mu o)) (ha : Γ'.ρ[n]? = some a) :
    StOk c { Γ' with ρ := Γ.ρ ++ [a] } (st'.take Γ.ρ.length ++ [.mu o]) H' := by
  have T := F.trunc e
  have hl : (st'.take Γ.ρ.length).length = Γ.ρ.length := T.len
  have low : ∀ (b : Addr) (k : Nat) (p : Con), (st'.take Γ.ρ.length ++ [Cell.mu o])[k]? = some (.mu p) → (Γ.ρ ++ [a])[k]? = some b → (k < Γ.ρ.length ∧ st'[k]? = some (.mu p) ∧ Γ'.ρ[k]? = some b) ∨ (k = Γ.ρ.length ∧ b = a) := fun b k p h1 h2 => by
      by_cases hk : k < Γ.ρ.length
      · refine .inl ⟨hk, ?_, ?_⟩
        · rw [List.getElem?_append_left (by omega), List.getElem?_take] at h1
          rw [if_pos hk] at h1; exact h1
        · rw [List.getElem?_append_left hk] at h2
          exact e.at h2
      · have hk' : k = Γ.ρ.length := by
          have := (List.getElem?_eq_some_iff.mp h2).1
          simp at this; omega
        subst hk'
        simp at h2
        exact .inr ⟨rfl, h2.symm⟩
  refine ⟨F.g, F.l, F.gl, by simp [hl], fun m x b e1 e2 => ?_, fun m k b o1 o2 e1 e2 e3 e4 => ?_, fun b a' f ws q => ?_⟩
  rotate_left 2
  · obtain ⟨k1, k2, k3, k4⟩ := F.own b a' f ws q
    refine ⟨k1, k2, k3, fun m p e1 e2 => ?_⟩
    rcases low b m p e1 e2 with ⟨_, a2, a3⟩ | ⟨_, a2⟩
    · exact k4 m p a2 a3
    · subst a2; exact k4 n o ho ha
  · by_cases hm : m < Γ.ρ.length
    · rw [List.getElem?_append_left (by omega)] at e1
      have e2' : (Γ.ρ ++ [a])[m]? = some b := e2
      rw [List.getElem?_append_left hm] at e2'
      have q := T.cell m x b e1 e2'
      cases x with
      | mu p => obtain ⟨u, q1, q2, q3, q4⟩ := q; exact ⟨u, q1, q2.rho, q3, q4⟩
      | fz l => exact q
      | dead => trivial
    · have hm' : m = Γ.ρ.length := by
        have := (List.getElem?_eq_some_iff.mp e1).1
        simp [hl] at this; omega
      subst hm'
      have e2' : (Γ.ρ ++ [a])[Γ.ρ.length]? = some b := e2
      have e1' : (st'.take Γ.ρ.length ++ [Cell.mu o])[(st'.take Γ.ρ.length).length]? = some x := by rw [hl]; exact e1
      simp at e1' e2'
      subst e1' e2'
      obtain ⟨u, q1, q2, q3, q4⟩ := F.cell n _ a ho ha
      exact ⟨u, q1, q2.rho, q3, q4⟩
  · rcases low b m o1 e1 e3 with ⟨a1, a2, a3⟩ | ⟨a1, a2⟩
    · rcases low b k o2 e2 e4 with ⟨b1, b2, b3⟩ | ⟨b1, b2⟩
      · exact F.inj m k b o1 o2 a2 b2 a3 b3
      · subst b2
        have := F.inj m n b o1 o a2 ho a3 ha
        omega
    · rcases low b k o2 e2 e4 with ⟨b1, b2, b3⟩ | ⟨b1, b2⟩
      · subst a2
        have := F.inj k n b o2 o b2 ho b3 ha
        omega
      · rw [a1, b1]
theorem le_trunc (e : Γ.le Γ') : Γ.le { Γ' with ρ := Γ.ρ } := ⟨e.g, e.l, [], by simp⟩
end
section
variable {P : Program} {w : World} {K : PySem.W.Frag} {mg : Str → Option Value} {base : Heap} {c : Cg}
theorem start_ok {N ps : List Str} {xs : List R} {vs : List V} {Γ : Gh} {st : Store} {H : Hp} (h : RepRL c Γ xs vs) (F : StOk c Γ st H) : FrOk c Γ (startS N.length xs st) (L2.start N vs) H := by
  refine ⟨F, by simp [startS, L2.start, h.length], fun i x hx => ?_⟩
  have hl := h.length
  unfold startS at hx
  simp only at hx
  by_cases hi : i < xs.length
  · rw [List.getElem?_append_left (by simpa using hi)] at hx
    rw [List.getElem?_map] at hx
    cases q : xs[i]? with
    | none => rw [q] at hx; cases hx
    | some y =>
      rw [q] at hx
      cases hx
      obtain ⟨v, h1, h2⟩ := h.get q
      refine ⟨v, ?_, h2⟩
      unfold L2.start
      rw [List.getElem?_append_left (by simp; omega), List.getElem?_map, h1]
      rfl
  · rw [List.getElem?_append_right (by simpa using hi)] at hx
    obtain ⟨_, q⟩ := List.getElem?_eq_some_iff.mp hx
    rw [List.getElem_replicate] at q
    cases q
theorem finish_ok {Γ : Gh} {S : Sg} {st : Store} {r : Res Fl} {Q : VK} {E : XK} (hl : st.length = Γ.ρ.length) (h : FPost c Γ (finish st.length r) Q E) :
    PostS c (fun cls d _ H => E cls d H) Γ r { nx := fun _ H' => Q .non H', rt := Q } := by
  cases r with
  | bad => exact h
  | exc x S' =>
    intro Γ' σ' H' cls dd e F q
    have T := F.s.trunc e
    rw [← hl] at T
    exact h { Γ' with ρ := Γ.ρ } H' cls dd (le_trunc e) T q
  | ok a S' =>
    cases a with
    | nx =>
      intro Γ' σ' H' e F
      have T := F.s.trunc e
      rw [← hl] at T
      exact h { Γ' with ρ := Γ.ρ } H' .non (le_trunc e) T ((Rep.non_iff (c := c) (G := Γ'.G)).mpr rfl)
    | bk => exact (show False from h).elim
    | ct => exact (show False from h).elim
    | rt x =>
      intro Γ' σ' H' v e F q
      have T := F.s.trunc e
      rw [← hl] at T
      have h : FPost c Γ (finishR st.length S'.st x) Q E := h
      cases x with
      | p d => exact h { Γ' with ρ := Γ.ρ } H' v (le_trunc e) T q
      | r n =>
        obtain ⟨a, q1, q2⟩ := q
        subst q2
        unfold finishR at h
        simp only at h
        by_cases hb : st.length ≤ n
        · rw [if_pos hb] at h
          cases q3 : S'.st[n]? with
          | none => rw [q3] at h; exact h.elim
          | some y =>
            rw [q3] at h
            cases y with
            | dead => exact h.elim
            | fz l =>
              obtain ⟨a', vs, k1, k2, k3⟩ := F.s.fro q3
              rw [q1] at k1; cases k1
              exact h { Γ' with ρ := Γ.ρ } H' _ (le_trunc e) T (Rep.lst_iff.mpr ⟨a, vs, rfl, k2, k3⟩)
            | mu o =>
              have T1 := F.s.trunc1 e (by omega) q3 q1
              rw [← hl] at T1
              exact h { Γ' with ρ := Γ.ρ } H' a (le_trunc e) T1
        · rw [if_neg hb] at h; exact h.elim
/-- THE RULE of a def -/
theorem fn_ok {x qual : Str} {st : Stmt} {f : Addr} {fd : FuncData} {N ps : List Str} {k : Nat} {h : M Fl} (F : Fun K x qual st f fd) (S : FnScope N ps (defScope st))
    (hbody : ∀ (cdv : Value) (A : Around) (outer : List Env) (s : Shared) (H : Hp) (E : XK), (A.deeper (envOfC qual (defScope st) s.heap.objs.size f cdv)).guards = some [] → Room k (A.deeper (envOfC qual (defScope st) s.heap.objs.size f cdv)) →
      Takes (cxOf (L2.CX P w) P w K mg base N qual (defScope st) f cdv A outer s H E) (fun cls d _ H => E cls d H) →
      PSs (cxOf (L2.CX P w) P w K mg base N qual (defScope st) f cdv A outer s H E) (defBody st) (rdS c (fun cls d _ H => E cls d H) h)) :
    FnG P w K mg base (k + 1) f fd ps (spF c ps.length (runF N.length h)) := by
  obtain ⟨oc, od, kV, doc, pm, an, cdv, ct, osl, rfl, lk, hcd⟩ := F.ex
  refine ⟨fun vs H Q E ⟨_, _, _, h, _⟩ => h, fun A outer s H args us vs Q E hG hr e0 hb r hsp => ?_⟩
  have keep : ∀ b o, base.get? b = some o → s.heap.get? b = some o := fun b o e => (e0.bs b o e).1
  have KX : K.In s.heap := e0.mod.kin.keeps keep
  obtain ⟨xs, Γ, st', hl, hx, F', hP⟩ := hsp
  have hall : ∀ y ∈ ps.zip us, (defScope st).names.lookup y.1 = some .local ∨ ((defScope st).names.lookup y.1 = some .cell ∧ ((cellsFrom (s.heap.objs.size + 1) (defScope st).names []).lookup y.1).isSome = true) := fun y hy =>
    (S.par y.1 (List.of_mem_zip (a := y.1) (b := y.2) hy).1).imp_right fun q => ⟨q, PySem.W.cellsFrom_some _ _ _ (.inl q)⟩
  have cr := PySem.W.codeRec_of KX hcd
  have lk' := KX _ _ lk
  refine codeAny_call_function hr.depth lk' rfl S.co S.gen rfl cr ?_
  refine hb _ _ _ _ ?_
  refine wpAny_newFunctionEnv_cells S.kind hall fun env he s1 z => ?_
  subst he
  refine ⟨(e0.mod.nolimit.keeps keep).keeps z.toInCall.keep, codeAny_func ?_⟩
  have B := hbody cdv A outer s H E hG (hr.deeper _) (takes_of rfl rfl rfl rfl)
  have I0 : Inv (cxOf (L2.CX P w) P w K mg base N qual (defScope st) f cdv A outer s H E) [] (L2.start N vs) H s1 := inv_start S hr.hd e0 hl r z
  have B2 := B.run [] s1 (L2.start N vs) H { nx := fun _ H' => Q .non H', rt := Q } I0 ⟨Γ, _, start_ok (ps := ps) hx F', finish_ok (S := startS N.length xs st') F'.len hP⟩
  refine wpAny_mono B2 (fun fl s' q => ?_) fun _ _ q => q
  have fin : ∀ {σ' : L2.St} {H' : Hp} {v : V} {u : Value}, L2.Inv (cxOf (L2.CX P w) P w K mg base N qual (defScope st) f cdv A outer s H E) [] σ' H' s' → RelV v u → Q v H' → CE outer P w H s Q u s' :=
    fun {σ' H' v u} J rv q => ⟨v, H', J.os, J.bare, J.base, J.hok, rv, q⟩
  cases fl with
  | ret u =>
    obtain ⟨v, σ', H', J, rv, q⟩ := q
    exact fin J rv q
  | next =>
    obtain ⟨σ', H', J, q⟩ := q
    exact fin (v := V.non) (u := Value.none) J rfl q
  | brk =>
    obtain ⟨_, _, _, q⟩ := q
    exact False.elim q
  | cont =>
    obtain ⟨_, _, _, q⟩ := q
    exact False.elim q
end

/-! ### what is walked: lists, tuples, enumerate, zip, ranges -/
theorem meets_enumerate_newT (l : Addr) (items : Array Value) (n : Nat) (dct : Option Addr) (sl : Array (Option Value)) :
    Meets (Builtin.«enumerate.__new__» ⟨[.type "enumerate", .ref l], []⟩) (fun _ R s => s.heap.get? l = some { cls := .type "tuple", dict := dct, data := .seq items n, slots := sl } ∧
      R (.ok (.ret (.ref (s.heap.push { cls := .type "tuple_iterator", data := .fields #[.ref l, .int 0 0] }).objs.size)))
        { s with heap := (s.heap.push { cls := .type "tuple_iterator", data := .fields #[.ref l, .int 0 0] }).push { cls := .type "enumerate", data := .fields #[.none, .bool false, .ref s.heap.objs.size, rawInt 0, .none, .none] } }) :=
  .of_wp fun prog w A R s h => by
    obtain ⟨hp, g, d, tk, os⟩ := s; obtain ⟨hl, h⟩ := h
    have hsub := sub_enumerate
    have hL : Heap.IsTuple (Shared.heap ⟨hp, g, d, tk, os⟩) l items := ⟨_, hl, rfl, n, rfl⟩
    wp_walk using AutoSeq1.wpAny_loadPart' hl
    refine wpAny_stack_any fun st => wpAny_pure ?_
    split
    · rename_i c _ _ _ _ _
      cases (c == Value.type "enumerate")
      · wp_walk using AutoSeq1.wpAny_loadPart' hl, wpAny_pyIter_tuple hL
        exact ⟨_, rfl, h⟩
      · wp_walk using AutoSeq1.wpAny_loadPart' hl, wpAny_pyIter_tuple hL
        exact ⟨_, rfl, h⟩
    · wp_walk using AutoSeq1.wpAny_loadPart' hl, wpAny_pyIter_tuple hL
      exact ⟨_, rfl, h⟩
theorem call_enumerate_tuple {prog : Program} {w : World} {A : Around} {E : Value → Shared → Prop} {s : Shared} {l : Addr} {items : Array Value} {Q : Value → Shared → Prop} (hL : s.heap.IsTuple l items)
    (h : ∀ h', IsEnum h' (s.heap.objs.size + 1) s.heap.objs.size 0 .none → h'.IsTupleIter s.heap.objs.size l 0 → h'.objs.size = s.heap.objs.size + 2 →
      (∀ b o, s.heap.get? b = some o → h'.get? b = some o) → Q (.ref (s.heap.objs.size + 1)) { s with heap := h' }) :
    wpAny (model prog w) A (call (.type "enumerate") [.ref l]) Q E s := by
  obtain ⟨⟨c, dct, dt, sl⟩, hl, hc, n, hd⟩ := hL
  replace hc : c = .type "tuple" := hc
  replace hd : dt = .seq items n := hd
  subst hc hd
  refine callType_new F.called_enumerate (by decide) (F.typeCall_enumerate_1 _) (F.newCall_enumerate_1 _) (fun obj => F.args_object_init_2 obj _) F.entry_enumerate_new
    (meets_enumerate_newT l items n dct sl) ⟨hl, ?_⟩
  have hz : (s.heap.push { cls := .type "tuple_iterator", data := .fields #[.ref l, .int 0 0] }).objs.size = s.heap.objs.size + 1 := Heap.size_push ..
  show _ ∧ _
  rw [hz]
  have he : IsEnum ((s.heap.push { cls := .type "tuple_iterator", data := .fields #[.ref l, .int 0 0] }).push
      { cls := .type "enumerate", data := .fields #[.none, .bool false, .ref s.heap.objs.size, rawInt 0, .none, .none] }) (s.heap.objs.size + 1) s.heap.objs.size 0 .none := by
    have := Heap.get?_push_size (s.heap.push { cls := .type "tuple_iterator", data := .fields #[.ref l, .int 0 0] })
      (o := { cls := .type "enumerate", data := .fields #[.none, .bool false, .ref s.heap.objs.size, rawInt 0, .none, .none] }) rfl
    rw [hz] at this; exact this
  refine ⟨⟨_, he, rfl⟩, h _ he ⟨_, Heap.get?_push_of_some _ (Heap.get?_push_size _ rfl), rfl, rfl⟩ (by rw [Heap.size_push, hz]) fun b o x => Heap.get?_push_of_some _ (Heap.get?_push_of_some _ x)⟩
/-- the tuple at a, each item in a new pair -/
def IteT (K : PySem.W.Frag) (a : Addr) : L2.It :=
  ⟨fun i H => ∃ (xs : List V) (x : V), SqT K H a xs ∧ xs[i]? = some x, fun i H v H' => ∃ T x, v = .ref T ∧ H T = none ∧ H' = upd H T (.tup [.int (i : Nat), x]) ∧ ∀ xs, SqT K H a xs → xs[i]? = some x, fun i H => ∃ xs : List V, SqT K H a xs ∧ xs.length = i⟩
theorem in1_handled {A : Around} (h : A.handled = none) : A.in1.handled = none := h
theorem turn_enumT {P : Program} {w : World} {K : PySem.W.Frag} {elts : List Expr} {kk : Nat} {tpos : Pos} (a e it : Addr) (hai : a ≠ it) (hae : a ≠ e) :
    Turn P w K (.Tuple elts kk tpos) (IteT K a) [e, it] e (fun i h => (∃ old, IsEnum h e it ((i : Nat) : Int) old) ∧ h.IsTupleIter it a i ∧ e ≠ it) where
  mem := by simp
  obj := fun i h st b hb => by
    obtain ⟨⟨old, he⟩, ⟨o, ho, hc, hd⟩, _⟩ := st
    have e' : b = e ∨ b = it := by simpa using hb
    rcases e' with z | z
    · rw [z]; exact ⟨_, he, fun v q => nomatch q⟩
    · rw [z]; exact ⟨o, ho, fun v q => by rw [hd] at q; cases q⟩
  keep := fun i h h' st k => let ⟨⟨old, he⟩, hi, hne⟩ := st; ⟨⟨old, k e (by simp) _ he⟩, hi.at fun o q => k it (by simp) o q, hne⟩
  item := by
    intro X hP hw hK hc i pins s σ H E I hf st hg
    subst hP hw hK
    obtain ⟨⟨old, he⟩, hit, hne⟩ := st
    obtain ⟨xs, x, hq, hx⟩ := hg
    obtain ⟨its, rv, p, hz⟩ := I.tuple hq
    obtain ⟨u, hu, ru⟩ := rv.get hx
    have hel : e < s.heap.objs.size := Heap.lt_size he
    have hil : it < s.heap.objs.size := by obtain ⟨_, q, _⟩ := hit; exact Heap.lt_size q
    have hlt : i < its.toArray.size := by simpa using (List.getElem?_eq_some_iff.mp hu).1
    refine wpAny_pyNext_enum_itemD (Draws.tuple (prog := X.prog) (w := X.w) (in1_handled (I.ok.hd hc)) it a hai its.toArray) he ⟨hit, p⟩ hlt hne (by simp; exact ⟨hne, Ne.symm hae⟩) fun y h' tk hP ho hit' hT hsz hk => ?_
    have hy : u = y := by
      have hP' : its.toArray[i]? = some y := hP
      have hu' : its.toArray[i]? = some u := by simpa using hu
      rw [hu'] at hP'; exact Option.some.inj hP'
    subst hy
    refine ⟨_, rfl, wpAny_letOwnedTupleGo_enum (s := { s with heap := h', toks := tk + 1 }) ho fun h'' he' sb => ?_⟩
    have hT2 : h''.get? s.heap.objs.size = some { cls := .type "tuple", data := .seq #[.int i tk, u] } := (sb.2 _ (Nat.ne_of_gt hel)).trans hT
    have new : ObjOk X.prog X.w (upd H s.heap.objs.size (.tup [.int (i : Nat), x])) h'' s.heap.objs.size (.tup [.int (i : Nat), x]) :=
      ⟨by show 2 ≤ sizeLine; decide, [.int i tk, u], .cons ⟨_, rfl⟩ (.cons ru .nil), ⟨_, hT2, rfl, _, rfl⟩⟩
    have I1 : Inv X pins σ (upd H s.heap.objs.size (.tup [.int (i : Nat), x])) { s with heap := h'', toks := tk + 1 } :=
      I.turnedNew (ch := [e, it]) (fun b ob hb q => (sb.2 b (fun z => hb (by simp [z]))).trans (hk b ob (fun z => hb (by simp [z])) (fun z => hb (by simp [z])) q)) hf (Nat.le_refl _) new
    refine ⟨.ref s.heap.objs.size, _, I1, rfl, ⟨_, x, rfl, I.hok.fresh (Nat.le_refl _), rfl, fun ys hy => by rw [I.tuple_inj hy hq]; exact hx⟩, ⟨⟨u, ?_⟩, hit'.1.at fun o q => (sb.2 it (Ne.symm hne)).trans q, hne⟩, fun b hb => ?_⟩
    · have e1 : ((i + 1 : Nat) : Int) = (i : Int) + 1 := by omega
      rw [e1]; exact he'
    · have hb' : b < s.heap.objs.size := by
        have e' : b = e ∨ b = it := by simpa using hb
        rcases e' with z | z
        · rw [z]; exact hel
        · rw [z]; exact hil
      rw [upd_ne (Nat.ne_of_lt hb')]
      exact (hf b hb).1
  done := by
    intro X hP hw hK hc i pins s σ H E I hf st hg
    subst hP hw hK
    obtain ⟨⟨old, he⟩, hit, hne⟩ := st
    obtain ⟨xs, hq, hx⟩ := hg
    obtain ⟨its, rv, p, hz⟩ := I.tuple hq
    obtain ⟨f0, f1, f2, f3, f4, f5⟩ := hf it (by simp)
    have hl : its.toArray.size = i := by simp; rw [← rv.length]; exact hx
    subst hl
    exact wpAny_pyNext_enum_endD (Draws.tuple (prog := X.prog) (w := X.w) (in1_handled (I.ok.hd hc)) it a hai its.toArray) he ⟨hit, p⟩ fun h' eb => ⟨rfl, I.turned (t' := s.toks) (fun b o hb q => eb b o hb q) f0 f1 f3 f4 f5⟩
  self := fun A i s Q E st h => let ⟨⟨_, he⟩, _⟩ := st; wpAny_pyIter_enum he h
end Dd

set_option Elab.async false
set_option linter.all false
set_option maxRecDepth 100000
namespace Dd
open PySem PySem.Spec PyProof.Rows L2

/-- arguments that are ints -/
def asI : R → Option Int
  | .p (.int j) => some j
  | _ => none
theorem asI_some {x : R} {j : Int} (h : asI x = some j) : x = .p (.int j) := by
  cases x with
  | r n => cases h
  | p d =>
    cases d with
    | int i => cases h; rfl
    | _ => cases h
def asI1 : List R → Option Int
  | [x] => asI x
  | _ => none
theorem asI1_some {xs : List R} {j : Int} (h : asI1 xs = some j) : xs = [.p (.int j)] := by
  cases xs with
  | nil => cases h
  | cons x xs =>
    cases xs with
    | nil => rw [asI_some h]
    | cons y ys => cases h
def asI2 : List R → Option (Int × Int)
  | [x, y] => match asI x with
    | some i => match asI y with
      | some j => some (i, j)
      | none => none
    | none => none
  | _ => none
theorem asI2_some {xs : List R} {i j : Int} (h : asI2 xs = some (i, j)) : xs = [.p (.int i), .p (.int j)] := by
  cases xs with
  | nil => cases h
  | cons x xs =>
    cases xs with
    | nil => cases h
    | cons y ys =>
      cases ys with
      | cons z zs => cases h
      | nil =>
        unfold asI2 at h
        simp only at h
        cases hx : asI x with
        | none => rw [hx] at h; cases h
        | some i' =>
          rw [hx] at h
          simp only at h
          cases hy : asI y with
          | none => rw [hy] at h; cases h
          | some j' => rw [hy] at h; cases h; rw [asI_some hx, asI_some hy]
/-- a list's or tuple's items -/
def itL (f : M R) : M (Itm D) := do
  let x ← f
  fun S => match getL x S with
    | some l => .ok ⟨fun S' => getL x S' = some l, l⟩ S
    | none => .bad
/-- the items with their numbers -/
def numbered : Nat → List D → List (List D)
  | _, [] => []
  | k, d :: ds => [.int k, d] :: numbered (k + 1) ds
theorem numbered_get : ∀ {l : List D} {k i : Nat} {ds : List D}, (numbered k l)[i]? = some ds → ∃ d, l[i]? = some d ∧ ds = [.int ((k + i : Nat) : Int), d]
  | [], k, i, ds, h => by simp [numbered] at h
  | d :: l, k, i, ds, h => by
    cases i with
    | zero => simp [numbered] at h; exact ⟨d, rfl, h.symm⟩
    | succ i =>
      have h' : (numbered (k + 1) l)[i]? = some ds := by simpa [numbered] using h
      obtain ⟨d', h1, h2⟩ := numbered_get h'
      exact ⟨d', by simpa using h1, by rw [h2]; congr 3; omega⟩
theorem numbered_length : ∀ {l : List D} {k : Nat}, (numbered k l).length = l.length
  | [], _ => rfl
  | _ :: l, k => by simp [numbered, numbered_length (l := l)]
def itE (f : M R) : M (Itm (List D)) := do
  let x ← f
  fun S => match getL x S with
    | some l => .ok ⟨fun S' => getL x S' = some l, numbered 0 l⟩ S
    | none => .bad
def intsFrom (lo : Int) : Nat → List D
  | 0 => []
  | n + 1 => .int lo :: intsFrom (lo + 1) n
theorem intsFrom_length : ∀ {lo : Int} {n : Nat}, (intsFrom lo n).length = n
  | _, 0 => rfl
  | lo, n + 1 => by simp [intsFrom, intsFrom_length]
theorem intsFrom_get : ∀ {lo : Int} {n i : Nat} {d : D}, (intsFrom lo n)[i]? = some d → d = .int (lo + (i : Nat)) ∧ i < n
  | lo, 0, i, d, h => by simp [intsFrom] at h
  | lo, n + 1, i, d, h => by
    cases i with
    | zero => simp [intsFrom] at h; exact ⟨by rw [← h]; simp, by omega⟩
    | succ i =>
      obtain ⟨h1, h2⟩ := intsFrom_get (lo := lo + 1) (n := n) (i := i) (by simpa [intsFrom] using h)
      exact ⟨by rw [h1]; congr 1; omega, by omega⟩
def downFrom (i c : Int) : Nat → List D
  | 0 => []
  | n + 1 => .int i :: downFrom (i + c) c n
section
variable {X : Cx} {c : Cg} {W : WX} {tg e e2 : Expr} {f f2 : M R} {g : M (List R)} {pos p : Pos} {elts : List Expr} {kk : Nat} {tpos : Pos} {es : List Expr}
theorem si_of {t : TI} {it : M (Itm D)} (h : PI X tg e t) (hi : ∀ σ H R, rdI c W it σ H R → t σ H R) : PI X tg e (rdI c W it) := ⟨fun pins s σ H R I q => h.run pins s σ H R I (hi σ H R q)⟩
theorem siT_of {t : TI} {it : M (Itm (List D))} (h : PI X tg e t) (hi : ∀ σ H R, rdIT c W it σ H R → t σ H R) : PI X tg e (rdIT c W it) := ⟨fun pins s σ H R I q => h.run pins s σ H R I (hi σ H R q)⟩
/-- lists and tuples alike -/
def iSeq (K : PySem.W.Frag) (tl : TE) : TI := fun σ H R => tl σ H fun x H1 => ∃ a, x = .ref a ∧ (((∃ xs, SqL K H1 a xs) ∧ R (Itl K a) H1) ∨ ((∃ xs, SqT K H1 a xs) ∧ R (Itt K a) H1))
theorem pi_seq {tl : TE} (hl : PE X e tl) : PI X tg e (iSeq X.K tl) := by
  refine ⟨fun pins s σ H R I h => ?_⟩
  refine thn (hl.run pins s σ H _ I h) fun v s1 ⟨x, H1, I1, r1, a, e1, q⟩ => ?_
  subst e1
  cases r1
  have fin : ∀ (b : Addr), b ∈ [s1.heap.objs.size] → FpOk X pins H1 b := fun b hb => by
    have e : b = s1.heap.objs.size := by simpa using hb
    subst e
    exact I1.fpOk (Nat.le_refl _) (I1.hok.fresh (Nat.le_refl _))
  rcases q with ⟨⟨xs, hq⟩, q⟩ | ⟨⟨xs, hq⟩, q⟩
  · obtain ⟨its, rv, p, hz⟩ := I1.list hq
    refine wpAny_pyIter_list p.isList ?_
    exact ⟨s1.heap.objs.size, [s1.heap.objs.size], _, _, H1, rfl, I1.kept (t' := s1.toks) fun b o e => Heap.get?_push_of_some _ e, turn_list a _, ⟨_, Heap.get?_push_size _ rfl, rfl, rfl⟩, fin, q⟩
  · obtain ⟨its, rv, p, hz⟩ := I1.tuple hq
    refine wpAny_pyIter_tuple (show s1.heap.IsTuple a its.toArray from p) ?_
    exact ⟨s1.heap.objs.size, [s1.heap.objs.size], _, _, H1, rfl, I1.kept (t' := s1.toks) fun b o e => Heap.get?_push_of_some _ e, turn_tuple a _, ⟨_, Heap.get?_push_size _ rfl, rfl, rfl⟩, fin, q⟩
theorem itL_list {Γ0 : Gh} {x : R} {a : Addr} {l : List D} (hv : RepR c Γ0 x (.ref a)) (hx : ∀ S, getLst x S = getL x S) : ItOk c Γ0 ⟨fun S' => getL x S' = some l, l⟩ (Itl c.K a) := by
  intro Γ S σ H i e F hok
  have hok : getL x S = some l := hok
  obtain ⟨a', vs, e1, h1, h2⟩ := getLst_ok F (hv.sub e) ((hx S).trans hok)
  cases e1
  refine ⟨fun d hd => ?_, fun hl => ⟨vs, h1, by rw [h2.length]; exact Nat.le_of_eq hl⟩⟩
  obtain ⟨v, q1, q2⟩ := h2.get hd
  refine ⟨⟨vs, v, h1, q1⟩, fun y H' hy => ?_⟩
  obtain ⟨rfl, hy⟩ := hy
  have := hy vs h1
  rw [q1] at this; cases this
  exact ⟨Γ, Gh.le.refl, F, q2⟩
theorem itL_tup {Γ0 : Gh} {a : Addr} {l : List D} (hv : RepR c Γ0 (.p (.tup l)) (.ref a)) : ItOk c Γ0 ⟨fun S' => getL (.p (.tup l)) S' = some l, l⟩ (Itt c.K a) := by
  intro Γ S σ H i e F hok
  obtain ⟨a', vs, e1, h1, h2⟩ := Rep.tup_iff.mp (RepR.pure.mp (hv.sub e))
  cases e1
  have h1 := (TupS.mono F.s.g h1).sq
  refine ⟨fun d hd => ?_, fun hl => ⟨vs, h1, by rw [h2.length]; exact Nat.le_of_eq hl⟩⟩
  obtain ⟨v, q1, q2⟩ := h2.get hd
  refine ⟨⟨vs, v, h1, q1⟩, fun y H' hy => ?_⟩
  obtain ⟨rfl, hy⟩ := hy
  have := hy vs h1
  rw [q1] at this; cases this
  exact ⟨Γ, Gh.le.refl, F, q2⟩
theorem getL_kind {x : R} {S : Sg} {l : List D} (h : getL x S = some l) : (∀ S, getLst x S = getL x S) ∨ x = .p (.tup l) := by
  cases x with
  | r n => exact .inl fun _ => rfl
  | p d =>
    cases d with
    | tup l' => cases h; exact .inr rfl
    | lst l' => exact .inl fun _ => rfl
    | scp l' => exact .inl fun _ => rfl
    | _ => cases h
theorem si_seq (hK : X.K = c.K) (h : PE X e (rdE c W f)) : PI X tg e (rdI c W (itL f)) := si_of (pi_seq h) fun σ H R q => by
  obtain ⟨Γ, S, F, P⟩ := q
  refine ⟨Γ, S, F, (Post.bind P).imp fun x S1 Γ1 H1 e1 F1 ⟨_, P1⟩ v hv => ?_⟩
  cases q : getL x S1 with
  | none => rw [q] at P1; exact P1.elim
  | some l =>
    rw [q] at P1
    have P2 := fun J hJ => Post.ok (c := c) (W := W) P1 Gh.le.refl F1 J hJ
    obtain ⟨a, vs, rfl, h1, h2⟩ := getL_ok F1 hv q
    refine ⟨a, rfl, ?_⟩
    rw [hK]
    rcases getL_kind q with hx | rfl
    · obtain ⟨a', vs', e1, h1, h2⟩ := getLst_ok F1 hv ((hx S1).trans q)
      cases e1
      exact .inl ⟨⟨vs', h1⟩, P2 _ (itL_list hv hx)⟩
    · obtain ⟨a', vs', e1, h1, h2⟩ := Rep.tup_iff.mp (RepR.pure.mp hv)
      cases e1
      exact .inr ⟨⟨vs', (TupS.mono F1.s.g h1).sq⟩, P2 _ (itL_tup hv)⟩

/-! ### enumerate -/
def iEnumA (K : PySem.W.Frag) (ta : TA) : TI := fun σ H R => ta σ H fun vs H1 => ∃ a, vs = [.ref a] ∧ (((∃ xs, SqL K H1 a xs) ∧ R (Ite K a) H1) ∨ ((∃ xs, SqT K H1 a xs) ∧ R (IteT K a) H1))
theorem pi_enumA {ta : TA} (hg : Gl X "enumerate") (hm : X.mg "enumerate" = none) (ha : PA X [e] ta) (hs : starEach [e] X.env = (false, eval e X.env) :: starEach [] X.env := by rfl) :
    PI X (.Tuple elts kk tpos) (.Call (.Name "enumerate" p) [e] [] pos) (iEnumA X.K ta) := by
  refine ⟨fun pins s σ H R I h => ?_⟩
  refine Call_ (ld_blt I hg hm boot_enumerate (PyProof.Rows.callWith_type1 (thn (ha.run pos pins s σ H _ I h) fun us s1 ⟨vs, H1, I1, r1, q1⟩ => ?_) hs rfl))
  obtain ⟨a, ex, q⟩ := q1
  subst ex
  cases r1 with
  | cons r rr =>
    cases rr
    cases r
    have fin : ∀ b, b ∈ [s1.heap.objs.size + 1, s1.heap.objs.size] → FpOk X pins H1 b := fun b hb => by
      have e' : b = s1.heap.objs.size + 1 ∨ b = s1.heap.objs.size := by simpa using hb
      have hle : s1.heap.objs.size ≤ b := by
        rcases e' with z | z
        · rw [z]; exact Nat.le_add_right _ _
        · rw [z]; exact Nat.le_refl _
      exact I1.fpOk hle (I1.hok.fresh hle)
    rcases q with ⟨⟨xs, hq⟩, q⟩ | ⟨⟨xs, hq⟩, q⟩
    · obtain ⟨its, rv, p', hz⟩ := I1.list hq
      refine call_enumerate_list p'.isList fun h' he hit hsz hk => wpAny_pyIter_enum he ?_
      have I2 : L2.Inv X pins σ H1 { s1 with heap := h' } := I1.kept (t' := s1.toks) hk
      exact ⟨s1.heap.objs.size + 1, [s1.heap.objs.size + 1, s1.heap.objs.size], _, _, H1, rfl, I2, turn_enum a (s1.heap.objs.size + 1) s1.heap.objs.size, ⟨⟨.none, he⟩, hit, Nat.succ_ne_self _⟩, fin, q⟩
    · obtain ⟨its, rv, p', hz⟩ := I1.tuple hq
      refine call_enumerate_tuple (show s1.heap.IsTuple a its.toArray from p') fun h' he hit hsz hk => wpAny_pyIter_enum he ?_
      have I2 : L2.Inv X pins σ H1 { s1 with heap := h' } := I1.kept (t' := s1.toks) hk
      have hlt : a < s1.heap.objs.size := by obtain ⟨o, e, _⟩ := p'; exact Heap.lt_size e
      exact ⟨s1.heap.objs.size + 1, [s1.heap.objs.size + 1, s1.heap.objs.size], _, _, H1, rfl, I2, turn_enumT a (s1.heap.objs.size + 1) s1.heap.objs.size (Nat.ne_of_lt hlt) (Nat.ne_of_lt (Nat.lt_succ_of_lt hlt)), ⟨⟨.none, he⟩, hit, Nat.succ_ne_self _⟩, fin, q⟩
theorem newW_ok {Γ : Gh} {S : Sg} {σ : L2.St} {H : Hp} {vs : List V} {p : Addr} (F : FrOk c Γ S σ H) (hp : H p = none) :
    ∃ Γ', Γ.le Γ' ∧ FrOk c Γ' S σ (upd H p (.tup vs)) := by
  have hG : Γ.G p = none := Ext.none F.s.g hp
  have ex : Ext Γ.G (upd Γ.G p (.tup vs)) := Ext.upd hG
  have le : Γ.le { Γ with G := upd Γ.G p (.tup vs) } := ⟨ex, rfl, [], by simp⟩
  exact ⟨_, le, F.of le (F.s.newG hp)⟩
theorem itE_list {Γ0 : Gh} {x : R} {a : Addr} {l : List D} (hv : RepR c Γ0 x (.ref a)) (hx : ∀ S, getLst x S = getL x S) : ItOkT c Γ0 ⟨fun S' => getL x S' = some l, numbered 0 l⟩ (Ite c.K a) := by
  intro Γ S σ H i e F hok
  have hok : getL x S = some l := hok
  obtain ⟨a', vs, e1, h1, h2⟩ := getLst_ok F (hv.sub e) ((hx S).trans hok)
  cases e1
  refine ⟨fun ds hd => ?_, fun hl => ⟨vs, h1, by rw [h2.length]; rw [numbered_length] at hl; exact Nat.le_of_eq hl⟩⟩
  obtain ⟨d, hd2, rfl⟩ := numbered_get hd
  obtain ⟨v, q1, q2⟩ := h2.get hd2
  refine ⟨⟨vs, v, h1, q1⟩, fun y H' hy => ?_⟩
  obtain ⟨T, x', rfl, hT, rfl, hy⟩ := hy
  have := hy vs h1
  rw [q1] at this; cases this
  obtain ⟨Γ', le, F'⟩ := newW_ok (vs := [.int (i : Nat), v]) F hT
  exact ⟨Γ', T, _, le, F', rfl, upd_same, RepL.cons (Rep.int_iff.mpr (by simp)) (RepL.one (q2.mono le.g))⟩
theorem itE_tup {Γ0 : Gh} {a : Addr} {l : List D} (hv : RepR c Γ0 (.p (.tup l)) (.ref a)) : ItOkT c Γ0 ⟨fun S' => getL (.p (.tup l)) S' = some l, numbered 0 l⟩ (IteT c.K a) := by
  intro Γ S σ H i e F hok
  obtain ⟨a', vs, e1, h1, h2⟩ := Rep.tup_iff.mp (RepR.pure.mp (hv.sub e))
  cases e1
  have h1 := (TupS.mono F.s.g h1).sq
  refine ⟨fun ds hd => ?_, fun hl => ⟨vs, h1, by rw [h2.length]; rw [numbered_length] at hl; exact hl⟩⟩
  obtain ⟨d, hd2, rfl⟩ := numbered_get hd
  obtain ⟨v, q1, q2⟩ := h2.get hd2
  refine ⟨⟨vs, v, h1, q1⟩, fun y H' hy => ?_⟩
  obtain ⟨T, x', rfl, hT, rfl, hy⟩ := hy
  have := hy vs h1
  rw [q1] at this; cases this
  obtain ⟨Γ', le, F'⟩ := newW_ok (vs := [.int (i : Nat), v]) F hT
  exact ⟨Γ', T, _, le, F', rfl, upd_same, RepL.cons (Rep.int_iff.mpr (by simp)) (RepL.one (q2.mono le.g))⟩
theorem si_enum (hK : X.K = c.K) (hg : Gl X "enumerate") (hm : X.mg "enumerate" = none) (h : PE X e (rdE c W f)) (hs : starEach [e] X.env = (false, eval e X.env) :: starEach [] X.env := by rfl) : PI X (.Tuple elts kk tpos) (.Call (.Name "enumerate" p) [e] [] pos) (rdIT c W (itE f)) :=
  siT_of (pi_enumA hg hm (sa_cons h sa_nil hs) hs) fun σ H R q => by
    obtain ⟨Γ, S, F, P⟩ := q
    refine ⟨Γ, S, F, ?_⟩
    rw [show aC f aN S = (match f S with | .ok x S1 => .ok [x] S1 | .exc x S1 => .exc x S1 | .bad => .bad) from by
      show (f >>= fun x => aN >>= fun xs => pure (x :: xs)) S = _
      rw [bind_ap]; cases f S <;> rfl]
    have P := Post.bind P
    cases qf : f S with
    | bad => rw [qf] at P; exact P
    | exc x S' => rw [qf] at P; exact P
    | ok x S1 =>
      rw [qf] at P
      intro Γ1 H1 e1 F1 vs hvs
      obtain ⟨_, P1⟩ := P Γ1 H1 e1 F1
      obtain ⟨v, r, rfl, hv, hr⟩ := hvs
      have hr : r = [] := hr
      subst hr
      cases q : getL x S1 with
      | none => rw [q] at P1; exact P1.elim
      | some l =>
        rw [q] at P1
        have P2 := fun J hJ => Post.ok (c := c) (W := W) P1 Gh.le.refl F1 J hJ
        obtain ⟨a, vs, rfl, h1, h2⟩ := getL_ok F1 hv q
        refine ⟨a, rfl, ?_⟩
        rw [hK]
        rcases getL_kind q with hx | rfl
        · obtain ⟨a', vs', e1, h1, h2⟩ := getLst_ok F1 hv ((hx S1).trans q)
          cases e1
          exact .inl ⟨⟨vs', h1⟩, P2 _ (itE_list hv hx)⟩
        · obtain ⟨a', vs', e1, h1, h2⟩ := Rep.tup_iff.mp (RepR.pure.mp hv)
          cases e1
          exact .inr ⟨⟨vs', (TupS.mono F1.s.g h1).sq⟩, P2 _ (itE_tup hv)⟩

/-! ### ranges -/
theorem itR_ok {Γ0 : Gh} {lo : Int} {n : Nat} : ItOk c Γ0 ⟨fun _ => True, intsFrom lo n⟩ (Itr lo n) := by
  intro Γ S σ H i e F _
  refine ⟨fun d hd => ?_, fun hl => ?_⟩
  · obtain ⟨rfl, hi⟩ := intsFrom_get hd
    refine ⟨hi, fun y H' hy => ?_⟩
    obtain ⟨rfl, rfl⟩ := hy
    exact ⟨Γ, Gh.le.refl, F, Rep.int_iff.mpr rfl⟩
  · rw [intsFrom_length] at hl
    exact Nat.le_of_eq hl
theorem ints1 {Γ : Gh} {xs : List R} {vs : List V} {j : Int} (h : RepRL c Γ xs vs) (e : asI1 xs = some j) : vs = [.int j] := by
  rw [asI1_some e] at h
  obtain ⟨v, r, rfl, h1, h2⟩ := h
  rw [RepR.int h1, show r = [] from h2]
theorem ints2 {Γ : Gh} {xs : List R} {vs : List V} {i j : Int} (h : RepRL c Γ xs vs) (e : asI2 xs = some (i, j)) : vs = [.int i, .int j] := by
  rw [asI2_some e] at h
  obtain ⟨v, r, rfl, h1, u, r', rfl, h2, h3⟩ := h
  rw [RepR.int h1, RepR.int h2, show r' = [] from h3]
def itR1 (g : M (List R)) : M (Itm D) := do
  let xs ← g
  fun S => match asI1 xs with
    | some j => if -(2 ^ 62) ≤ j ∧ j < 2 ^ 62 then .ok ⟨fun _ => True, intsFrom 0 j.toNat⟩ S else .bad
    | none => .bad
theorem si_range1 {a : Expr} (hg : Gl X "range") (hm : X.mg "range" = none) (ha : PA X [a] (rdA c W g)) (hs : starEach [a] X.env = [(false, eval a X.env)] := by rfl) : PI X tg (.Call (.Name "range" p) [a] [] pos) (rdI c W (itR1 g)) :=
  si_of (pi_range1 hg hm ha hs) fun σ H R q => by
    obtain ⟨Γ, S, F, P⟩ := q
    refine ⟨Γ, S, F, (Post.bind P).imp fun xs S1 Γ1 H1 e1 F1 ⟨_, P1⟩ vs hvs => ?_⟩
    cases q : asI1 xs with
    | none => rw [q] at P1; exact P1.elim
    | some j =>
      rw [q] at P1
      have P1 : Post c W σ Γ1 (if -(2 ^ 62) ≤ j ∧ j < 2 ^ 62 then Res.ok (⟨fun _ => True, intsFrom 0 j.toNat⟩ : Itm D) S1 else .bad) _ := P1
      by_cases h : -(2 ^ 62) ≤ j ∧ j < 2 ^ 62
      · rw [if_pos h] at P1
        exact ⟨j, ints1 hvs q, h.1, h.2, Post.ok (c := c) (W := W) P1 Gh.le.refl F1 _ itR_ok⟩
      · rw [if_neg h] at P1; exact P1.elim
end

end Dd

set_option Elab.async false
set_option linter.all false
set_option maxRecDepth 100000
namespace Dd
open PySem PySem.Spec PyProof.Rows L2

/-! ### comprehensions -/
def setS (S : Sg) : List Nat → List D → Sg
  | k :: ks, d :: ds => setS { S with sl := S.sl.set k (some (.p d)) } ks ds
  | _, _ => S
def setV (σ : L2.St) : List Nat → List V → L2.St
  | k :: ks, v :: vs => setV (σ.set k (some v)) ks vs
  | _, _ => σ
/-- the slots of a block's own names, forgotten -/
def wipeL (sl : List (Option R)) : List Nat → List (Option R)
  | [] => sl
  | v :: vs => (wipeL sl vs).set v none
def wipeS (S : Sg) (vs : List Nat) : Sg := { S with sl := wipeL S.sl vs }
/-- one turn: the target, the test, the element; the own names forgotten -/
def lcB {α : Type} (own ks : List Nat) (unp : α → Option (List D)) (tt : M Bool) (f : M R) : α → M (Option D) := fun x S => match unp x with
  | some ds => if ds.length = ks.length then (do
      let b ← tt
      if b = true then do
        let x ← f
        let y ← pure1 x
        fun S => .ok (some y) (wipeS S own)
      else fun S => .ok none (wipeS S own)) (setS S ks ds) else .bad
  | none => .bad
open Classical in
noncomputable def lcL {α : Type} (ok : Sg → Prop) (body : α → M (Option D)) : List α → List D → M (List D)
  | [], acc => fun S => if ok S then .ok acc S else .bad
  | d :: ds, acc => fun S => if ok S then (match body d S with
    | .ok none S' => lcL ok body ds acc S'
    | .ok (some y) S' => if acc.length < sizeLine then lcL ok body ds (acc ++ [y]) S' else .bad
    | _ => .bad) else .bad
def lcFin (S1 : Sg) : Res (List D) → Res R
  | .ok acc S' => allocL acc { S1 with st := S'.st }
  | _ => .bad
/-- [f for ks in it if tt]; own: the block's own names' slots -/
noncomputable def lcE {α : Type} (own ks : List Nat) (unp : α → Option (List D)) (it : M (Itm α)) (tt : M Bool) (f : M R) : M R := do
  let I ← it
  fun S => lcFin S (lcL I.ok (lcB own ks unp tt f) I.l [] (wipeS S own))
def tYesM : M Bool := pure true
def unp1 : D → Option (List D) := fun d => some [d]
def unpT : D → Option (List D) := fun d => match d with
  | .tup l => some l
  | _ => none
def unpW : List D → Option (List D) := some
section
variable {α : Type} {ok : Sg → Prop} {body : α → M (Option D)} {d : α} {ds : List α} {acc : List D} {S S' : Sg} {y : D}
theorem lcL_nil (h : ok S) : lcL ok body [] acc S = .ok acc S := by unfold lcL; rw [if_pos h]
theorem lcL_ok {l : List α} {r : List D} (h : lcL ok body l acc S = .ok r S') : ok S := by
  apply Classical.byContradiction
  intro hn
  cases l with
  | nil => unfold lcL at h; rw [if_neg hn] at h; cases h
  | cons d ds => unfold lcL at h; rw [if_neg hn] at h; cases h
theorem lcL_inv {r : List D} {SF : Sg} (h : lcL ok body (d :: ds) acc S = .ok r SF) : (∃ S', body d S = .ok none S' ∧ lcL ok body ds acc S' = .ok r SF) ∨ ∃ y S', body d S = .ok (some y) S' ∧ acc.length < sizeLine ∧ lcL ok body ds (acc ++ [y]) S' = .ok r SF := by
  have hok := lcL_ok h
  unfold lcL at h
  rw [if_pos hok] at h
  cases q : body d S with
  | bad => rw [q] at h; cases h
  | exc x S' => rw [q] at h; cases h
  | ok a S' =>
    rw [q] at h
    cases a with
    | none => exact .inl ⟨S', rfl, h⟩
    | some y =>
      simp only at h
      by_cases hl : acc.length < sizeLine
      · rw [if_pos hl] at h; exact .inr ⟨y, S', rfl, hl, h⟩
      · rw [if_neg hl] at h; cases h
end
section
variable {c : Cg} {W : WX} {Γ : Gh} {S : Sg} {σ : L2.St} {H : Hp}
theorem FrOk.wipe (F : FrOk c Γ S σ H) : ∀ (vs : List Nat), FrOk c Γ (wipeS S vs) (L2.wipe σ vs) H
  | [] => F
  | v :: vs => by
    have G := FrOk.wipe F vs
    refine ⟨G.s, by show ((wipeL S.sl vs).set v none).length = ((L2.wipe σ vs).set v none).length; rw [List.length_set, List.length_set]; exact G.len, fun i x h => ?_⟩
    have h : ((wipeL S.sl vs).set v none)[i]? = some (some x) := h
    show ∃ w, ((L2.wipe σ vs).set v none)[i]? = some (some w) ∧ _
    by_cases e : v = i
    · subst e
      have hlt := (List.getElem?_eq_some_iff.mp h).1
      simp at hlt
      rw [List.getElem?_set_self hlt] at h
      cases h
    · rw [List.getElem?_set_ne e] at h ⊢
      exact G.sl i x h
theorem FrOk.putL : ∀ {ks : List Nat} {ds : List D} {vs : List V} {S : Sg} {σ : L2.St}, FrOk c Γ S σ H → RepL c Γ.G ds vs → FrOk c Γ (setS S ks ds) (setV σ ks vs) H
  | [], _, _, _, _, F, _ => by unfold setS setV; exact F
  | k :: ks, [], vs, _, _, F, h => by rw [RepL.nil_iff.mp h]; unfold setS setV; exact F
  | k :: ks, d :: ds, vs, S, σ, F, h => by
    obtain ⟨v, r, rfl, h1, h2⟩ := RepL.cons_iff.mp h
    unfold setS setV
    exact FrOk.putL (F.put k (x := .p d) h1) h2
theorem set_wipe_comm {σ : L2.St} {i : Nat} {x : Option V} : ∀ {ws : List Nat}, i ∈ ws → wipe (σ.set i x) ws = wipe σ ws
  | w :: ws, h => by
    unfold wipe
    by_cases e : w = i
    · subst e
      by_cases hm : w ∈ ws
      · rw [set_wipe_comm hm]
      · have : wipe (σ.set w x) ws = (wipe σ ws).set w x := by
          clear h
          induction ws with
          | nil => rfl
          | cons y ys ih =>
            simp only [List.mem_cons, not_or] at hm
            unfold wipe
            rw [ih hm.2, List.set_comm _ _ hm.1]
        rw [this, List.set_set]
    · rw [set_wipe_comm ((List.mem_cons.mp h).resolve_left fun q => e q.symm)]
theorem setV_wipe : ∀ {ks : List Nat} {vs : List V} {σ : L2.St} {ws : List Nat}, (∀ k ∈ ks, k ∈ ws) → wipe (setV σ ks vs) ws = wipe σ ws
  | [], _, _, _, _ => by unfold setV; rfl
  | k :: ks, [], _, _, _ => by unfold setV; rfl
  | k :: ks, v :: vs, σ, ws, h => by
    unfold setV
    rw [setV_wipe (fun k' hk => h k' (List.mem_cons_of_mem _ hk)), set_wipe_comm (h k List.mem_cons_self)]
theorem wipe_wipe {σ : L2.St} {ws : List Nat} : wipe (wipe σ ws) ws = wipe σ ws := by
  apply List.ext_getElem?
  intro i
  have key : ∀ (ws : List Nat) (τ : L2.St), (wipe τ ws)[i]? = if i ∈ ws then (τ[i]?).map (fun _ => none) else τ[i]? := by
    intro ws
    induction ws with
    | nil => intro τ; simp [wipe]
    | cons w ws ih =>
      intro τ
      unfold wipe
      by_cases e : w = i
      · subst e
        simp only [List.mem_cons_self, if_true]
        by_cases hl : w < (wipe τ ws).length
        · rw [List.getElem?_set_self hl]
          rw [wipe_length] at hl
          rw [List.getElem?_eq_getElem hl]; rfl
        · rw [List.getElem?_eq_none (by simpa using hl)]
          rw [wipe_length] at hl
          rw [List.getElem?_eq_none (by omega)]; rfl
      · rw [List.getElem?_set_ne e, ih]
        have : (i ∈ w :: ws) ↔ i ∈ ws := by simp [Ne.symm e]
        simp only [this]
  rw [key, key]
  split
  · cases σ[i]? <;> rfl
  · rfl
/-- a tracked object that nothing else speaks of becomes a cell -/
theorem StOk.adopt {st : Store} {p : Addr} {o : Con} {u : HO} (F : StOk c Γ st H) (hp : H p = some u) (hG : Γ.G p = none) (hL : Γ.L p = none) (hn : ∀ (n : Nat) (q : Con), st[n]? = some (.mu q) → Γ.ρ[n]? ≠ some p) (hO : Γ.O p = none) (ho : ConOk c Γ p o u) :
    StOk c { Γ with ρ := Γ.ρ ++ [p] } (st ++ [.mu o]) H := by
  have le : Γ.le { Γ with ρ := Γ.ρ ++ [p] } := le_app
  have lo : ∀ (n : Nat) (x : Cell) (a : Addr), (st ++ [Cell.mu o])[n]? = some x → (Γ.ρ ++ [p])[n]? = some a → (n < st.length ∧ st[n]? = some x ∧ Γ.ρ[n]? = some a) ∨ (n = st.length ∧ x = .mu o ∧ a = p) := fun n x a e1 e2 => by
    by_cases hn : n < st.length
    · have hn2 : n < Γ.ρ.length := by rw [← F.len]; exact hn
      rw [List.getElem?_append_left hn] at e1
      rw [List.getElem?_append_left hn2] at e2
      exact .inl ⟨hn, e1, e2⟩
    · have hn' : n = st.length := by
        have := (List.getElem?_eq_some_iff.mp e1).1
        simp at this; omega
      subst hn'
      rw [F.len] at e2
      simp at e1 e2
      exact .inr ⟨rfl, e1.symm, e2.symm⟩
  refine ⟨F.g, F.l, F.gl, by simp [F.len], fun n x a e1 e2 => ?_, fun n m a q q' e1 e2 e3 e4 => ?_, fun b a' f ws e => ?_⟩
  · rcases lo n x a e1 e2 with ⟨_, h1, h2⟩ | ⟨_, rfl, rfl⟩
    · have q := F.cell n x a h1 h2
      cases x with
      | mu w => obtain ⟨w', k1, k2, k3, k4⟩ := q; exact ⟨w', k1, k2.mono le rfl, k3, k4⟩
      | fz l => exact q
      | dead => trivial
    · exact ⟨u, hp, ho.mono le rfl, hG, hL⟩
  · rcases lo n _ a e1 e3 with ⟨_, h1, h2⟩ | ⟨h0, h1, h2⟩
    · rcases lo m _ a e2 e4 with ⟨_, k1, k2⟩ | ⟨k0, k1, k2⟩
      · exact F.inj n m a q q' h1 k1 h2 k2
      · subst k2; exact (hn n q h1 h2).elim
    · rcases lo m _ a e2 e4 with ⟨_, k1, k2⟩ | ⟨k0, k1, k2⟩
      · subst h2; exact (hn m q' k1 k2).elim
      · rw [h0, k0]
  · obtain ⟨k1, k2, k3, k4⟩ := F.own b a' f ws e
    refine ⟨k1, k2, k3, fun n q e1 e2 => ?_⟩
    rcases lo n _ b e1 e2 with ⟨_, h1, h2⟩ | ⟨_, _, h2⟩
    · exact k4 n q h1 h2
    · have e' : Γ.O b = some (a', f, ws) := e
      rw [h2, hO] at e'; cases e'
/-- another L: what it speaks of apart from the cells and G -/
theorem StOk.relL {st : Store} {L : Hp} (F : StOk c Γ st H) (hL : Ext L H) (hg : ∀ a o, L a = some o → Γ.G a = none) (hc : ∀ (n : Nat) (q : Con) (a : Addr), st[n]? = some (.mu q) → Γ.ρ[n]? = some a → L a = none) (hO : ∀ b x, Γ.O b = some x → L b = none) : StOk c { Γ with L := L } st H where
  g := F.g
  l := hL
  gl := hg
  len := F.len
  cell := fun n x a e1 e2 => by
    have q := F.cell n x a e1 e2
    cases x with
    | mu w =>
      obtain ⟨w', k1, k2, k3, k4⟩ := q
      refine ⟨w', k1, ?_, k3, hc n w a e1 e2⟩
      cases w with
      | lst l => exact k2
      | dct k => exact k2
      | dt k => exact k2
      | obj k fs => obtain ⟨dx, vs, k1', k2', k3'⟩ := k2; exact ⟨dx, vs, k1', RepF.mono (Γ := Γ) (Γ' := { Γ with L := L }) Ext.refl (fun _ _ _ q => q) k2', k3'⟩
    | fz l => exact q
    | dead => trivial
  inj := F.inj
  own := fun b a f ws e => let ⟨k1, k2, _, k4⟩ := F.own b a f ws e; ⟨k1, k2, hO b _ e, k4⟩
theorem FrOk.relL {L : Hp} (F : FrOk c Γ S σ H) (hL : Ext L H) (hg : ∀ a o, L a = some o → Γ.G a = none) (hc : ∀ (n : Nat) (q : Con) (a : Addr), S.st[n]? = some (.mu q) → Γ.ρ[n]? = some a → L a = none) (hO : ∀ b x, Γ.O b = some x → L b = none) : FrOk c { Γ with L := L } S σ H :=
  ⟨F.s.relL hL hg hc hO, F.len, fun i x h => let ⟨v, h1, h2⟩ := F.sl i x h; ⟨v, h1, by cases x <;> exact h2⟩⟩
/-- the list at D, kept by L, is written -/
theorem FrOk.setL {D : Addr} {u u' : HO} (F : FrOk c Γ S σ H) (hD : Γ.L D = some u) : FrOk c { Γ with L := upd Γ.L D u' } S σ (upd H D u') := by
  have hG : Γ.G D = none := F.s.gl D _ hD
  have hc : ∀ (n : Nat) (q : Con) (a : Addr), S.st[n]? = some (.mu q) → Γ.ρ[n]? = some a → a ≠ D := fun n q a e1 e2 z => by
    obtain ⟨w, _, _, _, k⟩ := F.s.cell n _ a e1 e2
    rw [z, hD] at k; cases k
  refine ⟨⟨fun a o e => ?_, fun a o e => ?_, fun a o e => ?_, F.s.len, fun n x a e1 e2 => ?_, F.s.inj, fun b a f ws e => by
    obtain ⟨k1, k2, k3, k4⟩ := F.s.own b a f ws e
    have hb : b ≠ D := fun z => by rw [z, hD] at k3; cases k3
    exact ⟨by rw [upd_ne hb]; exact k1, k2, by show upd Γ.L D u' b = none; rw [upd_ne hb]; exact k3, k4⟩⟩, F.len, fun i x h => let ⟨v, h1, h2⟩ := F.sl i x h; ⟨v, h1, by cases x <;> exact h2⟩⟩
  · have : a ≠ D := fun z => by
      have e' : Γ.G a = some o := e
      rw [z, hG] at e'; cases e'
    rw [upd_ne this]; exact F.s.g a o e
  · by_cases h : a = D
    · subst h
      have e' : upd Γ.L a u' a = some o := e
      rw [upd_same] at e' ⊢; exact e'
    · have e' : upd Γ.L D u' a = some o := e
      rw [upd_ne h] at e' ⊢; exact F.s.l a o e'
  · by_cases h : a = D
    · rw [h]; exact hG
    · have e' : upd Γ.L D u' a = some o := e
      rw [upd_ne h] at e'; exact F.s.gl a o e'
  · have q := F.s.cell n x a e1 e2
    cases x with
    | mu w =>
      obtain ⟨w', k1, k2, k3, k4⟩ := q
      have hne := hc n w a e1 e2
      refine ⟨w', by rw [upd_ne hne]; exact k1, ?_, k3, by show upd Γ.L D u' a = none; rw [upd_ne hne]; exact k4⟩
      cases w with
      | lst l => exact k2
      | dct k => exact k2
      | dt k => exact k2
      | obj k fs => obtain ⟨dx, vs, k1', k2', k3'⟩ := k2; exact ⟨dx, vs, k1', RepF.mono (Γ := Γ) (Γ' := { Γ with L := upd Γ.L D u' }) Ext.refl (fun _ _ _ q => q) k2', k3'⟩
    | fz l => exact q
    | dead => trivial
/-- a new object, kept by L -/
theorem FrOk.newL {D : Addr} {u : HO} (F : FrOk c Γ S σ H) (hD : H D = none) : FrOk c { Γ with L := upd Γ.L D u } S σ (upd H D u) := by
  have hG : Γ.G D = none := Ext.none F.s.g hD
  have hL : Γ.L D = none := Ext.none F.s.l hD
  refine ⟨⟨fun a o e => ?_, fun a o e => ?_, fun a o e => ?_, F.s.len, fun n x a e1 e2 => ?_, F.s.inj, fun b a f ws e => by
    obtain ⟨k1, k2, k3, k4⟩ := F.s.own b a f ws e
    have hb : b ≠ D := ne_of_none k1 hD
    exact ⟨by rw [upd_ne hb]; exact k1, k2, by show upd Γ.L D u b = none; rw [upd_ne hb]; exact k3, k4⟩⟩, F.len, fun i x h => let ⟨v, h1, h2⟩ := F.sl i x h; ⟨v, h1, by cases x <;> exact h2⟩⟩
  · have e' : Γ.G a = some o := e
    rw [upd_ne (ne_of_none (F.s.g a o e') hD)]; exact F.s.g a o e'
  · by_cases h : a = D
    · subst h
      have e' : upd Γ.L a u a = some o := e
      rw [upd_same] at e' ⊢; exact e'
    · have e' : upd Γ.L D u a = some o := e
      rw [upd_ne h] at e' ⊢; exact F.s.l a o e'
  · by_cases h : a = D
    · rw [h]; exact hG
    · have e' : upd Γ.L D u a = some o := e
      rw [upd_ne h] at e'; exact F.s.gl a o e'
  · have q := F.s.cell n x a e1 e2
    cases x with
    | mu w =>
      obtain ⟨w', k1, k2, k3, k4⟩ := q
      have hne : a ≠ D := ne_of_none k1 hD
      refine ⟨w', by rw [upd_ne hne]; exact k1, ?_, k3, by show upd Γ.L D u a = none; rw [upd_ne hne]; exact k4⟩
      cases w with
      | lst l => exact k2
      | dct k => exact k2
      | dt k => exact k2
      | obj k fs => obtain ⟨dx, vs, k1', k2', k3'⟩ := k2; exact ⟨dx, vs, k1', RepF.mono (Γ := Γ) (Γ' := { Γ with L := upd Γ.L D u }) Ext.refl (fun _ _ _ q => q) k2', k3'⟩
    | fz l => exact q
    | dead => trivial
end

/-! ### the comprehension itself -/
abbrev W0 : WX := fun _ _ _ _ => False
def ItG {α : Type} (c : Cg) (Γ0 : Gh) (IY : Gh → α → V → Hp → Prop) (I : Itm α) (J : L2.It) : Prop := ∀ (Γ : Gh) (S : Sg) (σ : L2.St) (H : Hp) (i : Nat), Γ0.sub Γ → FrOk c Γ S σ H → I.ok S →
  (∀ d, I.l[i]? = some d → J.go i H ∧ ∀ x H', J.yld i H x H' → ∃ Γ', Γ.le Γ' ∧ FrOk c Γ' S σ H' ∧ IY Γ' d x H') ∧ (I.l.length = i → J.stop i H)
def rdIG {α : Type} (c : Cg) (W : WX) (IY : Gh → α → V → Hp → Prop) (f : M (Itm α)) : TI := fun σ H R => ∃ Γ S, FrOk c Γ S σ H ∧ Post c W σ Γ (f S) fun I S' Γ' H' => ∀ J, ItG c Γ' IY I J → R J H'
section
variable {c : Cg} {W : WX} {α : Type} {IY : Gh → α → V → Hp → Prop} {own ks : List Nat} {unp : α → Option (List D)} {it : M (Itm α)} {tt : M Bool} {f : M R} {wi : TI} {g : TG}
theorem lc_read (hit : ∀ σ H R, rdIG c W IY it σ H R → wi σ H R)
    (hg : ∀ Γ S σ H item x Q ds, FrOk c Γ S σ H → IY Γ item x H → unp item = some ds → ds.length = ks.length → (∀ vs, RepL c Γ.G ds vs → Q (setV σ ks vs) H) → g x σ H Q)
    (hks : ∀ k ∈ ks, k ∈ own) {σ : L2.St} {H : Hp} {Q : VK} (q : rdE c W (lcE own ks unp it tt f) σ H Q) : tLc wi g (rdT c W0 tt) (rdE c W0 f) own σ H Q := by
  obtain ⟨Γ, S, F, P⟩ := q
  refine hit σ H _ ⟨Γ, S, F, (Post.bind P).imp fun I S1 Γ1 H1 e1 F1 ⟨_, P1⟩ J hJ => ?_⟩
  intro D hD
  cases hq : lcL I.ok (lcB own ks unp tt f) I.l [] (wipeS S1 own) with
  | bad => rw [hq] at P1; exact P1.elim
  | exc x S' => rw [hq] at P1; exact P1.elim
  | ok accF SF =>
  rw [hq] at P1
  have P1 : Post c W σ Γ1 (if accF.length ≤ sizeLine then Res.ok (R.r SF.st.length) { S1 with st := SF.st ++ [.mu (.lst accF)] } else .bad) (fun x S' Γ' H' => ∀ v, RepR c Γ' x v → Q v H') := P1
  have hz : accF.length ≤ sizeLine := by
    refine Classical.byContradiction fun hn => ?_
    rw [if_neg hn] at P1; exact P1
  rw [if_pos hz] at P1
  have hLD : Γ1.L D = none := Ext.none F1.s.l hD
  refine ⟨fun i m H => m = I.l.length - i ∧ i ≤ I.l.length ∧ ∃ Γ S accD accV, Γ1.sub Γ ∧ Γ.L = upd Γ1.L D (.lst accV) ∧ FrOk c Γ S (wipe σ own) H ∧ RepL c Γ.G accD accV ∧ lcL I.ok (lcB own ks unp tt f) (I.l.drop i) accD S = .ok accF SF,
    ⟨_, rfl, Nat.zero_le _, { Γ1 with L := upd Γ1.L D (.lst []) }, wipeS S1 own, [], [], ⟨Ext.refl, [], by simp⟩, rfl, (F1.wipe own).newL hD, RepL.nil, by simpa using hq⟩, ?_⟩
  rintro i m H ⟨rfl, hi, Γ2, S2, accD, accV, s2, hL, F2, hA, hlc⟩
  have hok := lcL_ok hlc
  obtain ⟨k1, k2⟩ := hJ Γ2 S2 (wipe σ own) H i s2 F2 hok
  by_cases hl : i < I.l.length
  · refine .inr ?_
    obtain ⟨g1, g2⟩ := k1 _ (List.getElem?_eq_getElem hl)
    rw [List.drop_eq_getElem_cons hl] at hlc
    refine ⟨g1, fun H' => ∃ Γ S accD accV, Γ1.sub Γ ∧ Γ.L = upd Γ1.L D (.lst accV) ∧ FrOk c Γ S (wipe σ own) H' ∧ RepL c Γ.G accD accV ∧ lcL I.ok (lcB own ks unp tt f) (I.l.drop (i + 1)) accD S = .ok accF SF, fun H' h => ⟨_, by omega, rfl, hl, h⟩, fun x H' y => ?_⟩
    obtain ⟨Γ3, e3, F3, iy⟩ := g2 x H' y
    have main : ∃ ds, unp I.l[i] = some ds ∧ ds.length = ks.length := by
      rcases lcL_inv hlc with ⟨S', hb, _⟩ | ⟨y, S', hb, _⟩ <;> (unfold lcB at hb; cases hu : unp I.l[i] with
        | none => rw [hu] at hb; cases hb
        | some ds =>
          rw [hu] at hb
          simp only at hb
          by_cases hds : ds.length = ks.length
          · exact ⟨ds, rfl, hds⟩
          · rw [if_neg hds] at hb; cases hb)
    obtain ⟨ds, hu, hds⟩ := main
    refine hg Γ3 S2 _ H' I.l[i] x _ ds F3 iy hu hds fun vs hvs => ?_
    have hw : wipe (setV (wipe σ own) ks vs) own = wipe σ own := by rw [setV_wipe hks, wipe_wipe]
    refine ⟨hw, Γ3, setS S2 ks ds, F3.putL hvs, ?_⟩
    have hB : ∀ r, lcB own ks unp tt f I.l[i] S2 = r → (tt >>= fun b => if b = true then (do
        let x ← f
        let y ← pure1 x
        fun S => .ok (some y) (wipeS S own)) else fun S => .ok none (wipeS S own)) (setS S2 ks ds) = r := fun r hr => by
      unfold lcB at hr
      rw [hu] at hr
      simp only at hr
      rw [if_pos hds] at hr
      exact hr
    have hne : ∀ r, lcB own ks unp tt f I.l[i] S2 = r → (∃ a S', r = .ok a S') → ∃ b S4, tt (setS S2 ks ds) = .ok b S4 := fun r hr ⟨a, S', e⟩ => by
      have := hB r hr
      rw [bind_ap] at this
      cases ht : tt (setS S2 ks ds) with
      | ok b S4 => exact ⟨b, S4, rfl⟩
      | exc x S4 => rw [ht] at this; rw [e] at this; cases this
      | bad => rw [ht] at this; rw [e] at this; cases this
    have e23 : Γ1.sub Γ3 := s2.trans e3.sub
    rcases lcL_inv hlc with ⟨S', hb, hrest⟩ | ⟨yD, S', hb, hlt, hrest⟩
    · obtain ⟨b, S4, ht⟩ := hne _ hb ⟨_, _, rfl⟩
      have hb2 := hB _ hb
      rw [bind_ok ht] at hb2
      rw [ht]
      intro Γ4 H4 e4 F4
      cases b with
      | true =>
        exfalso
        simp only [if_true] at hb2
        rw [bind_ap] at hb2
        cases hf : f S4 with
        | bad => rw [hf] at hb2; cases hb2
        | exc x S5 => rw [hf] at hb2; cases hb2
        | ok x5 S5 =>
          rw [hf] at hb2
          simp only at hb2
          rw [bind_ap] at hb2
          cases hp : pure1 x5 S5 with
          | bad => rw [hp] at hb2; cases hb2
          | exc x S5 => rw [hp] at hb2; cases hb2
          | ok y6 S6 => rw [hp] at hb2; cases hb2
      | false =>
        simp only [Bool.false_eq_true, if_false] at hb2
        cases hb2
        have F5 := F4.wipe own
        rw [hw] at F5
        exact ⟨Γ4, _, accD, accV, e23.trans e4.sub, by rw [e4.l, e3.l, hL], F5, RepL.mono (e3.trans e4).g hA, hrest⟩
    · obtain ⟨b, S4, ht⟩ := hne _ hb ⟨_, _, rfl⟩
      have hb2 := hB _ hb
      rw [bind_ok ht] at hb2
      rw [ht]
      intro Γ4 H4 e4 F4
      cases b with
      | false =>
        simp only [Bool.false_eq_true, if_false] at hb2
        cases hb2
      | true =>
        simp only [if_true] at hb2
        rw [bind_ap] at hb2
        refine ⟨Γ4, S4, F4, ?_⟩
        cases hf : f S4 with
        | bad => rw [hf] at hb2; cases hb2
        | exc x S5 => rw [hf] at hb2; cases hb2
        | ok x5 S5 =>
          rw [hf] at hb2
          simp only at hb2
          rw [bind_ap] at hb2
          cases hp : pure1 x5 S5 with
          | bad => rw [hp] at hb2; cases hb2
          | exc x S5 => rw [hp] at hb2; cases hb2
          | ok y6 S6 =>
            rw [hp] at hb2
            cases hb2
            intro Γ5 H5 e5 F5 v hv
            obtain ⟨d, Γ6, S6', e6, F6, hd, hd2, hd3⟩ := pure1_ok (W := W0) (K := fun d S' _ _ => d = yD ∧ S' = S6) F5 hv (by rw [hp]; exact fun _ _ _ _ => ⟨rfl, rfl⟩)
            subst hd2 hd3
            have e36 := e4.trans (e5.trans e6)
            have hL6 : Γ6.L = upd Γ1.L D (.lst accV) := by rw [e36.l, e3.l, hL]
            have hD6 : Γ6.L D = some (.lst accV) := by rw [hL6, upd_same]
            have hA6 : RepL c Γ6.G accD accV := RepL.mono (e3.trans e36).g hA
            refine ⟨accV, F6.s.l D _ hD6, by rw [hA6.length]; exact hlt, ?_⟩
            have F7 := (F6.setL (u' := .lst (accV ++ [v])) hD6).wipe own
            rw [hw] at F7
            exact ⟨{ Γ6 with L := upd Γ6.L D (.lst (accV ++ [v])) }, _, accD ++ [d], accV ++ [v], (e23.trans e36.sub).trans ⟨Ext.refl, [], by simp⟩, by show upd Γ6.L D _ = _; rw [hL6, upd_upd], F7, hA6.append (RepL.one hd), hrest⟩
  · have e : I.l.length = i := by omega
    refine .inl ⟨k2 e, ?_⟩
    rw [List.drop_eq_nil_of_le (by omega), lcL_nil hok] at hlc
    cases hlc
    have hLD2 : Γ2.L D = some (.lst accV) := by rw [hL, upd_same]
    have hLne : ∀ a, a ≠ D → Γ2.L a = Γ1.L a := fun a h => by rw [hL, upd_ne h]
    have R1 : StOk c { Γ2 with L := Γ1.L } SF.st H := F2.s.relL (fun a o h => by
        by_cases ha : a = D
        · rw [ha, hLD] at h; cases h
        · exact F2.s.l a o (by rw [hLne a ha]; exact h)) (fun a o h => by
        by_cases ha : a = D
        · rw [ha, hLD] at h; cases h
        · exact F2.s.gl a o (by rw [hLne a ha]; exact h)) (fun n p a h1 h2 => by
        by_cases ha : a = D
        · rw [ha]; exact hLD
        · obtain ⟨w, _, _, _, k⟩ := F2.s.cell n _ a h1 h2
          rw [← hLne a ha]; exact k) (fun b x h => by
        obtain ⟨xa, xf, xw⟩ := x
        obtain ⟨_, _, k3, _⟩ := F2.s.own b xa xf xw h
        by_cases ha : b = D
        · rw [ha, hLD2] at k3; cases k3
        · rw [← hLne b ha]; exact k3)
    have R2 := R1.adopt (p := D) (o := .lst accF) (u := .lst accV) (F2.s.l D _ hLD2) (F2.s.gl D _ hLD2) hLD (fun n p h1 h2 => by
        obtain ⟨w, _, _, _, k⟩ := F2.s.cell n _ D h1 h2
        rw [hLD2] at k; cases k) (by
        show Γ2.O D = none
        cases h : Γ2.O D with
        | none => rfl
        | some x =>
          obtain ⟨xa, xf, xw⟩ := x
          obtain ⟨_, _, k3, _⟩ := F2.s.own D xa xf xw h
          rw [hLD2] at k3; cases k3) ⟨accV, rfl, hA⟩
    have le : Γ1.le { G := Γ2.G, L := Γ1.L, ρ := Γ2.ρ ++ [D], O := Γ2.O } := ⟨s2.g, rfl, by
      obtain ⟨t, ht⟩ := s2.r
      exact ⟨t ++ [D], by show Γ2.ρ ++ [D] = _; rw [ht, List.append_assoc]⟩⟩
    refine Post.ok (c := c) (W := W) P1 le (F1.of le R2) (.ref D) ⟨D, ?_, rfl⟩
    show (Γ2.ρ ++ [D])[SF.st.length]? = some D
    rw [F2.s.len]; simp
end
end Dd

set_option Elab.async false
set_option linter.all false
set_option maxRecDepth 100000
namespace Dd
open PySem PySem.Spec PyProof.Rows L2

section
variable {X : Cx} {c : Cg} {W : WX} {elt iter tg : Expr} {ifs : List Expr} {scope : Scope} {own : List (Str × Nat)} {pos spos : Pos} {it : M (Itm D)} {itw : M (Itm (List D))} {tt : M Bool} {f : M R} {i : Nat} {ks : List Nat} {es : List Expr} {kk : Nat} {tpos : Pos} {n : Nat}
theorem sts_nil : PTs X [] (rdT c W tYesM) := ⟨fun pins s σ H Q I q => pts_nil.run pins s σ H Q I (by
  obtain ⟨Γ, S, F, P⟩ := q
  exact Post.ok (c := c) (W := W) P Gh.le.refl F)⟩
theorem sts_one {e : Expr} (h : PT X e (rdT c W tt)) : PTs X [e] (rdT c W tt) := pts_one h
theorem lc1_read (hi : i ∈ own.map (·.2)) {σ : L2.St} {H : Hp} {Q : VK} (q : rdE c W (lcE (own.map (·.2)) [i] unp1 it tt f) σ H Q) : tLc (rdI c W it) (gName i) (rdT c W0 tt) (rdE c W0 f) (own.map (·.2)) σ H Q :=
  lc_read (IY := fun Γ d x _ => Rep c Γ.G d x) (wi := rdI c W it) (fun σ H R q => q) (fun Γ S σ H item x Q ds F iy hu hl k => by
    cases hu
    exact k [x] (RepL.one iy)) (fun k hk => by
      have : k = i := by simpa using hk
      rw [this]; exact hi) q
/-- what a block asks of its parts -/
abbrev InBlk (X : Cx) (scope : Scope) (P : Cx → Prop) : Prop := ∀ (s : Shared) (H : Hp) (C : Addr) (cl : List (Str × Addr)) (fp : List Addr), P (X.blk s H scope (compEnvC scope cl C X.env) fp)
theorem se_lc1 (hc : X.calm = true) (hN : X.N.Nodup) (hi : PI X tg iter (rdI c W it)) (ok : BlkOk X.N X.env.scope scope own) (hm : i ∈ own.map (·.2))
    (hg : InBlk X scope fun Y => PG Y tg (gName i)) (ht : InBlk X scope fun Y => PTs Y ifs (rdT c W0 tt)) (he : InBlk X scope fun Y => PE Y elt (rdE c W0 f)) (hs : ∀ x, foldedSetIterable iter X.env x = pure x := by intro _; rfl) :
    PE X (.ListComp elt [⟨tg, iter, ifs, 0⟩] scope pos) (rdE c W (lcE (own.map (·.2)) [i] unp1 it tt f)) := se_of (pe_lc hc hN hi ok hg ht he hs) fun σ H Q q => lc1_read hm q
/-- name = [..] on one line -/
theorem setLc_read {lc : M R} {t : TE} {j : Nat} (h : ∀ σ H Q, rdE c W lc σ H Q → t σ H Q) {E : Ends} {σ : L2.St} {H : Hp} (q : rdS c W (sSet j lc) E σ H) : tAsg t (gName j) E σ H := by
  obtain ⟨Γ, S, F, P⟩ := q
  refine h σ H _ ⟨Γ, S, F, (PostS.bindE P).imp fun x S1 Γ1 H1 e1 F1 ⟨_, P1⟩ v hv => ?_⟩
  exact P1 Γ1 _ H1 Gh.le.refl (F1.put j hv)
variable {y : Str} {py : Pos} {j : Nat}
theorem ss_lc1 (hc : X.calm = true) (hN : X.N.Nodup) (hy : X.N[j]? = some y) (hyl : X.env.scope.names.lookup y = some .local) (hsw : swapsWith (.ListComp elt [⟨tg, iter, ifs, 0⟩] scope pos) (some (.Name y py)) spos.line X.env = pure true)
    (hi : PI X tg iter (rdI c W it)) (ok : BlkOk X.N X.env.scope scope own) (hm : i ∈ own.map (·.2))
    (hg : InBlk X scope fun Y => PG Y tg (gName i)) (ht : InBlk X scope fun Y => PTs Y ifs (rdT c W0 tt)) (he : InBlk X scope fun Y => PE Y elt (rdE c W0 f)) (hs : ∀ x, foldedSetIterable iter X.env x = pure x := by intro _; rfl) :
    PS X (.Assign [.Name y py] (.ListComp elt [⟨tg, iter, ifs, 0⟩] scope pos) spos) (rdS c W (sSet j (lcE (own.map (·.2)) [i] unp1 it tt f))) :=
  ss_of (ps_setLc hc hN hy hyl hsw hi ok hg ht he hs) fun E σ H q => setLc_read (fun σ H Q q => lc1_read hm q) q
/-- name = [..] made pure at once: the name is stored, then taken as pure -/
def sPur (i : Nat) : M Fl := do
  let x ← vr i
  let d ← pure1 x
  put i (.p d)
  pure .nx
theorem FrOk.same {Γ : Gh} {S : Sg} {σ : L2.St} {H : Hp} {x : R} {v : V} {i : Nat} (F : FrOk c Γ S σ H) (hs : σ[i]? = some (some v)) (h : RepR c Γ x v) : FrOk c Γ { S with sl := S.sl.set i (some x) } σ H := by
  have h1 := F.put i h
  have : σ.set i (some v) = σ := by
    apply List.ext_getElem?
    intro k
    by_cases e : i = k
    · subst e
      rw [List.getElem?_set_self (List.getElem?_eq_some_iff.mp hs).1, hs]
    · rw [List.getElem?_set_ne e]
  rw [this] at h1
  exact h1
/-- behind a statement nothing happens but that a name's value is taken as pure -/
theorem ss_thenPur {st : Stmt} {h : M Fl} {i : Nat} (hs : PS X st (rdS c W h)) : PS X st (rdS c W (sSq h (sPur i))) := ⟨fun pins s σ H E I q => by
  obtain ⟨Γ, S, F, P⟩ := q
  refine hs.run pins s σ H E I ⟨Γ, S, F, ?_⟩
  have P2 := P.seq
  cases q : h S with
  | bad => rw [q] at P2; exact P2
  | exc x S' => rw [q] at P2; exact P2
  | ok a S' =>
    rw [q] at P2
    cases a with
    | nx =>
      intro Γ' σ' H' e F'
      obtain ⟨Γ2, S2, F2, P3⟩ := P2 Γ' σ' H' e F'
      have P3' := PostS.bindE (σ := σ') P3
      unfold vr at P3'
      split at P3'
      · rename_i x hx
        obtain ⟨v, h1, h2⟩ := F2.sl i x hx
        obtain ⟨_, P4⟩ := Post.ok (c := c) (W := W) P3' Gh.le.refl F2
        obtain ⟨d, Γ3, S3, e3, F3, hd, _, P5⟩ := pure1_ok F2 h2 (PostS.bindE P4)
        exact P5 Γ3 σ' H' Gh.le.refl (F3.same h1 (x := .p d) hd)
      · exact P3'.elim
    | rt x => exact P2
    | bk => exact P2
    | ct => exact P2⟩
end

/-! ### names in parallel -/
def sPar (i j : Nat) (g : M (List R)) : M Fl := do
  let xs ← g
  fun S => match xs with
    | x :: r => match r with
      | y :: r' => if r'.isEmpty = true then .ok .nx { S with sl := (S.sl.set i (some x)).set j (some y) } else .bad
      | [] => .bad
    | [] => .bad
def sPar3 (i j l : Nat) (g : M (List R)) : M Fl := do
  let xs ← g
  fun S => match xs with
    | x :: r => match r with
      | y :: r' => match r' with
        | z :: r'' => if r''.isEmpty = true then .ok .nx { S with sl := ((S.sl.set i (some x)).set j (some y)).set l (some z) } else .bad
        | [] => .bad
      | [] => .bad
    | [] => .bad
section
variable {X : Cx} {c : Cg} {W : WX} {x y z : Str} {a b d : Expr} {g : M (List R)} {px py pz pt pos : Pos} {kt k2 pt2} {i j l : Nat}
theorem ss_par (hc : X.calm = true) (hN : X.N.Nodup) (hi : X.N[i]? = some x) (hj : X.N[j]? = some y) (hij : i ≠ j)
    (hx : X.env.scope.names.lookup x = some .local) (hy : X.env.scope.names.lookup y = some .local) (ha : PA X [a, b] (rdA c W g))
    (hw : swappedStores [.Tuple [.Name x px, .Name y py] kt pt] (.Tuple [a, b] k2 pt2) X.env = pure (some [x, y]))
    (hs : swapsWithSole [.Tuple [.Name x px, .Name y py] kt pt] (.Tuple [a, b] k2 pt2) pos.line X.env = pure false := by rfl) :
    PS X (.Assign [.Tuple [.Name x px, .Name y py] kt pt] (.Tuple [a, b] k2 pt2) pos) (rdS c W (sPar i j g)) := ss_of (ps_par hc hN hi hj hij hx hy ha hw hs) fun E σ H q => by
  obtain ⟨Γ, S, F, P⟩ := q
  refine ⟨Γ, S, F, (PostS.bindE P).imp fun xs S1 Γ1 H1 e1 F1 ⟨_, P1⟩ vs hvs => ?_⟩
  cases xs with
  | nil => exact P1.elim
  | cons p r =>
    cases r with
    | nil => exact P1.elim
    | cons p' r' =>
      cases r' with
      | cons q r'' => exact (show False from P1).elim
      | nil =>
        obtain ⟨v, r, rfl, h1, w, r2, rfl, h2, h3⟩ := hvs
        have : r2 = [] := h3
        subst this
        exact ⟨v, w, rfl, P1 Γ1 _ H1 Gh.le.refl ((F1.put i h1).put j h2)⟩
end
end Dd

set_option Elab.async false
set_option linter.all false
set_option maxRecDepth 100000
namespace Dd
open PySem PySem.Spec PyProof.Rows L2

theorem RepR.mkI {c : Cg} {Γ : Gh} {i : Int} : RepR c Γ (.p (.int i)) (.int i) := (Rep.int_iff (c := c) (G := Γ.G)).mpr rfl
theorem RepR.mkB {c : Cg} {Γ : Gh} {i : Bool} : RepR c Γ (.p (.bl i)) (.bl i) := (Rep.bl_iff (c := c) (G := Γ.G)).mpr rfl
theorem RepR.mkS {c : Cg} {Γ : Gh} {i : Str} : RepR c Γ (.p (.str i)) (.str i) := (Rep.str_iff (c := c) (G := Γ.G)).mpr rfl
theorem RepR.mkN {c : Cg} {Γ : Gh} : RepR c Γ (.p .non) .non := (Rep.non_iff (c := c) (G := Γ.G)).mpr rfl
theorem RepL.atI {c : Cg} {G : Hp} {ds : List D} {vs : List V} {i : Int} {d : D} (h : RepL c G ds vs) (e : L2.atI ds i = some d) : ∃ v, L2.atI vs i = some v ∧ Rep c G d v := by
  unfold L2.atI at e ⊢
  rw [h.length]
  cases q : ixN ds.length i with
  | none => rw [q] at e; cases e
  | some j =>
    rw [q] at e
    exact h.get (i := j) e
/-! ### o[i] -/
def opIx : R → R → M R := fun x y S => match asI y with
  | some i => match getL x S with
    | some l => match L2.atI l i with
      | some d => .ok (.p d) S
      | none => .bad
    | none => match x with
      | .p (.str z) => if z.length ≤ sizeLine then (match L2.atI z.cps.toList i with
        | some ch => .ok (.p (.str ⟨#[ch]⟩)) S
        | none => .bad) else .bad
      | _ => .bad
  | none => .bad
section
variable {X : Cx} {c : Cg} {W : WX} {a b e : Expr} {f fa fb : M R} {g : M (List R)} {pos : Pos}
theorem asI_rep {Γ : Gh} {x : R} {v : V} {i : Int} (h : RepR c Γ x v) (e : asI x = some i) : v = .int i := by
  rw [asI_some e] at h
  exact RepR.int h
theorem od_ix (hK : X.K = c.K) : OpD c W opIx (rIx X.K) := by
  intro Γ S σ H x y v w Q F hx hy P
  unfold opIx at P
  cases hi : asI y with
  | none => rw [hi] at P; exact P.elim
  | some i =>
    rw [hi] at P
    have hw := asI_rep hy hi
    subst hw
    cases hl : getL x S with
    | some l =>
      rw [hl] at P
      cases hd : L2.atI l i with
      | none => simp only [hd] at P; exact P.elim
      | some d =>
        simp only [hd] at P
        rcases getL_kind hl with hk | rfl
        · obtain ⟨p, vs, rfl, h1, h2⟩ := getLst_ok F hx ((hk S).trans hl)
          obtain ⟨u, q1, q2⟩ := h2.atI hd
          exact .inl ⟨p, vs, i, u, rfl, rfl, by rw [hK]; exact h1, q1, Post.ok (c := c) (W := W) P Gh.le.refl F u q2⟩
        · obtain ⟨p, vs, rfl, h1, h2⟩ := Rep.tup_iff.mp (RepR.pure.mp hx)
          cases hl
          obtain ⟨u, q1, q2⟩ := h2.atI hd
          exact .inr (.inl ⟨p, vs, i, u, rfl, rfl, by rw [hK]; exact (TupS.mono F.s.g h1).sq, q1, Post.ok (c := c) (W := W) P Gh.le.refl F u q2⟩)
    | none =>
      rw [hl] at P
      cases x with
      | r n => exact P.elim
      | p d =>
        cases d with
        | str z =>
          have hv := RepR.str hx
          subst hv
          have P : Post c W σ Γ (if z.length ≤ sizeLine then (match L2.atI z.cps.toList i with | some ch => Res.ok (R.p (.str ⟨#[ch]⟩)) S | none => .bad) else .bad) (fun z S' Γ' H' => ∀ u, RepR c Γ' z u → Q u H') := P
          by_cases hz : z.length ≤ sizeLine
          · rw [if_pos hz] at P
            cases hc : L2.atI z.cps.toList i with
            | none => rw [hc] at P; exact P.elim
            | some ch =>
              rw [hc] at P
              exact .inr (.inr ⟨z, i, ch, rfl, rfl, hz, hc, Post.ok (c := c) (W := W) P Gh.le.refl F _ RepR.mkS⟩)
          · rw [if_neg hz] at P; exact P.elim
        | _ => exact P.elim
theorem se_ix (hK : X.K = c.K) (ha : PE X a (rdE c W fa)) (hb : PE X b (rdE c W fb)) (hs : PlainIx b := by exact fun _ _ => rfl) : PE X (.Subscript a b pos) (rdE c W (bin opIx fa fb)) :=
  se_of (pe_ix ix_seq ha hb hs) fun σ H Q q => bin_read (od_ix hK) q

/-! ### o[lo:hi] -/
def opt0 : M (Option Int) := pure none
def opt1 (f : M R) : M (Option Int) := do
  let x ← f
  fun S => match asI x with
    | some i => .ok (some i) S
    | none => .bad
def rdO (c : Cg) (W : WX) (f : M (Option Int)) : TO := fun σ H Q => ∃ Γ S, FrOk c Γ S σ H ∧ Post c W σ Γ (f S) fun o S' Γ' H' => Q o H'
theorem so_none : PO X none (rdO c W opt0) := ⟨fun pins s σ H Q I q => po_none.run pins s σ H Q I (by
  obtain ⟨Γ, S, F, P⟩ := q
  exact Post.ok (c := c) (W := W) P Gh.le.refl F)⟩
theorem so_some (h : PE X e (rdE c W f)) : PO X (some e) (rdO c W (opt1 f)) := ⟨fun pins s σ H Q I q => (po_some h).run pins s σ H Q I (by
  obtain ⟨Γ, S, F, P⟩ := q
  refine ⟨Γ, S, F, (Post.bind P).imp fun x S1 Γ1 H1 e1 F1 ⟨_, P1⟩ v hv => ?_⟩
  cases hi : asI x with
  | none => rw [hi] at P1; exact P1.elim
  | some i =>
    rw [hi] at P1
    exact ⟨i, asI_rep hv hi, Post.ok (c := c) (W := W) P1 Gh.le.refl F1⟩)⟩
def cutD {α : Type} (xs : List α) (lo hi : Option Int) : List α := (xs.drop (HT.sIx xs.length 0 lo)).take (HT.sIx xs.length xs.length hi - HT.sIx xs.length 0 lo)
theorem RepL.cut {G : Hp} {ds : List D} {vs : List V} (h : RepL c G ds vs) (lo hi : Option Int) : RepL c G (cutD ds lo hi) (cutV vs lo hi) := by
  unfold cutD cutV
  rw [h.length]
  exact (h.drop _).take _
/-- a list's slice: a new list; a tuple's that is not the whole: a new tuple -/
def opSl (x : R) (lo hi : Option Int) : M R := fun S => match x with
  | .p (.tup l) => if HT.sIx l.length 0 lo = 0 ∧ HT.sIx l.length l.length hi = l.length then .ok (.p (.tup l)) S else .ok (.p (.tup (cutD l lo hi))) S
  | x => match getLst x S with
    | some l => if l.length ≤ sizeLine then .ok (.r S.st.length) { S with st := S.st ++ [.mu (.lst (cutD l lo hi))] } else .bad
    | none => .bad
def slE (f : M R) (l h : M (Option Int)) : M R := do
  let x ← f
  let lo ← l
  let hi ← h
  opSl x lo hi

def rSlF (K : PySem.W.Frag) : V → Option Int → Option Int → Hp → VK → Prop := fun x lo hi H Q => ∃ a xs, x = .ref a ∧ SqT K H a xs ∧
  (HT.sIx xs.length 0 lo = 0 ∧ HT.sIx xs.length xs.length hi = xs.length → Q (.ref a) H) ∧
  (¬ (HT.sIx xs.length 0 lo = 0 ∧ HT.sIx xs.length xs.length hi = xs.length) → ∀ p o, H p = none → o.dict = none → Q (.ref p) (upd H p (.frz o (.tup (cutV xs lo hi)))))
theorem sl_tupF : SlR X (rSlF X.K) := by
  intro pins s σ H x v vl vu lo hi sl Q I rx hs pl pu h
  obtain ⟨a, xs, rfl, hx, q1, q2⟩ := h
  cases rx
  obtain ⟨its, r, ht, hz⟩ := I.tuple hx
  have hlen : its.toArray.size = xs.length := by rw [List.size_toArray]; exact r.length.symm
  refine ⟨"tuple", _, PyProof.Rows.slot_tuple_getitem.lookup, ht.typeIs, ?_⟩
  by_cases hw : HT.sIx xs.length 0 lo = 0 ∧ HT.sIx xs.length xs.length hi = xs.length
  · exact getItem_tuple_whole ht hs pl pu (by rw [hlen]; exact hw) ⟨.ref a, H, I, rfl, q1 hw⟩
  · refine HT.getItem_tuple_cut ht hs pl pu (by rw [hlen]; exact hw) ?_ (by rw [hlen]; exact hz)
    rw [hlen]
    refine ⟨.ref s.heap.objs.size, _, I.laid (t' := s.toks) (o := .frz { cls := .type "tuple", data := .seq ((its.drop (HT.sIx xs.length 0 lo)).take (HT.sIx xs.length xs.length hi - HT.sIx xs.length 0 lo)).toArray } (.tup (cutV xs lo hi))) (fun b ob q => Heap.get?_push_of_some _ q) (Nat.le_refl _) ?_, rfl, q2 hw _ _ (I.hok.fresh (Nat.le_refl _)) rfl⟩
    exact ⟨Heap.get?_push_size _ rfl, Nat.le_trans (cutV_length xs lo hi) hz, _, (r.drop (HT.sIx xs.length 0 lo)).take (HT.sIx xs.length xs.length hi - HT.sIx xs.length 0 lo), IsTup.new _ _⟩
variable {l h : M (Option Int)} {lo hi : Option Expr} {p2 : Pos}
theorem sl_done (hK : X.K = c.K) {Γ : Gh} {S : Sg} {σ : L2.St} {H : Hp} {x : R} {v : V} {o o' : Option Int} {Q : VK} (F : FrOk c Γ S σ H) (hv : RepR c Γ x v) (P : Post c W σ Γ (opSl x o o' S) fun z S' Γ' H' => ∀ u, RepR c Γ' z u → Q u H') : rSlL X.K v o o' H Q ∨ rSlF X.K v o o' H Q := by
  have lst : ∀ y : R, (∀ S, getLst y S = getL y S) → RepR c Γ y v → Post c W σ Γ (match getLst y S with
    | some l => if l.length ≤ sizeLine then Res.ok (R.r S.st.length) { S with st := S.st ++ [.mu (.lst (cutD l o o'))] } else .bad
    | none => .bad) (fun z S' Γ' H' => ∀ u, RepR c Γ' z u → Q u H') → rSlL X.K v o o' H Q := fun y hy hv P => by
    cases q : getLst y S with
    | none => rw [q] at P; exact P.elim
    | some l =>
      rw [q] at P
      have P : Post c W σ Γ (if l.length ≤ sizeLine then Res.ok (R.r S.st.length) { S with st := S.st ++ [.mu (.lst (cutD l o o'))] } else .bad) (fun z S' Γ' H' => ∀ u, RepR c Γ' z u → Q u H') := P
      by_cases hz : l.length ≤ sizeLine
      · rw [if_pos hz] at P
        obtain ⟨a, vs, rfl, h1, h2⟩ := getLst_ok F hv q
        refine ⟨a, vs, rfl, hK ▸ h1, fun p hp => ?_⟩
        obtain ⟨Γ3, e3, F3, r3⟩ := newL_ok F (h2.cut o o') hp
        exact Post.ok (c := c) (W := W) P e3 F3 _ r3
      · rw [if_neg hz] at P; exact P.elim
  cases x with
  | r n => exact .inl (lst (.r n) (fun _ => rfl) hv P)
  | p d =>
    cases d with
    | tup l =>
      refine .inr ?_
      obtain ⟨a, vs, rfl, h1, h2⟩ := Rep.tup_iff.mp (RepR.pure.mp hv)
      refine ⟨a, vs, rfl, hK ▸ (TupS.mono F.s.g h1).sq, ?_⟩
      rw [h2.length]
      have P : Post c W σ Γ (if HT.sIx l.length 0 o = 0 ∧ HT.sIx l.length l.length o' = l.length then Res.ok (R.p (.tup l)) S else .ok (.p (.tup (cutD l o o'))) S) (fun z S' Γ' H' => ∀ u, RepR c Γ' z u → Q u H') := P
      refine ⟨fun hw => ?_, fun hw p ob hp ho => ?_⟩
      · rw [if_pos hw] at P
        exact Post.ok (c := c) (W := W) P Gh.le.refl F _ hv
      · rw [if_neg hw] at P
        obtain ⟨Γ3, e3, F3, r3⟩ := newT_ok F (h2.cut o o') hp ho
        exact Post.ok (c := c) (W := W) P e3 F3 _ r3
    | lst l => exact .inl (lst (.p (.lst l)) (fun _ => rfl) hv P)
    | scp l => exact .inl (lst (.p (.scp l)) (fun _ => rfl) hv P)
    | _ => exact P.elim
theorem se_sl (hK : X.K = c.K) (he : PE X e (rdE c W f)) (hl : PO X lo (rdO c W l)) (hh : PO X hi (rdO c W h)) : PE X (.Subscript e (.Slice lo hi none p2) pos) (rdE c W (slE f l h)) :=
  se_of (pe_slice (SlR.or sl_list sl_tupF) he hl hh) fun σ H Q q => by
    obtain ⟨Γ, S, F, P⟩ := q
    refine ⟨Γ, S, F, (Post.bind P).imp fun x S1 Γ1 H1 e1 F1 ⟨_, P1⟩ v hv => ?_⟩
    refine ⟨Γ1, S1, F1, (Post.bind P1).imp fun o S2 Γ2 H2 e2 F2 ⟨_, P2⟩ => ?_⟩
    refine ⟨Γ2, S2, F2, (Post.bind P2).imp fun o' S3 Γ3 H3 e3 F3 ⟨_, P3⟩ => ?_⟩
    exact sl_done hK F3 (hv.mono (e2.trans e3)) P3

/-! ### o[i] = e -/
/-- a list's cell is written at a place -/
def setAt (x y : R) (d : D) : M Unit := fun S => match x with
  | .r n => match asI y with
    | some i => match S.st[n]? with
      | some (.mu (.lst l)) => match ixN l.length i with
        | some j => .ok () { S with st := S.st.set n (.mu (.lst (l.set j d))) }
        | none => .bad
      | _ => .bad
    | none => .bad
  | _ => .bad
def sSub (f fo fi : M R) : M Fl := do
  let x ← f
  let d ← pure1 x
  let o ← fo
  let i ← fi
  setAt o i d
  pure .nx
theorem lstC {Γ : Gh} {S : Sg} {σ : L2.St} {H : Hp} {n : Nat} {v : V} {l : List D} (F : FrOk c Γ S σ H) (hv : RepR c Γ (.r n) v) (e : S.st[n]? = some (.mu (.lst l))) : ∃ a vs, v = .ref a ∧ Γ.ρ[n]? = some a ∧ H a = some (.lst vs) ∧ RepL c Γ.G l vs ∧
    ∀ l' vs', RepL c Γ.G l' vs' → FrOk c Γ { S with st := S.st.set n (.mu (.lst l')) } σ (upd H a (.lst vs')) := by
  obtain ⟨a, vs, h1, h2, h3, h4, h5⟩ := F.s.lst e
  obtain ⟨a', k1, rfl⟩ := hv
  rw [h1] at k1; cases k1
  exact ⟨a, vs, rfl, h1, h2, h3, fun l' vs' hr => F.of Gh.le.refl (F.s.setC e h1 ⟨vs', rfl, hr⟩)⟩
theorem ss_sub {o i : Expr} {fo fi : M R} (he : PE X e (rdE c W f)) (ho : PE X o (rdE c W fo)) (hi : PE X i (rdE c W fi)) {spos : Pos} (hs : swapsWithSole [.Subscript o i pos] e spos.line X.env = pure false := by rfl) (hw : swappedStores [.Subscript o i pos] e X.env = pure none := by rfl)
    (h1 : (assignEach [.Subscript o i pos] X.env).map (·.2) = [assign (.Subscript o i pos) X.env] := by rfl)
    (ha : ∀ v, assign (.Subscript o i pos) X.env v = (do
      let ov ← holding [v] (eval o X.env)
      let iv ← holding [v, ov] (eval i X.env)
      standAt pos
      holding [v, ov, iv] (setItem ov iv v)
      release [v, ov, iv] []) := by intro _; rfl) : PS X (.Assign [.Subscript o i pos] e spos) (rdS c W (sSub f fo fi)) := ss_of (ps_asg he (pg_sub ho hi set_list ha) hs hw h1) fun E σ H q => by
  obtain ⟨Γ, S, F, P⟩ := q
  refine ⟨Γ, S, F, (PostS.bindE P).imp fun x S1 Γ1 H1 e1 F1 ⟨_, P1⟩ v hv => ?_⟩
  obtain ⟨d, Γ2, S2, e2, F2, hd, _, P2⟩ := pure1_ok F1 hv (PostS.bindE P1)
  refine ⟨Γ2, S2, F2, (PostS.bindE P2).imp fun ox S3 Γ3 H3 e3 F3 ⟨_, P3⟩ ov hov => ?_⟩
  refine ⟨Γ3, S3, F3, (PostS.bindE P3).imp fun ix S4 Γ4 H4 e4 F4 ⟨_, P4⟩ iv hiv => ?_⟩
  have P5 := PostS.bindE (σ := σ) P4
  cases ox with
  | p d => exact P5.elim
  | r n =>
    unfold setAt at P5
    simp only at P5
    cases hi : asI ix with
    | none => rw [hi] at P5; exact P5.elim
    | some k =>
      rw [hi] at P5
      simp only at P5
      cases hn : S4.st[n]? with
      | none => rw [hn] at P5; exact P5.elim
      | some y =>
        rw [hn] at P5
        cases y with
        | dead => exact P5.elim
        | fz l => exact P5.elim
        | mu u =>
          cases u with
          | dct k => exact P5.elim
          | dt k => exact P5.elim
          | obj k fs => exact P5.elim
          | lst l =>
            simp only at P5
            cases hj : ixN l.length k with
            | none => rw [hj] at P5; exact P5.elim
            | some j =>
              rw [hj] at P5
              obtain ⟨a, vs, rfl, r1, r2, r3, upd'⟩ := lstC F4 (hov.mono e4) hn
              refine ⟨a, vs, k, j, rfl, asI_rep hiv hi, r2, by rw [r3.length]; exact hj, ?_⟩
              have F5 := upd' (l.set j d) (vs.set j v) (r3.set j (Rep.mono (e3.trans e4).g hd))
              obtain ⟨_, P6⟩ := Post.ok (c := c) (W := W) P5 Gh.le.refl F5
              exact P6 Γ4 σ _ Gh.le.refl F5
end
end Dd

set_option Elab.async false
set_option linter.all false
set_option maxRecDepth 100000
namespace Dd
open PySem PySem.Spec PyProof.Rows L2

/-! ### lists that are tracked; +, * -/
/-- a list that is no one's but ours or frozen -/
def getM (x : R) (S : Sg) : Option (List D) := match x with
  | .p (.lst l) => some l
  | .p _ => none
  | .r n => match S.st[n]? with
    | some (.mu (.lst l)) => some l
    | some (.fz l) => some l
    | _ => none
section
variable {X : Cx} {c : Cg} {W : WX} {a b e : Expr} {f fa fb : M R} {g : M (List R)} {pos : Pos} {Γ : Gh} {S : Sg} {σ : L2.St} {H : Hp}
theorem getM_ok {x : R} {v : V} {l : List D} (F : FrOk c Γ S σ H) (hx : RepR c Γ x v) (h : getM x S = some l) : ∃ a vs, v = .ref a ∧ H a = some (.lst vs) ∧ RepL c Γ.G l vs := by
  cases x with
  | p d =>
    cases d with
    | lst l' =>
      cases h
      obtain ⟨a, vs, h1, h2, h3⟩ := Rep.lst_iff.mp (RepR.pure.mp hx)
      exact ⟨a, vs, h1, F.s.g _ _ h2, h3⟩
    | _ => cases h
  | r n =>
    obtain ⟨a, h1, h2⟩ := hx
    unfold getM at h
    simp only at h
    split at h
    · rename_i l' e
      cases h
      obtain ⟨a', vs, h3, h4, h5, _⟩ := F.s.lst e
      rw [h1] at h3; cases h3
      exact ⟨a, vs, h2, h4, h5⟩
    · rename_i l' e
      cases h
      obtain ⟨a', vs, h3, h4, h5⟩ := F.s.fro e
      rw [h1] at h3; cases h3
      exact ⟨a, vs, h2, F.s.g _ _ h4, h5⟩
    · cases h
/-- + : ints, texts, lists -/
def opAdd : R → R → M R := fun x y S => match asI x with
  | some i => match asI y with
    | some j => .ok (.p (.int (i + j))) S
    | none => .bad
  | none => match getM x S with
    | some l => match getM y S with
      | some l' => if l.length + l'.length ≤ sizeLine then .ok (.r S.st.length) { S with st := S.st ++ [.mu (.lst (l ++ l'))] } else .bad
      | none => .bad
    | none => match x with
      | .p (.str z) => match y with
        | .p (.str z') => if z.length + z'.length ≤ sizeLine then .ok (.p (.str (z ++ z'))) S else .bad
        | _ => .bad
      | _ => .bad
def rAddA : R2 := fun x y H Q => (rI0 (fun i j => .int (i + j)) x y H Q ∨ rCat x y H Q) ∨ ∃ i j, x = .str i ∧ y = .str j ∧ i.length + j.length ≤ sizeLine ∧ Q (.str (i ++ j)) H
theorem op_addA : OpR X (binaryOp .Add) rAddA := OpR.or (OpR.or op_add op_cat) op_add_str
theorem od_add : OpD c W opAdd rAddA := by
  intro Γ S σ H x y v w Q F hx hy P
  unfold opAdd at P
  cases hi : asI x with
  | some i =>
    rw [hi] at P
    simp only at P
    cases hj : asI y with
    | none => rw [hj] at P; exact P.elim
    | some j =>
      rw [hj] at P
      exact .inl (.inl ⟨i, j, asI_rep hx hi, asI_rep hy hj, Post.ok (c := c) (W := W) P Gh.le.refl F _ RepR.mkI⟩)
  | none =>
    rw [hi] at P
    simp only at P
    cases hl : getM x S with
    | some l =>
      rw [hl] at P
      simp only at P
      cases hl' : getM y S with
      | none => rw [hl'] at P; exact P.elim
      | some l' =>
        rw [hl'] at P
        simp only at P
        by_cases hz : l.length + l'.length ≤ sizeLine
        · rw [if_pos hz] at P
          obtain ⟨a, vs, rfl, h1, h2⟩ := getM_ok F hx hl
          obtain ⟨b, ws, rfl, k1, k2⟩ := getM_ok F hy hl'
          refine .inl (.inr ⟨a, b, vs, ws, rfl, rfl, h1, k1, by rw [h2.length, k2.length]; exact hz, fun p hp => ?_⟩)
          obtain ⟨Γ3, e3, F3, r3⟩ := newL_ok F (h2.append k2) hp
          exact Post.ok (c := c) (W := W) P e3 F3 _ r3
        · rw [if_neg hz] at P; exact P.elim
    | none =>
      rw [hl] at P
      cases x with
      | r n => exact P.elim
      | p d =>
        cases d with
        | str z =>
          cases y with
          | r n => exact P.elim
          | p d' =>
            cases d' with
            | str z' =>
              have P : Post c W σ Γ (if z.length + z'.length ≤ sizeLine then Res.ok (R.p (.str (z ++ z'))) S else .bad) (fun z S' Γ' H' => ∀ u, RepR c Γ' z u → Q u H') := P
              by_cases hz : z.length + z'.length ≤ sizeLine
              · rw [if_pos hz] at P
                exact .inr ⟨z, z', RepR.str hx, RepR.str hy, hz, Post.ok (c := c) (W := W) P Gh.le.refl F _ RepR.mkS⟩
              · rw [if_neg hz] at P; exact P.elim
            | _ => exact P.elim
        | _ => exact P.elim
/-- * : ints, a list times an int -/
def opMul : R → R → M R := fun x y S => match asI y with
  | some j => match asI x with
    | some i => if CMulW i j then .ok (.p (.int (i * j))) S else .bad
    | none => match getM x S with
      | some l => if -(2 ^ 63) ≤ j ∧ j < 2 ^ 63 ∧ l.length * j.toNat ≤ sizeLine then .ok (.r S.st.length) { S with st := S.st ++ [.mu (.lst (List.replicate j.toNat l).flatten)] } else .bad
      | none => .bad
  | none => .bad
theorem RepL.rep {G : Hp} {ds : List D} {vs : List V} (h : RepL c G ds vs) : ∀ n : Nat, RepL c G (List.replicate n ds).flatten (List.replicate n vs).flatten
  | 0 => RepL.nil
  | n + 1 => by
    rw [List.replicate_succ, List.replicate_succ, List.flatten_cons, List.flatten_cons]
    exact h.append (RepL.rep h n)
theorem op_mulA : OpR X (binaryOp .Mult) (fun x y H Q => rI CMulW (fun i j => .int (i * j)) x y H Q ∨ rRep x y H Q) := OpR.or op_mulW op_rep
theorem od_mul : OpD c W opMul (fun x y H Q => rI CMulW (fun i j => .int (i * j)) x y H Q ∨ rRep x y H Q) := by
  intro Γ S σ H x y v w Q F hx hy P
  unfold opMul at P
  cases hj : asI y with
  | none => rw [hj] at P; exact P.elim
  | some j =>
    rw [hj] at P
    simp only at P
    have hw := asI_rep hy hj
    cases hi : asI x with
    | some i =>
      rw [hi] at P
      simp only at P
      by_cases hz : CMulW i j
      · rw [if_pos hz] at P
        exact .inl ⟨i, j, asI_rep hx hi, hw, hz, Post.ok (c := c) (W := W) P Gh.le.refl F _ RepR.mkI⟩
      · rw [if_neg hz] at P; exact P.elim
    | none =>
      rw [hi] at P
      simp only at P
      cases hl : getM x S with
      | none => rw [hl] at P; exact P.elim
      | some l =>
        rw [hl] at P
        simp only at P
        by_cases hz : -(2 ^ 63) ≤ j ∧ j < 2 ^ 63 ∧ l.length * j.toNat ≤ sizeLine
        · rw [if_pos hz] at P
          obtain ⟨a, vs, rfl, h1, h2⟩ := getM_ok F hx hl
          refine .inr ⟨a, j, vs, rfl, hw, h1, hz.1, hz.2.1, by rw [h2.length]; exact hz.2.2, fun p hp => ?_⟩
          obtain ⟨Γ3, e3, F3, r3⟩ := newL_ok F (h2.rep j.toNat) hp
          exact Post.ok (c := c) (W := W) P e3 F3 _ r3
        · rw [if_neg hz] at P; exact P.elim

/-! ### methods of lists and tuples -/
def isLst (x : R) (S : Sg) : Bool := (getLst x S).isSome
theorem ty_lst (hK : X.K = c.K) : TyD c isLst (tyV X.K "list") := by
  intro Γ S σ H x v F hx h
  unfold isLst at h
  obtain ⟨l, hl⟩ := Option.isSome_iff_exists.mp h
  obtain ⟨a, vs, rfl, h1, h2⟩ := getLst_ok F hx hl
  exact .inl ⟨rfl, vs, hK ▸ h1⟩
def isTup (x : R) (S : Sg) : Bool := match x with
  | .p (.tup _) => true
  | _ => false
theorem ty_tup (hK : X.K = c.K) : TyD c isTup (fun v H => ∃ a vs, v = .ref a ∧ TupS X.K H a vs) := by
  intro Γ S σ H x v F hx h
  cases x with
  | r n => cases h
  | p d =>
    cases d with
    | tup l =>
      obtain ⟨a, vs, e, h1, _⟩ := Rep.tup_iff.mp (RepR.pure.mp hx)
      exact ⟨a, vs, e, hK ▸ TupS.mono F.s.g h1⟩
    | _ => cases h
/-- x.append(y) -/
def opApp : R → List R → M R := fun x xs => match xs with
  | [y] => do
    let d ← pure1 y
    fun S => match x with
      | .r n => match S.st[n]? with
        | some (.mu (.lst l)) => if l.length < sizeLine then .ok (.p .non) { S with st := S.st.set n (.mu (.lst (l ++ [d]))) } else .bad
        | _ => .bad
      | _ => .bad
  | _ => bad
theorem one_arg {Γ : Gh} {y : R} {vs : List V} (h : RepRL c Γ [y] vs) : ∃ v, vs = [v] ∧ RepR c Γ y v := by
  obtain ⟨v, r, rfl, h1, h2⟩ := h
  exact ⟨v, by rw [show r = [] from h2], h1⟩
theorem md_app : MtD c W opApp rAppend := by
  intro Γ S σ H x v xs vs Q F hx hxs P
  cases xs with
  | nil => exact P.elim
  | cons y ys =>
    cases ys with
    | cons z zs => exact P.elim
    | nil =>
      obtain ⟨u, rfl, hu⟩ := one_arg hxs
      obtain ⟨d, Γ2, S2, e2, F2, hd, _, P2⟩ := pure1_ok F hu (Post.bind P)
      cases x with
      | p d => exact P2.elim
      | r n =>
        simp only at P2
        cases hn : S2.st[n]? with
        | none => rw [hn] at P2; exact P2.elim
        | some q =>
          rw [hn] at P2
          cases q with
          | dead => exact P2.elim
          | fz l => exact P2.elim
          | mu o =>
            cases o with
            | dct k => exact P2.elim
            | dt k => exact P2.elim
            | obj k fs => exact P2.elim
            | lst l =>
              simp only at P2
              by_cases hz : l.length < sizeLine
              · rw [if_pos hz] at P2
                obtain ⟨a, ws, rfl, r1, r2, r3, up⟩ := lstC F2 (hx.mono e2) hn
                exact ⟨a, ws, u, rfl, rfl, r2, by rw [r3.length]; exact hz, Post.ok (c := c) (W := W) P2 Gh.le.refl (up _ _ (r3.append (RepL.one hd))) _ RepR.mkN⟩
              · rw [if_neg hz] at P2; exact P2.elim
/-- x.pop(i) -/
def opPopAt : R → List R → M R := fun x xs S => match asI1 xs with
  | some i => match x with
    | .r n => match S.st[n]? with
      | some (.mu (.lst l)) => if -(2 ^ 63) ≤ i ∧ i < 2 ^ 63 then (match seqIndex? i l.length with
        | some k => match l[k]? with
          | some d => .ok (.p d) { S with st := S.st.set n (.mu (.lst (l.eraseIdx k))) }
          | none => .bad
        | none => .bad) else .bad
      | _ => .bad
    | _ => .bad
  | none => .bad
theorem md_popAt : MtD c W opPopAt rPopAt := by
  intro Γ S σ H x v xs vs Q F hx hxs P
  unfold opPopAt at P
  cases hi : asI1 xs with
  | none => rw [hi] at P; exact P.elim
  | some i =>
    rw [hi] at P
    have hv := ints1 hxs hi
    subst hv
    cases x with
    | p d => exact P.elim
    | r n =>
      simp only at P
      cases hn : S.st[n]? with
      | none => rw [hn] at P; exact P.elim
      | some q =>
        rw [hn] at P
        cases q with
        | dead => exact P.elim
        | fz l => exact P.elim
        | mu o =>
          cases o with
          | dct k => exact P.elim
          | dt k => exact P.elim
          | obj k fs => exact P.elim
          | lst l =>
            simp only at P
            by_cases hz : -(2 ^ 63) ≤ i ∧ i < 2 ^ 63
            · rw [if_pos hz] at P
              cases hk : seqIndex? i l.length with
              | none => rw [hk] at P; exact P.elim
              | some k =>
                rw [hk] at P
                simp only at P
                cases hd : l[k]? with
                | none => rw [hd] at P; exact P.elim
                | some d =>
                  rw [hd] at P
                  obtain ⟨a, ws, rfl, r1, r2, r3, up⟩ := lstC F hx hn
                  obtain ⟨u, q1, q2⟩ := r3.get hd
                  exact ⟨a, ws, i, k, u, rfl, rfl, r2, hz.1, hz.2, by rw [r3.length]; exact hk, q1, Post.ok (c := c) (W := W) P Gh.le.refl (up _ _ (r3.eraseIdx k)) u q2⟩
            · rw [if_neg hz] at P; exact P.elim
theorem RepL.dropLast {G : Hp} {ds : List D} {vs : List V} (h : RepL c G ds vs) : RepL c G ds.dropLast vs.dropLast := by
  rw [List.dropLast_eq_take, List.dropLast_eq_take, h.length]
  exact h.take _
/-- the place of an int in ints -/
def intsOf : List D → Option (List Int)
  | [] => some []
  | .int i :: r => match intsOf r with
    | some l => some (i :: l)
    | none => none
  | _ => none
theorem intsOf_some : ∀ {l : List D} {ns : List Int}, intsOf l = some ns → l = ns.map D.int
  | [], ns, h => by cases h; rfl
  | d :: r, ns, h => by
    cases d with
    | int i =>
      unfold intsOf at h
      cases q : intsOf r with
      | none => rw [q] at h; cases h
      | some l => rw [q] at h; cases h; rw [intsOf_some q]; rfl
    | _ => cases h
theorem intsOf_map : ∀ ns : List Int, intsOf (ns.map D.int) = some ns
  | [] => rfl
  | i :: ns => by show intsOf (.int i :: ns.map D.int) = _; unfold intsOf; rw [intsOf_map ns]
/-- the first place of an int -/
def idxOf (ns : List Int) (i : Int) : Option Nat := ns.findIdx? (· == i)
theorem idxOf_spec {ns : List Int} {i : Int} {j : Nat} (h : idxOf ns i = some j) : ns[j]? = some i ∧ ∀ m, m < j → ns[m]? ≠ some i := by
  unfold idxOf at h
  rw [List.findIdx?_eq_some_iff_getElem] at h
  obtain ⟨hj, h1, h2⟩ := h
  refine ⟨by rw [List.getElem?_eq_getElem hj]; exact congrArg some (beq_iff_eq.mp h1), fun m hm e => ?_⟩
  have hml : m < ns.length := by omega
  rw [List.getElem?_eq_getElem hml] at e
  have := h2 m hm
  rw [Option.some.inj e] at this
  exact this (beq_self_eq_true i)
/-- t.index(i) over ints -/
def opIdx : R → List R → M R := fun x xs S => match asI1 xs with
  | some i => match getL x S with
    | some l => match intsOf l with
      | some ns => match idxOf ns i with
        | some j => .ok (.p (.int (j : Nat))) S
        | none => .bad
      | none => .bad
    | none => .bad
  | none => .bad
def rIdxT (K : PySem.W.Frag) : V → List V → Hp → VK → Prop := fun x xs H Q => ∃ p, ∃ ys : List Int, ∃ z j, x = .ref p ∧ xs = [.int z] ∧ SqT K H p (ys.map V.int) ∧ ys[j]? = some z ∧ (∀ m, m < j → ys[m]? ≠ some z) ∧ Q (.int (j : Nat)) H
theorem mt_tup_idx : MtR X "tuple.index" (rIdxT X.K) := by
  intro pins s σ H x xs v us Q I rx rxs h
  obtain ⟨p, ys, z, j, rfl, rfl, hs, hj, hno, q⟩ := h
  cases rx
  cases rxs with
  | cons ru rt =>
    rename_i uy ut
    cases rt
    obtain ⟨t, rfl⟩ := ru
    obtain ⟨its, rv, ⟨⟨cls, dd, data, sl⟩, ho, hc, n, hd⟩, hlen⟩ := I.tuple hs
    simp only at hc hd
    subst hc hd
    have fys : (ys.map V.int).all flatV = true := by rw [List.all_map]; exact List.all_eq_true.mpr fun _ _ => rfl
    obtain ⟨u, hu, ru⟩ := rv.get (i := j) (x := .int z) (by rw [List.getElem?_map, hj]; rfl)
    obtain ⟨hjl, hje⟩ := List.getElem?_eq_some_iff.mp hu
    have hj' : j < its.toArray.size := by simpa using hjl
    refine call_meets PySem.F.slot_tuple_index ⟨_, ho, rfl⟩ PySem.F.entry_tuple_index (PySem.F.args_tuple_index_2 _ _) (TI.tuple_indexAt p its.toArray n dd sl (.int z t) (eqU (.int z)) j hj' ?_ ?_)
      ⟨ho, fun u' hu' => mem_eqAt (x := .int z) ⟨t, rfl⟩ rfl rv fys u' (by simpa using hu'), ?_⟩
    · have e1 : its.toArray[j] = u := by simpa using hje
      rw [e1, eqU_of ru rfl]
      simp [eqV]
    · intro m hm hmj
      have hml : m < its.length := by simpa using hm
      have hvl := rv.length
      have hmy : m < ys.length := by simp at hvl; omega
      obtain ⟨u2, hu2, ru2⟩ := rv.get (i := m) (x := .int ys[m]) (by rw [List.getElem?_map, List.getElem?_eq_getElem hmy]; rfl)
      obtain ⟨_, hme⟩ := List.getElem?_eq_some_iff.mp hu2
      have e1 : its.toArray[m] = u2 := by simpa using hme
      rw [e1, eqU_of ru2 rfl]
      have := hno m hmj
      rw [List.getElem?_eq_getElem hmy] at this
      simp only [eqV]
      exact beq_eq_false_iff_ne.mpr fun e => this (congrArg some e)
    · exact ⟨.int (j : Nat), H, I.tok _, ⟨_, rfl⟩, q⟩
theorem md_idxT (hK : X.K = c.K) : MtD c W (fun x xs S => if isTup x S = true then opIdx x xs S else .bad) (rIdxT X.K) := by
  intro Γ S σ H x v xs vs Q F hx hxs P
  simp only at P
  by_cases ht : isTup x S = true
  · rw [if_pos ht] at P
    cases x with
    | r n => cases ht
    | p d =>
      cases d with
      | tup l =>
        unfold opIdx at P
        cases hi : asI1 xs with
        | none => rw [hi] at P; exact P.elim
        | some i =>
          rw [hi] at P
          have hv := ints1 hxs hi
          subst hv
          have P : Post c W σ Γ (match intsOf l with
            | some ns => match idxOf ns i with
              | some j => Res.ok (R.p (.int (j : Nat))) S
              | none => .bad
            | none => .bad) (fun z S' Γ' H' => ∀ u, RepR c Γ' z u → Q u H') := P
          cases hn : intsOf l with
          | none => rw [hn] at P; exact P.elim
          | some ns =>
            rw [hn] at P
            simp only at P
            cases hj : idxOf ns i with
            | none => rw [hj] at P; exact P.elim
            | some j =>
              rw [hj] at P
              obtain ⟨a, ws, rfl, h1, h2⟩ := Rep.tup_iff.mp (RepR.pure.mp hx)
              rw [intsOf_some hn] at h2
              rw [h2.ints] at h1
              obtain ⟨k1, k2⟩ := idxOf_spec hj
              exact ⟨a, ns, i, j, rfl, rfl, hK ▸ (TupS.mono F.s.g h1).sq, k1, k2, Post.ok (c := c) (W := W) P Gh.le.refl F _ RepR.mkI⟩
      | _ => cases ht
  · rw [if_neg ht] at P; exact P.elim
end
end Dd

set_option Elab.async false
set_option linter.all false
set_option maxRecDepth 100000
namespace Dd
open PySem PySem.Spec PyProof.Rows L2

/-! ### methods with what is raised at the caller's slots -/
section
variable {X : Cx} {k : Nat} {f C : Addr} {fd : FuncData} {ps : List Str} {sp : Sp} {E : L2.St → XK} {x m : Str} {p pos apos : Pos} {e o : Expr} {es : List Expr} {ta : TE} {t : TA}
def tMethS (C : Addr) (m : Str) (sp : Sp) (E : L2.St → XK) (ta : TE) (t : TA) : TE := fun σ H Q => ta σ H fun x H1 => ∃ a dx fs, x = .ref a ∧ H1 a = some (.ins C dx fs) ∧ fs.lookup m = none ∧ t σ H1 fun vs H2 => sp (x :: vs) H2 Q (E σ)
theorem pe_methS {pl : Sem Bool} (he : PE X o ta) (c : Cls X.K C) (hm : Meth X.K C m f) (F : FnG X.prog X.w X.K X.mg X.base k f fd ps sp) (hG : X.A.guards = some []) (hr : Room k X.A) (hb : Binds X.K fd ps []) (hx : ∀ σ, PassesAt (L2.CX X.prog X.w) X σ (E σ)) (ha : PA X (e :: es) t)
    (hst : starEach (e :: es) X.env = (false, eval e X.env) :: starEach es X.env := by rfl) (hpl : (backTo pos (starEach es X.env)).any (·.1) = false := by rfl)
    (ht : eval (.Call (.Attribute o m apos) (e :: es) [] pos) X.env = (do
      let ov ← eval o X.env
      standAt apos.atName
      let (f, first) ← holding [ov] (getMethod ov m pl)
      callWith pos f first (backTo pos (starEach (e :: es) X.env)) (backToKw pos (keywordEach [] X.env))) := by rfl) :
    PE X (.Call (.Attribute o m apos) (e :: es) [] pos) (tMethS C m sp E ta t) := by
  refine ⟨fun pins s σ H Q I h => ?_⟩
  refine PySem.W.methodCall_KW (pl := pl) (thn (he.run pins s σ H _ I h) fun u s1 ⟨x, H1, I1, rx, a, dx, fs, ex, ea, l, q⟩ => ?_) ht
  subst ex
  obtain rfl : u = Value.ref a := rx
  refine getmeth_ok I1 ea c hm l ?_
  refine PySem.W.callWith_K (first := [.ref a]) (h₀ := X.base) I.ok.mod.kin hm.kp (thn (ha.run pos pins s1 σ H1 _ I1 q) fun us s2 ⟨vs, H2, I2, r, q2⟩ => ⟨I2.kIn, ?_⟩) hst hpl
  exact run_fnG (us := .ref a :: us) (vs := .ref a :: vs) F hG hr hb (hx σ) I2 (.cons rfl r) q2
def tMakeS (C : Addr) (sp : Sp) (E : L2.St → XK) (t : TA) : TE := fun σ H Q => t σ H fun vs H1 => ∀ x dx, H1 x = none → H1 dx = none → dx ≠ x →
  sp (.ref x :: vs) (upd (upd H1 dx (.own x)) x (.ins C dx [])) (fun v H2 => v = .non ∧ Q (.ref x) H2) (E σ)
theorem run_makeS {pins : List (Addr × Obj)} {σ : L2.St} {H : Hp} {s : Shared} {Q : VK} {us : List Value} {vs : List V} {E : XK} (M : Mk X.K C f) (F : FnG X.prog X.w X.K X.mg X.base k f fd ps sp) (hG : X.A.guards = some []) (hr : Room (k + 1) X.A) (hb : Binds X.K fd ps [])
    (hx : PassesAt (L2.CX X.prog X.w) X σ E) (I : L2.Inv X pins σ H s) (r : Vals vs us)
    (h : ∀ x dx, H x = none → H dx = none → dx ≠ x → sp (.ref x :: vs) (upd (upd H dx (.own x)) x (.ins C dx [])) (fun v H2 => v = .non ∧ Q (.ref x) H2) E) :
    wpAny (model X.prog X.w) X.A (call (.ref C) us) (EP X pins σ Q) X.xe s := by
  have hq := h (s.heap.objs.size + 1) s.heap.objs.size (I.hok.fresh (Nat.le_succ _)) (I.hok.fresh (Nat.le_refl _)) (Nat.ne_of_lt (Nat.lt_succ_self _))
  have I2 := L2.Inv.made (C := C) I
  have r2 : Vals (V.ref (s.heap.objs.size + 1) :: vs) (Value.ref (s.heap.objs.size + 1) :: us) := .cons rfl r
  have hl : (Value.ref (s.heap.objs.size + 1) :: us).length = ps.length := by
    have e := r2.length
    rw [F.len _ _ _ _ hq] at e
    exact e.symm
  have hbb := hb _ (Value.ref (s.heap.objs.size + 1) :: us) I2.kIn (by rw [List.append_nil]; exact hl)
  rw [List.append_nil] at hbb
  refine wpAny_call (make_map (f := f) I.kIn M.makes M.init (beq_iff_eq.mp M.fn) (codeAny_mono (F.run _ X.stack _ _ ⟨Value.ref (s.heap.objs.size + 1) :: us, []⟩ (Value.ref (s.heap.objs.size + 1) :: us) _ _ E hG (hr.make C us [])
    (I2.env0.make C us []) hbb r2 hq) fun r s' hq' => ?_))
  cases r with
  | error e => exact hx pins _ _ e s' I2 hq'
  | ok fl =>
    cases fl with
    | ret u =>
      obtain ⟨v, H', I3, rv, ev, q3⟩ := I2.after hq'
      subst ev
      exact ⟨rv, ⟨V.ref (s.heap.objs.size + 1), H', I3, rfl, q3⟩⟩
    | next => exact False.elim hq'
    | brk => exact False.elim hq'
    | cont => exact False.elim hq'
theorem pe_makeS (M : Mk X.K C f) (F : FnG X.prog X.w X.K X.mg X.base k f fd ps sp) (hG : X.A.guards = some []) (hr : Room (k + 1) X.A) (hg : Gl X x) (hm : X.mg x = some (.ref C)) (hb : Binds X.K fd ps []) (hx : ∀ σ, PassesAt (L2.CX X.prog X.w) X σ (E σ))
    (ha : PA X (e :: es) t) (hdb : (x == ("__debug__" : Str)) = false := by decide) (he : starEach (e :: es) X.env = (false, eval e X.env) :: starEach es X.env := by rfl) (hpl : (backTo pos (starEach es X.env)).any (·.1) = false := by rfl) :
    PE X (.Call (.Name x p) (e :: es) [] pos) (tMakeS C sp E t) := by
  refine ⟨fun pins s σ H Q I h => ?_⟩
  refine wpAny_Call_Name_kw (ld_glob I hg hm ?_ hdb)
  refine PySem.W.callWith_K (h₀ := X.base) I.ok.mod.kin M.kp (thn (ha.run pos pins s σ H _ I h) fun us s1 ⟨vs, H1, I1, r, q⟩ => ⟨I1.kIn, ?_⟩) he hpl
  exact run_makeS M F hG hr hb (hx σ) I1 r q
theorem getprop_okG {C pA gA a dx : Addr} {fs : List (Str × V)} {f' : Str} {fd : FuncData} {ps : List Str} {sp : Sp} {E : XK} {pins : List (Addr × Obj)} {σ : L2.St} {H : Hp} {s : Shared} {Q : VK} {b : Bool} {E' : Value → Shared → Prop} (I : L2.Inv X pins σ H s) (ea : H a = some (.ins C dx fs)) (cl : Cls X.K C) (hp : PropOf X.K C f' pA gA)
    (F : FnG X.prog X.w X.K X.mg X.base k gA fd ps sp) (hG : X.A.guards = some []) (hr : Room (k + 1) X.A) (hb : Binds X.K fd ps []) (hx : Passes (L2.CX X.prog X.w) X.nox E) (h : sp [.ref a] H Q E) :
    wpAny (model X.prog X.w) X.A (getAttr (.ref a) f' b) (EP X pins σ Q) E' s := by
  obtain ⟨mA, O, _, _, _, _⟩ := ins_get I.hok ea
  obtain ⟨od, J, _⟩ := O.look
  obtain ⟨rest, hrec⟩ := hp.rec_
  have I1 := I.tok (s.toks + 1)
  have hl : ([Value.ref a] ++ []).length = ps.length := by
    rw [← F.len _ _ _ _ h]
    rfl
  have hc : (PySem.W.clsIn X.K C).isSome = true := by
    obtain ⟨cd, hc, _⟩ := PySem.W.any_some cl.hd
    rw [hc]
    rfl
  refine PySem.W.get_bind I.kIn J (PySem.W.plainGet_of (cl.get f')).1 (PySem.W.findObj_data hc hp.at_ hp.get hp.tak) (PySem.W.plainGet_of (cl.get f')).2 (wpAny_call (PySem.W.prop_get (s := { s with toks := s.toks + 1 }) I.kIn hrec ?_))
  refine codeAny_mono (F.run X.A.in1 X.stack { s with toks := s.toks + 1 } H ⟨[.ref a], []⟩ (.ref a :: []) (.ref a :: []) Q E hG hr.in1 I1.env0.in1 (hb _ [.ref a] I1.kIn hl) (.cons rfl .nil) h) fun r s' hq => ?_
  cases r with
  | error er => exact False.elim (hx pins σ H { s with toks := s.toks + 1 } er s' (I1.wish _) hq)
  | ok fl =>
    cases fl with
    | ret u =>
      obtain ⟨v, H', I3, rv, q3⟩ := I1.after hq
      show wpAny _ _ (handedOut u) _ _ _
      rw [PySem.W.handedOut_of (handed_of rv)]
      exact wpAny_pure ⟨v, H', I3, rv, q3⟩
    | next => exact False.elim hq
    | brk => exact False.elim hq
    | cont => exact False.elim hq
theorem pe_propG {C pA gA : Addr} {f' : Str} {E : XK} (he : PE X e ta) (cl : Cls X.K C) (hp : PropOf X.K C f' pA gA) (F : FnG X.prog X.w X.K X.mg X.base k gA fd ps sp) (hG : X.A.guards = some []) (hr : Room (k + 1) X.A) (hb : Binds X.K fd ps []) (hx : Passes (L2.CX X.prog X.w) X.nox E)
    (hab : attributeBase e f' X.env (eval e X.env) = eval e X.env) : PE X (.Attribute e f' pos) (tProp C sp [] E ta) := by
  refine ⟨fun pins s σ H Q I h => ?_⟩
  refine attr_of hab (thn (he.run pins s σ H _ I h) fun u s1 ⟨x, H1, I1, rx, a, dx, fs, ex, ea, q⟩ => ?_)
  subst ex
  obtain rfl : u = Value.ref a := rx
  exact getprop_okG I1 ea cl hp F hG hr hb hx q
end

/-! ### instances -/
/-- the class and the attributes of an instance -/
def insOf (x : R) (S : Sg) : Option (Nat × List (Str × D)) := match x with
  | .p (.scr l) => some (0, [("own_levels", .tup l)])
  | .p _ => none
  | .r n => match S.st[n]? with
    | some (.mu (.obj k fs)) => some (k, fs)
    | _ => none
section
variable {X : Cx} {c : Cg} {W : WX} {e o : Expr} {es : List Expr} {f fv : M R} {g : M (List R)} {pos p apos : Pos} {F : Fn} {n k K' : Nat} {fA : Addr} {fd : FuncData} {ps : List Str} {x m : Str}
theorem RepF.lookup {Γ : Gh} {a : Addr} : ∀ {fs : List (Str × D)} {vs : List (Str × V)} (m : Str), RepF c Γ a fs vs → (fs.lookup m = none → vs.lookup m = none) ∧ ∀ d, fs.lookup m = some d → ∃ v, vs.lookup m = some v ∧ RepX c Γ a m d v
  | [], vs, m, h => by
    have : vs = [] := h
    subst this
    exact ⟨fun _ => rfl, fun d h => by cases h⟩
  | (y, d') :: fs, vs, m, h => by
    obtain ⟨v, r, rfl, h1, h2⟩ := h
    by_cases e : m = y
    · subst e
      rw [List.lookup_cons_self, List.lookup_cons_self]
      exact ⟨fun h => by simp at h, fun d h => ⟨v, rfl, by cases h; exact h1⟩⟩
    · have eb : (m == y) = false := beq_eq_false_iff_ne.mpr e
      rw [List.lookup_cons, List.lookup_cons, eb]
      exact RepF.lookup m h2
theorem insOf_ok {Γ : Gh} {S : Sg} {σ : L2.St} {H : Hp} {v : V} {k : Nat} {fs : List (Str × D)} (Fo : FrOk c Γ S σ H) (hv : RepR c Γ x' v) (h : insOf x' S = some (k, fs)) :
    ∃ a dx vs, v = .ref a ∧ H a = some (.ins (c.cls k) dx vs) ∧ RepF c Γ a fs vs := by
  cases x' with
  | p d =>
    cases d with
    | scr l =>
      cases h
      obtain ⟨a, dx, b, vs, h1, h2, h3, h4⟩ := Rep.scr_iff.mp (RepR.pure.mp hv)
      exact ⟨a, dx, _, h1, Fo.s.g _ _ h2, .ref b, [], rfl, Rep.tup_iff.mpr ⟨b, vs, rfl, h3, h4⟩, rfl⟩
    | _ => cases h
  | r n =>
    unfold insOf at h
    simp only at h
    split at h
    · rename_i k' fs' e
      cases h
      obtain ⟨a, h1, h2⟩ := hv
      obtain ⟨u, q1, ⟨dx, vs, rfl, q2, _⟩, _⟩ := Fo.s.cell n _ a e h1
      exact ⟨a, dx, vs, h2, q1, q2⟩
    · cases h
/-- o.m(..), o of the class k -/
def methU (k : Nat) (m : Str) (F : Fn) (n : Nat) (f : M R) (g : M (List R)) : M R := do
  let x ← f
  fun S => match insOf x S with
    | some (k', fs) => if k' = k ∧ fs.lookup m = none then callM F n (do
        let xs ← g
        pure (x :: xs)) S else .bad
    | none => .bad
theorem methU_read {σ : L2.St} {H : Hp} {Q : VK} (q : rdE c W (methU k m F n f g) σ H Q) : tMethS (c.cls k) m (spF c n F) (WE W) (rdE c W f) (rdA c W g) σ H Q := by
  obtain ⟨Γ, S, Fo, P⟩ := q
  refine ⟨Γ, S, Fo, (Post.bind P).imp fun x S1 Γ1 H1 e1 F1 ⟨_, P1⟩ v hv => ?_⟩
  cases hi : insOf x S1 with
  | none => rw [hi] at P1; exact P1.elim
  | some kf =>
    obtain ⟨k', fs⟩ := kf
    rw [hi] at P1
    simp only at P1
    by_cases hk : k' = k ∧ fs.lookup m = none
    · rw [if_pos hk] at P1
      obtain ⟨rfl, hl⟩ := hk
      obtain ⟨a, dx, vs, rfl, h1, h2⟩ := insOf_ok F1 hv hi
      refine ⟨a, dx, vs, rfl, h1, (h2.lookup m).1 hl, Γ1, S1, F1, ?_⟩
      refine (Post.bind (Post.bind P1)).imp fun xs S2 Γ2 H2 e2 F2 ⟨_, P2⟩ ws hws => ?_
      obtain ⟨_, P3⟩ := Post.ok (c := c) (W := W) P2 Gh.le.refl F2
      by_cases hn : (x :: xs).length = n
      · rw [if_pos hn] at P3
        have hall : RepRL c Γ2 (x :: xs) (.ref a :: ws) := ⟨.ref a, ws, rfl, hv.mono e2, hws⟩
        exact ⟨x :: xs, Γ2, S2.st, by rw [hall.length, hn], hall, F2.s, applyF_ok F2 P3⟩
      · rw [if_neg hn] at P3; exact P3.elim
    · rw [if_neg hk] at P1; exact P1.elim
theorem se_meth {pl : Sem Bool} (ho : PE X o (rdE c W f)) (cl : Cls X.K (c.cls k)) (hm : Meth X.K (c.cls k) m fA) (Fk : FnG X.prog X.w X.K X.mg X.base K' fA fd ps (spF c n F)) (hG : X.A.guards = some []) (hr : Room K' X.A) (hb : Binds X.K fd ps []) (tk : Takes X W) (ha : PA X (e :: es) (rdA c W g))
    (hst : starEach (e :: es) X.env = (false, eval e X.env) :: starEach es X.env := by rfl) (hpl : (backTo pos (starEach es X.env)).any (·.1) = false := by rfl)
    (ht : eval (.Call (.Attribute o m apos) (e :: es) [] pos) X.env = (do
      let ov ← eval o X.env
      standAt apos.atName
      let (f, first) ← holding [ov] (getMethod ov m pl)
      callWith pos f first (backTo pos (starEach (e :: es) X.env)) (backToKw pos (keywordEach [] X.env))) := by rfl) :
    PE X (.Call (.Attribute o m apos) (e :: es) [] pos) (rdE c W (methU k m F n f g)) :=
  se_of (pe_methS ho cl hm Fk hG hr hb (fun σ => passAt tk σ) ha hst hpl ht) fun σ H Q q => methU_read q
/-- o.f, a property of the class k: nothing is raised -/
def propU (k : Nat) (F : Fn) (f : M R) : M R := do
  let x ← f
  fun S => match insOf x S with
    | some (k', _) => if k' = k then (match F [x] S.st with
      | .exc _ _ => .bad
      | r => applyF S r) else .bad
    | none => .bad
theorem se_prop {f' : Str} {pA gA : Addr} (ho : PE X o (rdE c W f)) (cl : Cls X.K (c.cls k)) (hp : PropOf X.K (c.cls k) f' pA gA) (Fk : FnG X.prog X.w X.K X.mg X.base K' gA fd ps (spF c 1 F)) (hG : X.A.guards = some []) (hr : Room (K' + 1) X.A) (hb : Binds X.K fd ps [])
    (hab : attributeBase o f' X.env (eval o X.env) = eval o X.env := by rfl) : PE X (.Attribute o f' pos) (rdE c W (propU k F f)) :=
  se_of (pe_propG ho cl hp Fk hG hr hb (passL (X := X.nox)) hab) fun σ H Q q => by
    obtain ⟨Γ, S, Fo, P⟩ := q
    refine ⟨Γ, S, Fo, (Post.bind P).imp fun x S1 Γ1 H1 e1 F1 ⟨_, P1⟩ v hv => ?_⟩
    cases hi : insOf x S1 with
    | none => rw [hi] at P1; exact P1.elim
    | some kf =>
      obtain ⟨k', fs⟩ := kf
      rw [hi] at P1
      simp only at P1
      by_cases hk : k' = k
      · rw [if_pos hk] at P1
        subst hk
        obtain ⟨a, dx, vs, rfl, h1, h2⟩ := insOf_ok F1 hv hi
        refine ⟨a, dx, vs, rfl, h1, [x], Γ1, S1.st, rfl, ⟨.ref a, [], rfl, hv, rfl⟩, F1.s, ?_⟩
        cases hF : F [x] S1.st with
        | bad => rw [hF] at P1; exact P1.elim
        | exc y st => rw [hF] at P1; exact P1.elim
        | ok r st =>
          rw [hF] at P1
          have := applyF_ok (r := .ok r st) F1 P1
          cases r with
          | val d => exact this
          | new o => exact this
      · rw [if_neg hk] at P1; exact P1.elim
/-- .. pure data -/
def atD : D → Option D
  | .ol _ => none
  | d => some d
theorem atD_some {d e : D} (h : atD d = some e) : e = d ∧ ∀ {Γ : Gh} {a : Addr} {n : Str} {v : V}, RepX c Γ a n d v → Rep c Γ.G d v := by
  cases d <;> first | (cases h; done) | (cases h; exact ⟨rfl, fun h => h⟩)
/-- o.f, an attribute that is kept in the instance -/
def attrU (k : Nat) (f' : Str) (f : M R) : M R := do
  let x ← f
  fun S => match insOf x S with
    | some (k', fs) => if k' = k then (match (fs.lookup f').bind atD with
      | some d => .ok (.p d) S
      | none => .bad) else .bad
    | none => .bad
theorem se_attr {f' : Str} (hK : X.K = c.K) (ho : PE X o (rdE c W f)) (cl : Cls X.K (c.cls k)) (na : NoAttr X.K (c.cls k) f') (hab : attributeBase o f' X.env (eval o X.env) = eval o X.env := by rfl) : PE X (.Attribute o f' pos) (rdE c W (attrU k f' f)) :=
  se_of (pe_fld ho hab) fun σ H Q q => by
    obtain ⟨Γ, S, Fo, P⟩ := q
    refine ⟨Γ, S, Fo, (Post.bind P).imp fun x S1 Γ1 H1 e1 F1 ⟨_, P1⟩ v hv => ?_⟩
    cases hi : insOf x S1 with
    | none => rw [hi] at P1; exact P1.elim
    | some kf =>
      obtain ⟨k', fs⟩ := kf
      rw [hi] at P1
      simp only at P1
      by_cases hk : k' = k
      · rw [if_pos hk] at P1
        subst hk
        cases hd : fs.lookup f' with
        | none => rw [hd] at P1; exact P1.elim
        | some d =>
          rw [hd] at P1
          obtain ⟨a, dx, vs, rfl, h1, h2⟩ := insOf_ok F1 hv hi
          obtain ⟨u, q1, q2⟩ := (h2.lookup f').2 d hd
          cases hx : atD d with
          | none => simp only [Option.bind_some, hx] at P1; exact P1.elim
          | some e =>
            simp only [Option.bind_some, hx] at P1
            obtain ⟨rfl, hr⟩ := atD_some (c := c) hx
            exact ⟨a, _, dx, vs, u, rfl, h1, cl, na, q1, Post.ok (c := c) (W := W) P1 Gh.le.refl F1 u (hr q2)⟩
      · rw [if_neg hk] at P1; exact P1.elim
/-- o.f = e -/
def putD (f : Str) (d : D) : List (Str × D) → List (Str × D)
  | [] => [(f, d)]
  | (g, x) :: r => if g = f then (g, d) :: r else (g, x) :: putD f d r
theorem putD_names (f : Str) (d : D) : ∀ fs : List (Str × D), ((putD f d fs).map (·.1) = fs.map (·.1)) ∨ (f ∉ fs.map (·.1) ∧ (putD f d fs).map (·.1) = fs.map (·.1) ++ [f])
  | [] => .inr ⟨by simp, rfl⟩
  | (g, x) :: r => by
    unfold putD
    by_cases e : g = f
    · rw [if_pos e]; exact .inl rfl
    · rw [if_neg e]
      rcases putD_names f d r with h | ⟨h1, h2⟩
      · exact .inl (by rw [List.map_cons, h, List.map_cons])
      · exact .inr ⟨by simp only [List.map_cons, List.mem_cons, not_or]; exact ⟨fun z => e z.symm, h1⟩, by rw [List.map_cons, h2, List.map_cons, List.cons_append]⟩
theorem putD_nodup {f : Str} {d : D} {fs : List (Str × D)} (h : (fs.map (·.1)).Nodup) : ((putD f d fs).map (·.1)).Nodup := by
  rcases putD_names f d fs with e | ⟨e1, e2⟩
  · rw [e]; exact h
  · rw [e2, List.nodup_append]
    exact ⟨h, by simp, fun a ha b hb => by simp at hb; subst hb; exact fun z => e1 (z ▸ ha)⟩
theorem RepF.put {Γ : Gh} {a : Addr} {f : Str} {d : D} {v : V} (h : RepX c Γ a f d v) : ∀ {fs : List (Str × D)} {vs : List (Str × V)}, RepF c Γ a fs vs → RepF c Γ a (putD f d fs) (putF f v vs)
  | [], vs, q => by
    have : vs = [] := q
    subst this
    exact ⟨v, [], rfl, h, rfl⟩
  | (g, x) :: r, vs, q => by
    obtain ⟨u, r', rfl, h1, h2⟩ := q
    unfold putD putF
    by_cases e : g = f
    · rw [if_pos e, if_pos e]; subst e; exact ⟨v, r', rfl, h, h2⟩
    · rw [if_neg e, if_neg e]; exact ⟨u, _, rfl, h1, RepF.put h h2⟩
theorem RepF.length {Γ : Gh} {a : Addr} : ∀ {fs : List (Str × D)} {vs : List (Str × V)}, RepF c Γ a fs vs → vs.length = fs.length
  | [], vs, q => by rw [show vs = [] from q]; rfl
  | (g, x) :: r, vs, q => by
    obtain ⟨u, r', rfl, h1, h2⟩ := q
    simp [RepF.length h2]
def sFld (k : Nat) (f' : Str) (fo f : M R) : M Fl := do
  let x ← f
  let d ← pure1 x
  let o ← fo
  fun S => match o with
    | .r n => match S.st[n]? with
      | some (.mu (.obj k' fs)) => if k' = k ∧ fs.length < 900 then .ok .nx { S with st := S.st.set n (.mu (.obj k' (putD f' d fs))) } else .bad
      | _ => .bad
    | _ => .bad
end
end Dd

set_option Elab.async false
set_option linter.all false
set_option maxRecDepth 100000
namespace Dd
open PySem PySem.Spec PyProof.Rows L2

section
variable {X : Cx} {c : Cg} {W : WX} {e o a b : Expr} {es : List Expr} {f fo fv fa fb : M R} {g : M (List R)} {pos pos' p apos : Pos} {F : Fn} {n k K' : Nat} {fA : Addr} {fd : FuncData} {ps : List Str} {x m : Str}
theorem ss_fld {f' : Str} (hv : PE X e (rdE c W f)) (ho : PE X o (rdE c W fo)) (cl : Cls X.K (c.cls k)) (na : NoAttr X.K (c.cls k) f') (hs : swapsWith e (some (.Attribute o f' pos')) pos.line X.env = pure false := by rfl) : PS X (.Assign [.Attribute o f' pos'] e pos) (rdS c W (sFld k f' fo f)) :=
  ss_of (ps_fld ho hv hs) fun E σ H q => by
    obtain ⟨Γ, S, Fo, P⟩ := q
    refine ⟨Γ, S, Fo, (PostS.bindE P).imp fun x S1 Γ1 H1 e1 F1 ⟨_, P1⟩ v hv => ?_⟩
    obtain ⟨d, Γ2, S2, e2, F2, hd, _, P2⟩ := pure1_ok F1 hv (PostS.bindE P1)
    refine ⟨Γ2, S2, F2, (PostS.bindE P2).imp fun ox S3 Γ3 H3 e3 F3 ⟨_, P3⟩ ov hov => ?_⟩
    cases ox with
    | p d => exact P3.elim
    | r n =>
      simp only at P3
      cases hn : S3.st[n]? with
      | none => rw [hn] at P3; exact P3.elim
      | some y =>
        rw [hn] at P3
        cases y with
        | dead => exact P3.elim
        | fz l => exact P3.elim
        | mu u =>
          cases u with
          | dct k => exact P3.elim
          | dt k => exact P3.elim
          | lst k => exact P3.elim
          | obj k' fs =>
            simp only at P3
            by_cases hk : k' = k ∧ fs.length < 900
            · rw [if_pos hk] at P3
              obtain ⟨rfl, hl⟩ := hk
              obtain ⟨a, ha, rfl⟩ := hov
              obtain ⟨u, q1, ⟨dx, vs, rfl, q2, q3⟩, _⟩ := F3.s.cell n _ a hn ha
              refine ⟨a, _, dx, vs, rfl, q1, cl, na, by rw [q2.length]; omega, ?_⟩
              exact P3 Γ3 σ _ Gh.le.refl (F3.of Gh.le.refl (F3.s.setC hn ha ⟨dx, _, rfl, q2.put (RepX.of (Rep.mono e3.g hd)), putD_nodup q3⟩))
            · rw [if_neg hk] at P3; exact P3.elim
/-- C(..): a new object's cell, then __init__ -/
def makeU (k : Nat) (F : Fn) (n : Nat) (g : M (List R)) : M R := do
  let xs ← g
  fun S => if xs.length + 1 = n then (match F (.r S.st.length :: xs) (S.st ++ [.mu (.obj k [])]) with
    | .ok (.val .non) st => .ok (.r S.st.length) { S with st := st }
    | .exc x st => .exc x { S with st := st }
    | _ => .bad) else .bad
theorem StOk.ext {Γ : Gh} {st : Store} {H H' : Hp} (F : StOk c Γ st H) (e : Ext H H') : StOk c Γ st H' :=
  ⟨F.g.trans e, F.l.trans e, F.gl, F.len, fun n x a e1 e2 => by
    have q := F.cell n x a e1 e2
    cases x with
    | mu o => obtain ⟨u, q1, q2⟩ := q; exact ⟨u, e _ _ q1, q2⟩
    | fz l => exact q
    | dead => trivial, F.inj, fun b a f ws q => let ⟨k1, k2⟩ := F.own b a f ws q; ⟨e _ _ k1, k2⟩⟩
theorem makeU_read {σ : L2.St} {H : Hp} {Q : VK} (q : rdE c W (makeU k F n g) σ H Q) : tMakeS (c.cls k) (spF c n F) (WE W) (rdA c W g) σ H Q := by
  obtain ⟨Γ, S, Fo, P⟩ := q
  refine ⟨Γ, S, Fo, (Post.bind P).imp fun xs S1 Γ1 H1 e1 F1 ⟨_, P1⟩ vs hvs => ?_⟩
  by_cases hn : xs.length + 1 = n
  · rw [if_pos hn] at P1
    intro y dx hy hdx hne
    have hy' : upd H1 dx (.own y) y = none := by rw [upd_ne (Ne.symm hne)]; exact hy
    have F2 := (F1.s.ext (Ext.upd (o := .own y) hdx)).newC (p := y) (o := .obj k []) (u := .ins (c.cls k) dx []) hy' ⟨dx, [], rfl, rfl, by simp⟩
    have hself : RepR c { Γ1 with ρ := Γ1.ρ ++ [y] } (.r S1.st.length) (.ref y) := ⟨y, by show (Γ1.ρ ++ [y])[S1.st.length]? = some y; rw [F1.s.len]; simp, rfl⟩
    refine ⟨.r S1.st.length :: xs, { Γ1 with ρ := Γ1.ρ ++ [y] }, S1.st ++ [.mu (.obj k [])], by simp [hvs.length, hn], ⟨.ref y, vs, rfl, hself, hvs.mono le_app⟩, F2, ?_⟩
    cases hF : F (.r S1.st.length :: xs) (S1.st ++ [.mu (.obj k [])]) with
    | bad => rw [hF] at P1; exact P1.elim
    | exc y' st =>
      rw [hF] at P1
      exact fun Γ' H' cls dd le s q => P1 Γ' H' cls dd (le_app.trans le) (F1.of (le_app.trans le) s) q
    | ok r st =>
      rw [hF] at P1
      cases r with
      | new o => exact P1.elim
      | val d =>
        cases d with
        | non =>
          intro Γ' H' v le s q
          have e3 : Γ1.le Γ' := le_app.trans le
          exact ⟨Rep.non_iff.mp q, Post.ok (c := c) (W := W) P1 e3 (F1.of e3 s) (.ref y) (hself.mono le)⟩
        | _ => exact P1.elim
  · rw [if_neg hn] at P1; exact P1.elim
theorem se_make (M : Mk X.K (c.cls k) fA) (Fk : FnG X.prog X.w X.K X.mg X.base K' fA fd ps (spF c n F)) (hG : X.A.guards = some []) (hr : Room (K' + 1) X.A) (hg : Gl X x) (hm : X.mg x = some (.ref (c.cls k))) (hb : Binds X.K fd ps []) (tk : Takes X W)
    (ha : PA X (e :: es) (rdA c W g)) (hdb : (x == ("__debug__" : Str)) = false := by decide) (he : starEach (e :: es) X.env = (false, eval e X.env) :: starEach es X.env := by rfl) (hpl : (backTo pos (starEach es X.env)).any (·.1) = false := by rfl) :
    PE X (.Call (.Name x p) (e :: es) [] pos) (rdE c W (makeU k F n g)) :=
  se_of (pe_makeS M Fk hG hr hg hm hb (fun σ => passAt tk σ) ha hdb he hpl) fun σ H Q q => makeU_read q
end

/-! ### kinds, isinstance -/
/-- the built-in type of a value; a screen's class is none -/
def kindD : D → Option String
  | .non => some "NoneType"
  | .bl _ => some "bool"
  | .int _ => some "int"
  | .str _ => some "str"
  | .tup _ => some "tuple"
  | .lst _ => some "list"
  | .edct => some "dict"
  | .scp _ => none
  | .scr _ => none
  | .exn _ _ => none
  | .fn _ => none
  | .opq _ => none
  | .ol _ => none
  | .dd _ => none
def kindR (x : R) (S : Sg) : Option String := match x with
  | .p d => kindD d
  | .r n => match S.st[n]? with
    | some (.mu (.lst _)) => some "list"
    | some (.fz _) => some "list"
    | some (.mu (.dct _)) => some "dict"
    | _ => none
/-- what is known of an own class among the built-in ones -/
structure ClsF (K : PySem.W.Frag) (C : Addr) : Prop where
  cl : Cls K C
  ha : PySem.W.findIn K (.ref C) "__class__" = some (some (.builtin "object.__class__"))
  hn : PySem.W.specialIn K (.builtin "object.__class__") "__get__" = some (some (.builtin "getset_descriptor.__get__"))
  tk : PySem.W.takesIn K (.builtin "object.__class__") = some true
  mro : PySem.W.mroIn K C (.type "object") = some true
  self : PySem.W.kitOne K (.ref C) (.ref C) = some true
  isNo : ∀ t ∈ ["NoneType", "bool", "int", "str", "tuple", "list", "dict"], PySem.W.kitOne K (.type t) (.ref C) = some false
  noIs : ∀ t ∈ ["bool", "int", "str", "tuple", "list", "dict"], PySem.W.kitOne K (.ref C) (.type t) = some false
  noSub : ∀ t ∈ ["NoneType", "bool", "int", "str", "tuple", "list", "dict"], PySem.W.subIn K (.type t) (.ref C) = some false
section
variable {X : Cx} {c : Cg} {W : WX} {Γ : Gh} {S : Sg} {σ : L2.St} {H : Hp}
theorem kindD_ok {d : D} {v : V} {t : String} (F : FrOk c Γ S σ H) (hv : Rep c Γ.G d v) (h : kindD d = some t) : TyX c.K H v (.type t) := by
  cases d with
  | non => cases h; rw [Rep.non_iff.mp hv]; exact .base .non
  | bl b => cases h; rw [Rep.bl_iff.mp hv]; exact .base (.bl b)
  | int i => cases h; rw [Rep.int_iff.mp hv]; exact .base (.int i)
  | str s => cases h; rw [Rep.str_iff.mp hv]; exact .base (.str s)
  | tup l =>
    cases h
    obtain ⟨a, vs, rfl, h1, h2⟩ := Rep.tup_iff.mp hv
    rcases h1 with ⟨o, h1, _⟩ | ⟨o, its, n, h1, h2, _⟩
    · exact .fTuple (F.s.g _ _ h1)
    · exact .kTuple h1 h2
  | lst l =>
    cases h
    obtain ⟨a, vs, rfl, h1, h2⟩ := Rep.lst_iff.mp hv
    exact .base (.lst (F.s.g _ _ h1))
  | edct =>
    cases h
    obtain ⟨a, rfl, h1⟩ := Rep.edct_iff.mp hv
    exact .base (.dK (F.s.g _ _ h1))
  | _ => cases h
theorem kindR_ok {x : R} {v : V} {t : String} (F : FrOk c Γ S σ H) (hv : RepR c Γ x v) (h : kindR x S = some t) : TyX c.K H v (.type t) := by
  cases x with
  | p d => exact kindD_ok F hv h
  | r n =>
    obtain ⟨a, ha, rfl⟩ := hv
    unfold kindR at h
    simp only at h
    cases hn : S.st[n]? with
    | none => rw [hn] at h; cases h
    | some y =>
      rw [hn] at h
      cases y with
      | dead => cases h
      | fz l =>
        cases h
        obtain ⟨a', vs, h1, h2, _⟩ := F.s.fro hn
        rw [ha] at h1; cases h1
        exact .base (.lst (F.s.g _ _ h2))
      | mu o =>
        obtain ⟨u, q1, q2, _⟩ := F.s.cell n _ a hn ha
        cases o with
        | lst l =>
          cases h
          obtain ⟨vs, rfl, _⟩ := q2
          exact .base (.lst q1)
        | dct kvs =>
          cases h
          obtain ⟨_, rfl⟩ := q2
          exact .base (.dK q1)
        | dt kvs => cases h
        | obj k fs => cases h
theorem kindR_mem {x : R} {t : String} (h : kindR x S = some t) : t ∈ ["NoneType", "bool", "int", "str", "tuple", "list", "dict"] := by
  cases x with
  | p d => cases d <;> first | (cases h; done) | (cases h; simp)
  | r n =>
    unfold kindR at h
    simp only at h
    split at h <;> first | (cases h; done) | (cases h; simp)
theorem ins_ty {C : Addr} (cf : ClsF c.K C) {a dx : Addr} {fs : List (Str × V)} (h : H a = some (.ins C dx fs)) : TyX c.K H (.ref a) (.ref C) := .base (.ins h cf.cl cf.ha cf.hn cf.tk cf.mro)
/-- is a value of a built-in type one of another -/
def subTy (t n : String) : Bool := t == n || (t == "bool" && n == "int")
theorem kitB_sub : ∀ t ∈ ["NoneType", "bool", "int", "str", "tuple", "list", "dict"], ∀ n ∈ ["bool", "int", "str", "tuple", "list", "dict"], kitB t n = some (subTy t n) := by decide +kernel
end
section
variable {X : Cx} {c : Cg} {W : WX} {e a b cE : Expr} {f : M R} {pos p p1 : Pos} {x : Str}
/-- isinstance(e, n) -/
def isB (n : String) (f : M R) : M R := do
  let x ← f
  fun S => match kindR x S with
    | some t => .ok (.p (.bl (subTy t n))) S
    | none => match insOf x S with
      | some q => if q.1 = 0 then .ok (.p (.bl false)) S else .bad
      | none => .bad
/-- isinstance(e, C), C the class k -/
def isC (k : Nat) (f : M R) : M R := do
  let x ← f
  fun S => match kindR x S with
    | some _ => .ok (.p (.bl false)) S
    | none => match insOf x S with
      | some q => if q.1 = k then .ok (.p (.bl true)) S else .bad
      | none => .bad
theorem isB_read (hK : X.K = c.K) {n : String} (hn : n ∈ ["bool", "int", "str", "tuple", "list", "dict"]) (cf : ClsF c.K (c.cls 0)) {σ : L2.St} {H : Hp} {Q : VK} (q : rdE c W (isB n f) σ H Q) : tCB (rIsi X.K) (tCons (rdE c W f) (tCons (tC (.ty n)) tNil)) σ H Q := by
  obtain ⟨Γ, S, Fo, P⟩ := q
  refine ⟨Γ, S, Fo, (Post.bind P).imp fun x S1 Γ1 H1 e1 F1 ⟨_, P1⟩ v hv => ?_⟩
  show rIsi X.K [v, .ty n] H1 Q
  rw [hK]
  cases hk : kindR x S1 with
  | some t =>
    rw [hk] at P1
    exact ⟨v, .ty n, _, _, _, rfl, .ty n, kindR_ok F1 hv hk, kit_ty (kitB_sub t (kindR_mem hk) n hn), Post.ok (c := c) (W := W) P1 Gh.le.refl F1 _ RepR.mkB⟩
  | none =>
    rw [hk] at P1
    simp only at P1
    cases hi : insOf x S1 with
    | none => rw [hi] at P1; exact P1.elim
    | some q =>
      obtain ⟨k', fs⟩ := q
      rw [hi] at P1
      simp only at P1
      by_cases h0 : k' = 0
      · rw [if_pos h0] at P1
        subst h0
        obtain ⟨a, dx, vs, rfl, h1, h2⟩ := insOf_ok F1 hv hi
        exact ⟨_, .ty n, _, _, _, rfl, .ty n, ins_ty cf h1, cf.noIs n hn, Post.ok (c := c) (W := W) P1 Gh.le.refl F1 _ RepR.mkB⟩
      · rw [if_neg h0] at P1; exact P1.elim
theorem isC_read (hK : X.K = c.K) {k : Nat} (cf : ClsF c.K (c.cls k)) {σ : L2.St} {H : Hp} {Q : VK} (q : rdE c W (isC k f) σ H Q) : tCB (rIsi X.K) (tCons (rdE c W f) (tCons (tC (.ref (c.cls k))) tNil)) σ H Q := by
  obtain ⟨Γ, S, Fo, P⟩ := q
  refine ⟨Γ, S, Fo, (Post.bind P).imp fun x S1 Γ1 H1 e1 F1 ⟨_, P1⟩ v hv => ?_⟩
  show rIsi X.K [v, .ref (c.cls k)] H1 Q
  rw [hK]
  cases hk : kindR x S1 with
  | some t =>
    rw [hk] at P1
    exact ⟨v, _, _, _, _, rfl, .own _, kindR_ok F1 hv hk, cf.isNo t (kindR_mem hk), Post.ok (c := c) (W := W) P1 Gh.le.refl F1 _ RepR.mkB⟩
  | none =>
    rw [hk] at P1
    simp only at P1
    cases hi : insOf x S1 with
    | none => rw [hi] at P1; exact P1.elim
    | some q =>
      obtain ⟨k', fs⟩ := q
      rw [hi] at P1
      simp only at P1
      by_cases h0 : k' = k
      · rw [if_pos h0] at P1
        subst h0
        obtain ⟨a, dx, vs, rfl, h1, h2⟩ := insOf_ok F1 hv hi
        exact ⟨_, _, _, _, _, rfl, .own _, ins_ty cf h1, cf.self, Post.ok (c := c) (W := W) P1 Gh.le.refl F1 _ RepR.mkB⟩
      · rw [if_neg h0] at P1; exact P1.elim
theorem se_isB (hK : X.K = c.K) {n : String} (hn : n ∈ ["bool", "int", "str", "tuple", "list", "dict"]) (cf : ClsF c.K (c.cls 0)) (ha : PE X a (rdE c W f)) (hc : PE X b (tC (.ty n))) (hg : Gl X "isinstance") (hm : X.mg "isinstance" = none)
    (hs : starEach [a, b] X.env = (false, eval a X.env) :: starEach [b] X.env := by rfl) (hs2 : starEach [b] X.env = (false, eval b X.env) :: starEach [] X.env := by rfl) (hpl : (backTo pos (starEach [b] X.env)).any (·.1) = false := by rfl) :
    PE X (.Call (.Name "isinstance" p) [a, b] [] pos) (rdE c W (isB n f)) :=
  se_of (pe_callB call_isi hg hm (by decide +kernel) (pa_cons ha (pa_cons hc pa_nil hs2) hs) (by decide) (by decide) hs hpl) fun σ H Q q => isB_read hK hn cf q
theorem se_isC (hK : X.K = c.K) {k : Nat} (cf : ClsF c.K (c.cls k)) (ha : PE X a (rdE c W f)) (hc : PE X b (tC (.ref (c.cls k)))) (hg : Gl X "isinstance") (hm : X.mg "isinstance" = none)
    (hs : starEach [a, b] X.env = (false, eval a X.env) :: starEach [b] X.env := by rfl) (hs2 : starEach [b] X.env = (false, eval b X.env) :: starEach [] X.env := by rfl) (hpl : (backTo pos (starEach [b] X.env)).any (·.1) = false := by rfl) :
    PE X (.Call (.Name "isinstance" p) [a, b] [] pos) (rdE c W (isC k f)) :=
  se_of (pe_callB call_isi hg hm (by decide +kernel) (pa_cons ha (pa_cons hc pa_nil hs2) hs) (by decide) (by decide) hs hpl) fun σ H Q q => isC_read hK cf q
end
end Dd

set_option Elab.async false
set_option linter.all false
set_option maxRecDepth 100000
namespace Dd
open PySem PySem.Spec PyProof.Rows L2

/-! ### == of data -/
mutual
def toPy : D → Option PyData
  | .non => some .none
  | .bl b => some (.bool b)
  | .int i => some (.int i)
  | .str s => some (.str s)
  | .tup l => match toPyL l with
    | some xs => some (.tuple xs)
    | none => none
  | .lst l => match toPyL l with
    | some xs => some (.list xs)
    | none => none
  | .scp l => match toPyL l with
    | some xs => some (.list xs)
    | none => none
  | .scr _ => none
  | .edct => none
  | .exn _ _ => none
  | .fn _ => none
  | .opq _ => none
  | .ol _ => none
  | .dd _ => none
def toPyL : List D → Option (List PyData)
  | [] => some []
  | d :: ds => match toPy d with
    | some x => match toPyL ds with
      | some xs => some (x :: xs)
      | none => none
    | none => none
end
mutual
theorem toPy_dp {c : Cg} {G : Hp} : ∀ {d : D} {e : PyData} {v : V}, toPy d = some e → Rep c G d v → Dp c.K G v e
  | .non, e, v, h, r => by unfold toPy at h; cases h; rw [Rep.non_iff.mp r]; exact .non
  | .bl b, e, v, h, r => by unfold toPy at h; cases h; rw [Rep.bl_iff.mp r]; exact .bl b
  | .int i, e, v, h, r => by unfold toPy at h; cases h; rw [Rep.int_iff.mp r]; exact .int i
  | .str s, e, v, h, r => by unfold toPy at h; cases h; rw [Rep.str_iff.mp r]; exact .str s
  | .tup l, e, v, h, r => by
    unfold toPy at h
    cases q : toPyL l with
    | none => rw [q] at h; cases h
    | some xs =>
      rw [q] at h; cases h
      obtain ⟨a, vs, rfl, h1, h2⟩ := Rep.tup_iff.mp r
      exact .tup h1.sq (toPyL_dp q h2)
  | .lst l, e, v, h, r => by
    unfold toPy at h
    cases q : toPyL l with
    | none => rw [q] at h; cases h
    | some xs =>
      rw [q] at h; cases h
      obtain ⟨a, vs, rfl, h1, h2⟩ := Rep.lst_iff.mp r
      exact .lst (.inl (.inl h1)) (toPyL_dp q h2)
  | .scp l, e, v, h, r => by
    unfold toPy at h
    cases q : toPyL l with
    | none => rw [q] at h; cases h
    | some xs =>
      rw [q] at h; cases h
      obtain ⟨a, vs, rfl, h1, h2⟩ := Rep.scp_iff.mp r
      exact .lst h1 (toPyL_dp q h2)
  | .scr _, e, v, h, r => by unfold toPy at h; cases h
  | .edct, e, v, h, r => by unfold toPy at h; cases h
  | .fn _, e, v, h, r => by unfold toPy at h; cases h
  | .opq _, e, v, h, r => by unfold toPy at h; cases h
  | .ol _, e, v, h, r => by unfold toPy at h; cases h
  | .dd _, e, v, h, r => by unfold toPy at h; cases h
  | .exn _ _, e, v, h, r => by unfold toPy at h; cases h
theorem toPyL_dp {c : Cg} {G : Hp} : ∀ {ds : List D} {es : List PyData} {vs : List V}, toPyL ds = some es → RepL c G ds vs → DpAll c.K G vs es
  | [], es, vs, h, r => by unfold toPyL at h; cases h; rw [RepL.nil_iff.mp r]; exact .nil
  | d :: ds, es, vs, h, r => by
    unfold toPyL at h
    cases q : toPy d with
    | none => rw [q] at h; cases h
    | some x =>
      rw [q] at h
      simp only at h
      cases q2 : toPyL ds with
      | none => rw [q2] at h; cases h
      | some xs =>
        rw [q2] at h; cases h
        obtain ⟨v, r', rfl, h1, h2⟩ := RepL.cons_iff.mp r
        exact .cons (toPy_dp q h1) (toPyL_dp q2 h2)
end
mutual
theorem Dp.mono {K : PySem.W.Frag} {H H' : Hp} (e : Ext H H') : ∀ {d : PyData} {v : V}, Dp K H v d → Dp K H' v d
  | .none, _, h => by cases h; exact .non
  | .bool b, _, h => by cases h; exact .bl b
  | .int b, _, h => by cases h; exact .int b
  | .str b, _, h => by cases h; exact .str b
  | .list ds, _, h => by
    cases h with
    | lst h1 h2 => exact .lst (SqL.mono e h1) (DpAll.mono e h2)
  | .tuple ds, _, h => by
    cases h with
    | tup h1 h2 => exact .tup (SqT.mono e h1) (DpAll.mono e h2)
  | .dict _, _, h => by cases h
theorem DpAll.mono {K : PySem.W.Frag} {H H' : Hp} (e : Ext H H') : ∀ {ds : List PyData} {vs : List V}, DpAll K H vs ds → DpAll K H' vs ds
  | [], _, h => by cases h; exact .nil
  | d :: ds, _, h => by
    cases h with
    | cons h1 h2 => exact .cons (Dp.mono e h1) (DpAll.mono e h2)
end
/-- a value as data, looked at -/
def dataR (x : R) (S : Sg) : Option PyData := match x with
  | .p d => toPy d
  | .r n => match getLst (.r n) S with
    | some l => match toPyL l with
      | some xs => some (.list xs)
      | none => none
    | none => none
/-- == on data, and of a screen with anything by its own method -/
def opEqD : R → R → M R := fun x y S => match dataR x S with
  | some d => match dataR y S with
    | some e => if SeqAt.shaped d = true ∧ SeqAt.shaped e = true then .ok (.p (.bl (PyData.eqv d e))) S else .bad
    | none => .bad
  | none => .bad
def opNeD : R → R → M R := fun x y S => match dataR x S with
  | some d => match dataR y S with
    | some e => if SeqAt.shaped d = true ∧ SeqAt.shaped e = true then .ok (.p (.bl (!PyData.eqv d e))) S else .bad
    | none => .bad
  | none => .bad
section
variable {X : Cx} {c : Cg} {W : WX} {a b e : Expr} {f fa fb : M R} {g : M (List R)} {pos : Pos} {Γ : Gh} {S : Sg} {σ : L2.St} {H : Hp}
theorem dataR_ok {x : R} {v : V} {d : PyData} (F : FrOk c Γ S σ H) (hv : RepR c Γ x v) (h : dataR x S = some d) : Dp c.K H v d := by
  cases x with
  | p y => exact Dp.mono F.s.g (toPy_dp h hv)
  | r n =>
    unfold dataR at h
    simp only at h
    cases q : getLst (.r n) S with
    | none => rw [q] at h; cases h
    | some l =>
      rw [q] at h
      simp only at h
      cases q2 : toPyL l with
      | none => rw [q2] at h; cases h
      | some xs =>
        rw [q2] at h; cases h
        obtain ⟨a, vs, rfl, h1, h2⟩ := getLst_ok F hv q
        exact .lst h1 (DpAll.mono F.s.g (toPyL_dp q2 h2))
theorem od_eqD (hK : X.K = c.K) : OpD c W opEqD (rEqD X.K) := by
  intro Γ S σ H x y v w Q F hx hy P
  unfold opEqD at P
  cases h1 : dataR x S with
  | none => rw [h1] at P; exact P.elim
  | some d =>
    rw [h1] at P
    simp only at P
    cases h2 : dataR y S with
    | none => rw [h2] at P; exact P.elim
    | some e =>
      rw [h2] at P
      simp only at P
      by_cases h : SeqAt.shaped d = true ∧ SeqAt.shaped e = true
      · rw [if_pos h] at P
        exact ⟨d, e, hK ▸ dataR_ok F hx h1, hK ▸ dataR_ok F hy h2, h.1, h.2, Post.ok (c := c) (W := W) P Gh.le.refl F _ RepR.mkB⟩
      · rw [if_neg h] at P; exact P.elim
theorem od_neD (hK : X.K = c.K) : OpD c W opNeD (rNeD X.K) := by
  intro Γ S σ H x y v w Q F hx hy P
  unfold opNeD at P
  cases h1 : dataR x S with
  | none => rw [h1] at P; exact P.elim
  | some d =>
    rw [h1] at P
    simp only at P
    cases h2 : dataR y S with
    | none => rw [h2] at P; exact P.elim
    | some e =>
      rw [h2] at P
      simp only at P
      by_cases h : SeqAt.shaped d = true ∧ SeqAt.shaped e = true
      · rw [if_pos h] at P
        exact ⟨d, e, hK ▸ dataR_ok F hx h1, hK ▸ dataR_ok F hy h2, h.1, h.2, Post.ok (c := c) (W := W) P Gh.le.refl F _ RepR.mkB⟩
      · rw [if_neg h] at P; exact P.elim
/-- an own == (the left one an instance of class k): the def's answer -/
def opEqU (k : Nat) (F : Fn) : R → R → M R := fun x y S => match insOf x S with
  | some (k', _) => if k' = k ∧ ((kindR y S).isSome = true ∨ (insOf y S).map (·.1) = some k) then (match F [x, y] S.st with
    | .ok (.val (.bl b)) st => .ok (.p (.bl b)) { S with st := st }
    | _ => .bad) else .bad
  | none => .bad
def rEqU (X : Cx) (C : Addr) (sp : Sp) : R2 := fun x y H Q => ∃ a dx fs t, x = .ref a ∧ H a = some (.ins C dx fs) ∧ TyX X.K H y t ∧ PySem.W.notFirst X.K C t = true ∧ sp [x, y] H (fun v H' => ∃ b, v = .bl b ∧ Q (.bl b) H') E0
theorem op_eqU {C fA : Addr} {fd : FuncData} {ps : List Str} {sp : Sp} {n : Nat} (F : FnG X.prog X.w X.K X.mg X.base n fA fd ps sp)
    (hs : PySem.W.findIn X.K (.ref C) "__eq__" = some (some (.ref fA))) (hf : PySem.W.isFn X.K (.ref fA) = true) (hb : Binds X.K fd ps []) (hG : X.A.guards = some []) (hr : Room n X.A) : OpR X (compareOp .Eq) (rEqU X C sp) := by
  intro pins s σ H x y v u Q I rx ry hq
  obtain ⟨a, dx, fs, t, rfl, ha, ty, hn, hsp⟩ := hq
  cases rx
  show wpAny (model X.prog X.w) X.A (richCompare .Eq (.ref a) u) (EP X pins σ Q) X.xe s
  obtain ⟨mA, J, _⟩ := ins_get I.hok ha
  obtain ⟨od, J, _⟩ := J.look
  obtain ⟨m, hF⟩ := I.fr
  obtain ⟨Pk, Z, pk, hne⟩ := kit_of I ry ty
  refine PySem.W.cmp_K (op := .Eq) (tb := t) hr.units0 hF I.ok.mod.kin J (Z.ty _ _ I.kIn pk) hn hs hf ?_
  have hl := F.len _ _ _ _ hsp
  have r2 : Vals [V.ref a, y] [Value.ref a, u] := .cons rfl (.cons ry .nil)
  refine wpAny_call (codeAny_mono (F.run X.A X.stack s H ⟨[.ref a, u], []⟩ [.ref a, u] [.ref a, y] _ E0 hG hr I.env0 (by
    have := hb s [.ref a, u] I.kIn (by simpa using hl)
    simpa using this) r2 hsp) fun r s' hq => ?_)
  cases r with
  | error e => exact (passL pins σ H s e s' I hq : X.xe e s')
  | ok fl =>
    cases fl with
    | ret w =>
      obtain ⟨z, H', I', rz, b, ez, ex⟩ := I.after hq
      subst ez
      cases rz
      exact ⟨.bl b, H', I', rfl, ex⟩
    | next => exact False.elim hq
    | brk => exact False.elim hq
    | cont => exact False.elim hq
theorem od_eqU (hK : X.K = c.K) {k n : Nat} {F : Fn} (cf : ClsF c.K (c.cls k)) : OpD c W (opEqU k F) (rEqU X (c.cls k) (spF c 2 F)) := by
  intro Γ S σ H x y v w Q Fo hx hy P
  unfold opEqU at P
  cases hi : insOf x S with
  | none => rw [hi] at P; exact P.elim
  | some kf =>
    obtain ⟨k', fs⟩ := kf
    rw [hi] at P
    simp only at P
    by_cases hk : k' = k ∧ ((kindR y S).isSome = true ∨ (insOf y S).map (·.1) = some k)
    · rw [if_pos hk] at P
      obtain ⟨rfl, hk⟩ := hk
      obtain ⟨a, dx, vs, rfl, h1, h2⟩ := insOf_ok Fo hx hi
      have hty : ∃ t, TyX c.K H w t ∧ PySem.W.notFirst c.K (c.cls k') t = true := by
        rcases hk with hk | hk
        · obtain ⟨t, ht⟩ := Option.isSome_iff_exists.mp hk
          refine ⟨_, kindR_ok Fo hy ht, ?_⟩
          unfold PySem.W.notFirst
          rw [cf.noSub t (kindR_mem ht)]
          simp
        · cases hi2 : insOf y S with
          | none => rw [hi2] at hk; cases hk
          | some q =>
            obtain ⟨k2, fs2⟩ := q
            rw [hi2] at hk
            cases hk
            obtain ⟨a2, dx2, vs2, rfl, g1, g2⟩ := insOf_ok Fo hy hi2
            refine ⟨_, ins_ty cf g1, ?_⟩
            unfold PySem.W.notFirst
            simp
      obtain ⟨t, ty, hn⟩ := hty
      refine ⟨a, dx, vs, t, rfl, h1, hK ▸ ty, hK ▸ hn, [x, y], Γ, S.st, rfl, ⟨.ref a, [w], rfl, hx, w, [], rfl, hy, rfl⟩, Fo.s, ?_⟩
      cases hF : F [x, y] S.st with
      | bad => rw [hF] at P; exact P.elim
      | exc z st => rw [hF] at P; exact P.elim
      | ok r st =>
        rw [hF] at P
        cases r with
        | new o => exact P.elim
        | val d =>
          cases d with
          | bl b =>
            intro Γ' H' v le s q
            exact ⟨b, Rep.bl_iff.mp q, Post.ok (c := c) (W := W) P le (Fo.of le s) _ RepR.mkB⟩
          | _ => exact P.elim
    · rw [if_neg hk] at P; exact P.elim
/-- e is None, e is not None -/
def isN (f : M R) : M R := do
  let x ← f
  fun S => match x with
    | .p .non => .ok (.p (.bl true)) S
    | _ => .ok (.p (.bl false)) S
def notN (f : M R) : M R := do
  let x ← f
  fun S => match x with
    | .p .non => .ok (.p (.bl false)) S
    | _ => .ok (.p (.bl true)) S
theorem non_iff {Γ : Gh} {x : R} {v : V} (h : RepR c Γ x v) : v = .non ↔ x = .p .non := by
  constructor
  · intro e
    subst e
    cases x with
    | r n => obtain ⟨a, _, h2⟩ := h; cases h2
    | p d =>
      cases d with
      | non => rfl
      | bl b => cases RepR.bl h
      | int b => cases RepR.int h
      | str b => cases RepR.str h
      | tup l => obtain ⟨_, _, h, _⟩ := Rep.tup_iff.mp (RepR.pure.mp h); cases h
      | lst l => obtain ⟨_, _, h, _⟩ := Rep.lst_iff.mp (RepR.pure.mp h); cases h
      | scp l => obtain ⟨_, _, h, _⟩ := Rep.scp_iff.mp (RepR.pure.mp h); cases h
      | scr l => obtain ⟨_, _, _, _, h, _⟩ := Rep.scr_iff.mp (RepR.pure.mp h); cases h
      | edct => obtain ⟨_, h, _⟩ := Rep.edct_iff.mp (RepR.pure.mp h); cases h
      | fn _ => have h := Rep.fn_iff.mp (RepR.pure.mp h); cases h
      | opq _ => obtain ⟨_, _, _, h, _⟩ := Rep.opq_iff.mp (RepR.pure.mp h); cases h
      | ol _ => exact (Rep.ol_iff.mp (RepR.pure.mp h)).elim
      | dd _ => obtain ⟨_, _, _, _, _, h, _⟩ := Rep.dd_iff.mp (RepR.pure.mp h); cases h
      | exn _ _ => obtain ⟨_, _, h, _⟩ := Rep.exn_iff.mp (RepR.pure.mp h); cases h
  · intro e; subst e; exact RepR.non h
theorem isN_read {σ : L2.St} {H : Hp} {Q : VK} (q : rdE c W (isN f) σ H Q) : tIsN (rdE c W f) σ H Q := by
  obtain ⟨Γ, S, F, P⟩ := q
  refine ⟨Γ, S, F, (Post.bind P).imp fun x S1 Γ1 H1 e1 F1 ⟨_, P1⟩ v hv => ?_⟩
  by_cases h : x = .p .non
  · have hv2 := (non_iff hv).mpr h
    subst hv2
    subst h
    exact Post.ok (c := c) (W := W) P1 Gh.le.refl F1 _ RepR.mkB
  · have hv2 : ¬ v = .non := fun e => h ((non_iff hv).mp e)
    dsimp only
    rw [decide_eq_false hv2]
    cases x with
    | r n => exact Post.ok (c := c) (W := W) P1 Gh.le.refl F1 _ RepR.mkB
    | p d =>
      cases d with
      | non => exact (h rfl).elim
      | _ => exact Post.ok (c := c) (W := W) P1 Gh.le.refl F1 _ RepR.mkB
theorem notN_read {σ : L2.St} {H : Hp} {Q : VK} (q : rdE c W (notN f) σ H Q) : tNotN (rdE c W f) σ H Q := by
  obtain ⟨Γ, S, F, P⟩ := q
  refine ⟨Γ, S, F, (Post.bind P).imp fun x S1 Γ1 H1 e1 F1 ⟨_, P1⟩ v hv => ?_⟩
  by_cases h : x = .p .non
  · have hv2 := (non_iff hv).mpr h
    subst hv2
    subst h
    exact Post.ok (c := c) (W := W) P1 Gh.le.refl F1 _ RepR.mkB
  · have hv2 : ¬ v = .non := fun e => h ((non_iff hv).mp e)
    dsimp only
    rw [decide_eq_false hv2]
    cases x with
    | r n => exact Post.ok (c := c) (W := W) P1 Gh.le.refl F1 _ RepR.mkB
    | p d =>
      cases d with
      | non => exact (h rfl).elim
      | _ => exact Post.ok (c := c) (W := W) P1 Gh.le.refl F1 _ RepR.mkB
theorem se_isN {j pos'} (h : PE X a (rdE c W f)) : PE X (.Compare a [.Is] [.Constant .none j pos'] pos) (rdE c W (isN f)) := se_of (pe_cmp (pc_isN h)) fun σ H Q q => isN_read q
theorem st_isN {j pos'} (h : PE X a (rdE c W f)) : PT X (.Compare a [.Is] [.Constant .none j pos'] pos) (rdT c W (tst (isN f))) := st_of (pt_cmp (pc_isN h)) fun σ H Q q => isN_read (tst_read q)
theorem st_notN {j pos'} (h : PE X a (rdE c W f)) : PT X (.Compare a [.IsNot] [.Constant .none j pos'] pos) (rdT c W (tst (notN f))) := st_of (pt_cmp (pc_notN h)) fun σ H Q q => notN_read (tst_read q)
end
end Dd

set_option Elab.async false
set_option linter.all false
set_option maxRecDepth 100000
namespace Dd
open PySem PySem.Spec PyProof.Rows L2

/-! ### built-in functions -/
section
variable {X : Cx} {c : Cg} {W : WX} {a b e : Expr} {f fa fb : M R} {g : M (List R)} {pos : Pos}
/-- one argument -/
def op1 (op : R → M R) : List R → M R := fun xs => match xs with
  | [x] => op x
  | _ => bad
def OneD (c : Cg) (W : WX) (op : R → M R) (r : V → Hp → VK → Prop) : Prop :=
  ∀ (Γ : Gh) (S : Sg) (σ : L2.St) (H : Hp) (x : R) (v : V) (Q : VK), FrOk c Γ S σ H → RepR c Γ x v →
    Post c W σ Γ (op x S) (fun z S' Γ' H' => ∀ u, RepR c Γ' z u → Q u H') → r v H Q
theorem cd_one {op : R → M R} {r : V → Hp → VK → Prop} {rl : List V → Hp → VK → Prop} (h : OneD c W op r) (hl : ∀ v H Q, r v H Q → rl [v] H Q) : CallD c W (op1 op) rl := by
  intro Γ S σ H xs vs Q F hxs P
  cases xs with
  | nil => exact P.elim
  | cons x r =>
    cases r with
    | cons y ys => exact P.elim
    | nil =>
      obtain ⟨v, rfl, hv⟩ := one_arg hxs
      exact hl v H Q (h Γ S σ H x v Q F hv P)
def opLen : R → M R := fun x S => match getL x S with
  | some l => .ok (.p (.int (l.length : Nat))) S
  | none => match x with
    | .p (.str z) => if z.length ≤ sizeLine then .ok (.p (.int (z.length : Nat))) S else .bad
    | _ => .bad
theorem call_lenA : CallR X (.builtin "len") (fun xs H Q => (∃ p ys, xs = [.ref p] ∧ (SqL X.K H p ys ∨ SqT X.K H p ys) ∧ Q (.int ys.length) H) ∨ ∃ z, xs = [.str z] ∧ z.length ≤ sizeLine ∧ Q (.int z.length) H) := CallR.or call_len_seq call_len_str
theorem cd_len (hK : X.K = c.K) : CallD c W (op1 opLen) (fun xs H Q => (∃ p ys, xs = [.ref p] ∧ (SqL X.K H p ys ∨ SqT X.K H p ys) ∧ Q (.int ys.length) H) ∨ ∃ z, xs = [.str z] ∧ z.length ≤ sizeLine ∧ Q (.int z.length) H) :=
  cd_one (r := fun v H Q => (∃ p ys, v = .ref p ∧ (SqL X.K H p ys ∨ SqT X.K H p ys) ∧ Q (.int ys.length) H) ∨ ∃ z, v = .str z ∧ z.length ≤ sizeLine ∧ Q (.int z.length) H) (by
    intro Γ S σ H x v Q F hv P
    unfold opLen at P
    cases hl : getL x S with
    | some l =>
      rw [hl] at P
      obtain ⟨a, vs, rfl, h1, h2⟩ := getL_ok F hv hl
      exact .inl ⟨a, vs, rfl, hK ▸ h1, by rw [h2.length]; exact Post.ok (c := c) (W := W) P Gh.le.refl F _ RepR.mkI⟩
    | none =>
      rw [hl] at P
      cases x with
      | r n => exact P.elim
      | p d =>
        cases d with
        | str z =>
          have P : Post c W σ Γ (if z.length ≤ sizeLine then Res.ok (R.p (.int (z.length : Nat))) S else .bad) (fun z S' Γ' H' => ∀ u, RepR c Γ' z u → Q u H') := P
          by_cases hz : z.length ≤ sizeLine
          · rw [if_pos hz] at P
            exact .inr ⟨z, RepR.str hv, hz, Post.ok (c := c) (W := W) P Gh.le.refl F _ RepR.mkI⟩
          · rw [if_neg hz] at P; exact P.elim
        | _ => exact P.elim) (fun v H Q h => by
    rcases h with ⟨p, ys, rfl, h⟩ | ⟨z, rfl, h⟩
    · exact .inl ⟨p, ys, rfl, h⟩
    · exact .inr ⟨z, rfl, h⟩)
/-- int(x) of an int, of a truth -/
def opInt : R → M R := fun x S => match x with
  | .p (.int i) => .ok (.p (.int i)) S
  | .p (.bl b) => .ok (.p (.int (if b = true then 1 else 0))) S
  | _ => .bad
theorem cd_int : CallD c W (op1 opInt) (fun xs H Q => (∃ i, xs = [.int i] ∧ Q (.int i) H) ∨ ∃ k, xs = [.bl k] ∧ Q (.int (if k then 1 else 0)) H) :=
  cd_one (r := fun v H Q => (∃ i, v = .int i ∧ Q (.int i) H) ∨ ∃ k, v = .bl k ∧ Q (.int (if k = true then 1 else 0)) H) (by
    intro Γ S σ H x v Q F hv P
    cases x with
    | r n => exact P.elim
    | p d =>
      cases d with
      | int i => exact .inl ⟨i, RepR.int hv, Post.ok (c := c) (W := W) P Gh.le.refl F _ RepR.mkI⟩
      | bl k => exact .inr ⟨k, RepR.bl hv, Post.ok (c := c) (W := W) P Gh.le.refl F _ RepR.mkI⟩
      | _ => exact P.elim) (fun v H Q h => by
    rcases h with ⟨i, rfl, h⟩ | ⟨k, rfl, h⟩
    · exact .inl ⟨i, rfl, h⟩
    · exact .inr ⟨k, rfl, h⟩)
def opMax2 : List R → M R := fun xs S => match asI2 xs with
  | some q => .ok (.p (.int (max q.1 q.2))) S
  | none => .bad
def opMin2 : List R → M R := fun xs S => match asI2 xs with
  | some q => .ok (.p (.int (min q.1 q.2))) S
  | none => .bad
theorem cd_max2 : CallD c W opMax2 (fun xs H Q => ∃ i j, xs = [.int i, .int j] ∧ Q (.int (if j > i then j else i)) H) := by
  intro Γ S σ H xs vs Q F hxs P
  unfold opMax2 at P
  cases q : asI2 xs with
  | none => rw [q] at P; exact P.elim
  | some ij =>
    obtain ⟨i, j⟩ := ij
    rw [q] at P
    refine ⟨i, j, ints2 hxs q, ?_⟩
    have e : (if j > i then j else i) = max i j := by rw [Int.max_def]; split <;> split <;> omega
    rw [e]
    exact Post.ok (c := c) (W := W) P Gh.le.refl F _ RepR.mkI
def opAbs : R → M R := fun x S => match x with
  | .p (.int i) => .ok (.p (.int (if i < 0 then -i else i))) S
  | _ => .bad
/-- truths -/
def blsOf : List D → Option (List Bool)
  | [] => some []
  | .bl i :: r => match blsOf r with
    | some l => some (i :: l)
    | none => none
  | _ => none
theorem blsOf_some : ∀ {l : List D} {ns : List Bool}, blsOf l = some ns → l = ns.map D.bl
  | [], ns, h => by cases h; rfl
  | d :: r, ns, h => by
    cases d with
    | bl i =>
      unfold blsOf at h
      cases q : blsOf r with
      | none => rw [q] at h; cases h
      | some l => rw [q] at h; cases h; rw [blsOf_some q]; rfl
    | _ => cases h
def opAll : R → M R := fun x S => match getLst x S with
  | some l => match blsOf l with
    | some bs => .ok (.p (.bl (bs.all id))) S
    | none => .bad
  | none => .bad
def opSum : R → M R := fun x S => match getLst x S with
  | some l => match intsOf l with
    | some ns => .ok (.p (.int ns.sum)) S
    | none => .bad
  | none => .bad
theorem cd_all (hK : X.K = c.K) : CallD c W (op1 opAll) (rAll X.K) :=
  cd_one (r := fun v H Q => rAll X.K [v] H Q) (by
    intro Γ S σ H x v Q F hv P
    unfold opAll at P
    cases hl : getLst x S with
    | none => rw [hl] at P; exact P.elim
    | some l =>
      rw [hl] at P
      simp only at P
      cases hb : blsOf l with
      | none => rw [hb] at P; exact P.elim
      | some bs =>
        rw [hb] at P
        obtain ⟨a, vs, rfl, h1, h2⟩ := getLst_ok F hv hl
        rw [blsOf_some hb] at h2
        rw [h2.bls] at h1
        exact ⟨a, bs, rfl, hK ▸ h1, Post.ok (c := c) (W := W) P Gh.le.refl F _ RepR.mkB⟩) (fun v H Q h => h)
/-- list(x): a new list -/
def opList : R → M R := fun x S => match getL x S with
  | some l => .ok (.r S.st.length) { S with st := S.st ++ [.mu (.lst l)] }
  | none => .bad
theorem cd_list (hK : X.K = c.K) : CallD c W (op1 opList) (fun xs H Q => ∃ p ys, xs = [.ref p] ∧ (SqL X.K H p ys ∨ SqT X.K H p ys) ∧ ∀ l, H l = none → Q (.ref l) (upd H l (.lst ys))) :=
  cd_one (r := fun v H Q => ∃ p ys, v = .ref p ∧ (SqL X.K H p ys ∨ SqT X.K H p ys) ∧ ∀ l, H l = none → Q (.ref l) (upd H l (.lst ys))) (by
    intro Γ S σ H x v Q F hv P
    unfold opList at P
    cases hl : getL x S with
    | none => rw [hl] at P; exact P.elim
    | some l =>
      rw [hl] at P
      obtain ⟨a, vs, rfl, h1, h2⟩ := getL_ok F hv hl
      refine ⟨a, vs, rfl, hK ▸ h1, fun p hp => ?_⟩
      obtain ⟨Γ3, e3, F3, r3⟩ := newL_ok F h2 hp
      exact Post.ok (c := c) (W := W) P e3 F3 _ r3) (fun v H Q h => by obtain ⟨p, ys, rfl, h⟩ := h; exact ⟨p, ys, rfl, h⟩)
/-- tuple(x) -/
def opTuple : R → M R := fun x S => match x with
  | .p (.tup l) => .ok (.p (.tup l)) S
  | x => match getLst x S with
    | some l => .ok (.p (.tup l)) S
    | none => .bad
def rTupF (K : PySem.W.Frag) : List V → Hp → VK → Prop := fun xs H Q => ∃ p ys, xs = [.ref p] ∧ ((SqL K H p ys ∧ ∀ l o, H l = none → o.dict = none → Q (.ref l) (upd H l (.frz o (.tup ys)))) ∨ (SqT K H p ys ∧ Q (.ref p) H))
theorem call_tupF : CallR X (.type "tuple") (rTupF X.K) := by
  intro pins s σ H xs us Q I r h
  obtain ⟨p, ys, rfl, h⟩ := h
  obtain ⟨u, rfl, rx⟩ := vals1 r
  cases rx
  rcases h with ⟨hq, q⟩ | ⟨hq, q⟩
  · obtain ⟨its, r', pl, hz⟩ := I.list hq
    have hlen := r'.length
    have hsl := sizeLine_eq
    refine call_tuple_list pl.isList (fun h' kp => ?_) (by simp only [List.size_toArray] <;> omega)
    have I1 : L2.Inv X pins σ H { s with heap := h' } := I.kept (t' := s.toks) kp
    have I2 : L2.Inv X pins σ (upd H h'.objs.size (.frz { cls := .type "tuple", data := .seq its.toArray } (.tup ys))) { s with heap := h'.push { cls := .type "tuple", data := .seq its.toArray } } :=
      I1.laid (t' := s.toks) (fun b o e => Heap.get?_push_of_some _ e) (Nat.le_refl _) ⟨Heap.get?_push_size _ rfl, hz, its, r', IsTup.new _ _⟩
    exact ⟨.ref h'.objs.size, _, I2, rfl, q _ _ (I1.hok.fresh (Nat.le_refl _)) rfl⟩
  · obtain ⟨its, r', pl, hz⟩ := I.tuple hq
    exact call_tuple_same pl ⟨.ref p, H, I, rfl, q⟩
theorem cd_tuple (hK : X.K = c.K) : CallD c W (op1 opTuple) (rTupF X.K) :=
  cd_one (r := fun v H Q => rTupF X.K [v] H Q) (by
    intro Γ S σ H x v Q F hv P
    have lst : ∀ y : R, RepR c Γ y v → Post c W σ Γ (match getLst y S with | some l => Res.ok (R.p (.tup l)) S | none => .bad) (fun z S' Γ' H' => ∀ u, RepR c Γ' z u → Q u H') → rTupF X.K [v] H Q := fun y hv P => by
      cases hl : getLst y S with
      | none => rw [hl] at P; exact P.elim
      | some l =>
        rw [hl] at P
        obtain ⟨a, vs, rfl, h1, h2⟩ := getLst_ok F hv hl
        refine ⟨a, vs, rfl, .inl ⟨hK ▸ h1, fun p o hp ho => ?_⟩⟩
        obtain ⟨Γ3, e3, F3, r3⟩ := newT_ok F h2 hp ho
        exact Post.ok (c := c) (W := W) P e3 F3 _ r3
    cases x with
    | r n => exact lst _ hv P
    | p d =>
      cases d with
      | tup l =>
        obtain ⟨a, vs, rfl, h1, h2⟩ := Rep.tup_iff.mp (RepR.pure.mp hv)
        exact ⟨a, vs, rfl, .inr ⟨hK ▸ (TupS.mono F.s.g h1).sq, Post.ok (c := c) (W := W) P Gh.le.refl F _ hv⟩⟩
      | lst l => exact lst _ hv P
      | scp l => exact lst _ hv P
      | _ => exact P.elim) (fun v H Q h => h)
/-- repr of data -/
def opRepr : R → M R := fun x S => match dataR x S with
  | some d => match d with
    | .int i => if i.natAbs.log2 < 1920 then .ok (.p (.str (toString i))) S else .bad
    | .list xs => if (PyData.list xs).showable = true ∧ (PyData.list xs).hasDict = false ∧ (PyData.list xs).depth ≤ 64 ∧ (PyData.list xs).shown.length ≤ sizeLine then .ok (.p (.str (PyData.list xs).shown)) S else .bad
    | .tuple xs => if (PyData.tuple xs).showable = true ∧ (PyData.tuple xs).hasDict = false ∧ (PyData.tuple xs).depth ≤ 64 ∧ (PyData.tuple xs).shown.length ≤ sizeLine then .ok (.p (.str (PyData.tuple xs).shown)) S else .bad
    | .bool b => .ok (.p (.str (if b = true then "True" else "False"))) S
    | .none => .ok (.p (.str "None")) S
    | _ => .bad
  | none => .bad
/-- what is asked of data that is shown -/
def ShowOk (d : PyData) : Prop := d.showable = true ∧ d.hasDict = false ∧ d.depth ≤ 64 ∧ d.shown.length ≤ sizeLine
def rReprD (K : PySem.W.Frag) : List V → Hp → VK → Prop := fun xs H Q => ∃ v d, xs = [v] ∧ Dp K H v d ∧ match d with
  | .int i => i.natAbs.log2 < 1920 ∧ Q (.str (toString i)) H
  | .list ys => ShowOk (.list ys) ∧ Q (.str (PyData.list ys).shown) H
  | .tuple ys => ShowOk (.tuple ys) ∧ Q (.str (PyData.tuple ys).shown) H
  | .bool b => Q (.str (if b = true then "True" else "False")) H
  | .none => Q (.str "None") H
  | _ => False
theorem call_reprD (hG : X.A.guards = some []) (hu : X.A.units + 66 < cLine) : CallR X (.builtin "repr") (rReprD X.K) := by
  intro pins s σ H xs us Q I r h
  obtain ⟨v, d, rfl, hd, q⟩ := h
  obtain ⟨u, rfl, rv⟩ := vals1 r
  have big : ∀ a, u = .ref a → d.showable = true ∧ d.hasDict = false ∧ d.depth ≤ 64 ∧ d.shown.length ≤ sizeLine → Q (.str d.shown) H → wpAny (model X.prog X.w) X.A (call (.builtin "repr") [u]) (EP X pins σ Q) X.xe s := fun a ea hs q => by
    obtain ⟨h1, h2, h3, h4⟩ := hs
    obtain ⟨as, rd⟩ := Dp.reads I d v u hd rv
    subst ea
    refine repr_of_reads' rd h1 (PyData.noDict_hsm h2) hG (by omega) (fun _ _ e => e) (fun h' u tk kp => ?_) h4
    exact ⟨.str _, H, I.kept (t' := tk) kp, ⟨_, rfl⟩, q⟩
  cases d with
  | int i =>
    cases hd
    obtain ⟨t, rfl⟩ := rv
    exact PySem.P.repr_of_int q.1 ⟨.str _, H, I.tok _, ⟨_, rfl⟩, q.2⟩
  | list ys => cases hd; cases rv; exact big _ rfl q.1 q.2
  | tuple ys => cases hd; cases rv; exact big _ rfl q.1 q.2
  | bool b =>
    cases hd; cases rv
    exact PySem.P.repr_of_bool ⟨.str _, H, I.tok _, ⟨_, rfl⟩, q⟩
  | none =>
    cases hd; cases rv
    exact PySem.P.repr_of_none ⟨.str _, H, I.tok _, ⟨_, rfl⟩, q⟩
  | str z => exact q.elim
  | dict z => exact q.elim
theorem cd_repr (hK : X.K = c.K) : CallD c W (op1 opRepr) (rReprD X.K) :=
  cd_one (r := fun v H Q => rReprD X.K [v] H Q) (by
    intro Γ S σ H x v Q F hv P
    unfold opRepr at P
    cases hd : dataR x S with
    | none => rw [hd] at P; exact P.elim
    | some d =>
      rw [hd] at P
      have hp := hK ▸ dataR_ok F hv hd
      refine ⟨v, d, rfl, hp, ?_⟩
      have fin : ∀ z : Str, Post c W σ Γ (Res.ok (R.p (.str z)) S) (fun z S' Γ' H' => ∀ u, RepR c Γ' z u → Q u H') → Q (.str z) H := fun z P => Post.ok (c := c) (W := W) P Gh.le.refl F _ RepR.mkS
      cases d with
      | int i =>
        have P : Post c W σ Γ (if i.natAbs.log2 < 1920 then Res.ok (R.p (.str (toString i))) S else .bad) (fun z S' Γ' H' => ∀ u, RepR c Γ' z u → Q u H') := P
        by_cases h : i.natAbs.log2 < 1920
        · rw [if_pos h] at P; exact ⟨h, fin _ P⟩
        · rw [if_neg h] at P; exact P.elim
      | list ys =>
        dsimp only at P
        split at P
        · rename_i h; exact ⟨h, fin _ P⟩
        · exact P.elim
      | tuple ys =>
        dsimp only at P
        split at P
        · rename_i h; exact ⟨h, fin _ P⟩
        · exact P.elim
      | bool b => exact fin _ P
      | none => exact fin _ P
      | str z => exact P.elim
      | dict z => exact P.elim) (fun v H Q h => h)
end
end Dd

set_option Elab.async false
set_option linter.all false
set_option maxRecDepth 100000
namespace Dd
open PySem PySem.Spec PyProof.Rows L2

/-! ### sorted of a list or a tuple of ints -/
theorem sorted_seqI {prog : Program} {w : World} {A : Around} {E : Value → Shared → Prop} {s : Shared} {l : Addr} {T : String} {o : Obj} {vs : List Value} {ns : List Int} {n : Nat} {Q : Value → Shared → Prop} (hT : T = "list" ∨ T = "tuple")
    (ho : s.heap.get? l = some o) (hc : o.cls = .type T) (hd : o.data = .seq vs.toArray n) (hI : IntsAre vs ns) (hz : vs.length ≤ sizeLine)
    (h : ∀ (h1 h' : Heap) (out : List Value) (ns' : List Int) (e : Nat), IntsAre out ns' → ns'.Perm ns → ns'.Pairwise (· ≤ ·) → (∀ b q, s.heap.get? b = some q → h1.get? b = some q) → (∀ b q, h1.get? b = some q → h'.get? b = some q) → h'.get? h1.objs.size = some (seqObj "list" out.toArray e) → Q (.ref h1.objs.size) { s with heap := h' }) :
    wpAny (model prog w) A (call (.builtin "sorted") [.ref l]) Q E s := by
  refine Calls.call_function_entry kind_sorted plain_sorted entry_sorted (args_sorted1 _) ?_
  unfold Builtin.«sorted»
  refine wpAny_bind (m := checkCount "sorted" 1 1 _) (wpAny_pure ?_)
  refine wpAny_bind (wpAny_collect_seq l hT ho hc hd (fun h1 k1 => ?_) (by rw [List.size_toArray]; exact hz))
  show wpAny _ _ _ _ _ _
  refine wpAny_bind (wpAny_newList (items := vs) ?_ hz)
  have hoL : (h1.push (seqObj "list" vs.toArray 0)).get? h1.objs.size = some (seqObj "list" vs.toArray 0) := Heap.get?_push_size _ rfl
  have keep : ∀ b q, h1.get? b = some q → b ≠ h1.objs.size ∧ (h1.push (seqObj "list" vs.toArray 0)).get? b = some q := fun b q e =>
    ⟨Nat.ne_of_lt (Heap.lt_size e), Heap.get?_push_of_some _ e⟩
  refine wpAny_bind (wpAny_holding (wpAny_call_entry slot_list_sort ⟨_, hoL, rfl⟩ entry_list_sort (SrtO.list_sort_ord SrtO.swo_int hoL hz (fun h2 => SrtO.ints_sortable hI h2) fun out hs hb => ⟨_, rfl, ?_⟩) (args_list_sort _)))
  obtain ⟨q1, q2, q3⟩ := SrtO.ints_out hI hs hb
  obtain ⟨e, he⟩ := sortedHeap_at (out := out.toArray) hoL
  refine wpAny_pure ⟨_, rfl, h h1 _ out _ e q1 q2 q3 k1 (fun b q eb => ?_) he⟩
  obtain ⟨n1, n2⟩ := keep b q eb
  rw [sortedHeap_old n1 (Heap.lt_size n2)]
  exact n2
def sortI (ns : List Int) : List Int := ns.mergeSort (fun a b => decide (a ≤ b))
theorem sortI_eq {ns ns' : List Int} (h1 : ns'.Perm ns) (h2 : ns'.Pairwise (· ≤ ·)) : ns' = sortI ns := by
  have p : (sortI ns).Perm ns := List.mergeSort_perm ns _
  have q : (sortI ns).Pairwise (· ≤ ·) := (List.pairwise_mergeSort (le := fun a b : Int => decide (a ≤ b)) (fun a b c h1 h2 => by simp at *; omega) (fun a b => by simp; omega) ns).imp fun h => by simpa using h
  exact (h1.trans p.symm).eq_of_pairwise (fun a b _ _ h1 h2 => by omega) h2 q
def opSort : R → M R := fun x S => match getL x S with
  | some l => match intsOf l with
    | some ns => .ok (.r S.st.length) { S with st := S.st ++ [.mu (.lst ((sortI ns).map .int))] }
    | none => .bad
  | none => .bad
section
variable {X : Cx} {c : Cg} {W : WX}
def rSortA (K : PySem.W.Frag) : List V → Hp → VK → Prop := fun xs H Q => ∃ a ns, xs = [.ref a] ∧ (SqL K H a (ns.map V.int) ∨ SqT K H a (ns.map V.int)) ∧ ∀ p, H p = none → Q (.ref p) (upd H p (.lst ((sortI ns).map V.int)))
theorem call_sortA : CallR X (.builtin "sorted") (rSortA X.K) := by
  intro pins s σ H xs us Q I r h
  obtain ⟨a, ns, rfl, hs, q⟩ := h
  obtain ⟨u, rfl, rx⟩ := vals1 r
  cases rx
  have all : ∀ (T : String) (its : List Value) (o : Obj) (n : Nat), T = "list" ∨ T = "tuple" → s.heap.get? a = some o → o.cls = .type T → o.data = .seq its.toArray n → Vals (ns.map V.int) its → (ns.map V.int).length ≤ sizeLine →
      wpAny (model X.prog X.w) X.A (call (.builtin "sorted") [.ref a]) (EP X pins σ Q) X.xe s := fun T its o n hT ho hc hd rv hz => by
    refine sorted_seqI hT ho hc hd rv.ints (by rw [← rv.length]; exact hz) fun h1 h' out ns' e q1 q2 q3 k1 k2 ho => ?_
    rw [List.length_map] at hz
    have I1 : L2.Inv X pins σ H { s with heap := h1 } := I.kept (t' := s.toks) k1
    have e' := sortI_eq q2 q3
    subst e'
    exact ⟨.ref h1.objs.size, upd H h1.objs.size (.lst ((sortI ns).map V.int)), I1.laid (t' := s.toks) k2 (Nat.le_refl _) ⟨by rw [List.length_map, q2.length_eq]; exact hz, out, e, vals_of_ints q1, ho⟩, rfl, q _ (I1.hok.fresh (Nat.le_refl _))⟩
  rcases hs with hs | hs
  · obtain ⟨its, rv, pl, hz⟩ := I.list hs
    obtain ⟨o, ho, hc, n, hd⟩ := pl.isList
    exact all _ its o n (.inl rfl) ho hc hd rv hz
  · obtain ⟨its, rv, pl, hz⟩ := I.tuple hs
    obtain ⟨o, ho, hc, n, hd⟩ := pl
    exact all _ its o n (.inr rfl) ho hc hd rv hz
theorem cd_sort (hK : X.K = c.K) : CallD c W (op1 opSort) (rSortA X.K) :=
  cd_one (r := fun v H Q => rSortA X.K [v] H Q) (by
    intro Γ S σ H x v Q F hv P
    unfold opSort at P
    cases hl : getL x S with
    | none => rw [hl] at P; exact P.elim
    | some l =>
      rw [hl] at P
      simp only at P
      cases hb : intsOf l with
      | none => rw [hb] at P; exact P.elim
      | some ns =>
        rw [hb] at P
        obtain ⟨a, vs, rfl, h1, h2⟩ := getL_ok F hv hl
        rw [intsOf_some hb] at h2
        rw [h2.ints] at h1
        refine ⟨a, ns, rfl, hK ▸ h1, fun p hp => ?_⟩
        have h3 : RepL c Γ.G ((sortI ns).map D.int) ((sortI ns).map V.int) := RepL.of_ints _
        obtain ⟨Γ3, e3, F3, r3⟩ := newL_ok F h3 hp
        exact Post.ok (c := c) (W := W) P e3 F3 _ r3) (fun v H Q h => h)
end
end Dd

set_option Elab.async false
set_option linter.all false
set_option maxRecDepth 100000
namespace Dd
open PySem PySem.Spec PyProof.Rows L2

/-! ### the rules in short -/
theorem FnG.mono {P : Program} {w : World} {K : PySem.W.Frag} {mg : Str → Option Value} {base : Heap} {j k : Nat} {f : Addr} {fd : FuncData} {ps : List Str} {sp : Sp} (F : FnG P w K mg base j f fd ps sp) (h : j ≤ k) : FnG P w K mg base k f fd ps sp :=
  ⟨F.len, fun A outer s H args us vs Q E hG hr => F.run A outer s H args us vs Q E hG (hr.mono h)⟩
def opSub : R → R → M R := opI0 fun i j => .int (i - j)
def opDiv : R → R → M R := opI CDivW fun i j => .int (i / j)
def opMod : R → R → M R := opI (fun _ j => 0 < j) fun i j => .int (i % j)
/-- a power of at most 2 ^ 27 bits -/
def CPowW (i j : Int) : Prop := 0 ≤ j ∧ (Builtin.Int.intBits i : Int) * j ≤ 2 ^ 27
instance (i j : Int) : Decidable (CPowW i j) := inferInstanceAs (Decidable (_ ∧ _))
theorem op_powW {X : Cx} : OpR X (binaryOp .Pow) (rI CPowW fun i j => .int (i ^ j.toNat)) := L2.opI fun _ _ _ _ _ _ _ hc q => pow_int hc.1 hc.2 q
def opPow : R → R → M R := opI CPowW fun i j => .int (i ^ j.toNat)
def opShl : R → R → M R := opI CShl fun i j => .int (i * 2 ^ j.toNat)
def opShr : R → R → M R := opI (fun _ j => 0 ≤ j) fun i j => .int (i / 2 ^ j.toNat)
def opBand : R → R → M R := opI0 fun i j => .int (Builtin.bitAnd i j)
def opLt : R → R → M R := opI0 fun i j => .bl (decide (i < j))
def opLe : R → R → M R := opI0 fun i j => .bl (decide (i ≤ j))
def opGt : R → R → M R := opI0 fun i j => .bl (decide (j < i))
def opGe : R → R → M R := opI0 fun i j => .bl (decide (j ≤ i))
def un1 (g : Int → D) (f : M R) : M R := do
  let x ← f
  fun S => match x with
    | .p (.int i) => .ok (.p (g i)) S
    | _ => .bad
def uNeg : M R → M R := un1 fun i => .int (-i)
section
variable {X : Cx} {c : Cg} {W : WX} {a b e o : Expr} {es : List Expr} {f fa fb fc : M R} {g : M (List R)} {p pos apos : Pos}
theorem repI {G : Hp} {i : Int} : Rep c G (.int i) (.int i) := Rep.int_iff.mpr rfl
theorem repB {G : Hp} {i : Bool} : Rep c G (.bl i) (.bl i) := Rep.bl_iff.mpr rfl
theorem hu64 {k : Nat} {A : Around} (hr : Room k A) : A.units + 64 < cLine := by have := hr.un; omega
theorem hu66 {k : Nat} {A : Around} (hr : Room k A) : A.units + 66 < cLine := by have := hr.un; omega
theorem e_neg (h : PE X a (rdE c W f)) : PE X (.UnaryOp .USub a pos) (rdE c W (uNeg f)) := se_of (pe_un un_neg h) fun σ H Q q => by
  obtain ⟨Γ, S, F, P⟩ := q
  refine ⟨Γ, S, F, (Post.bind P).imp fun x S1 Γ1 H1 e1 F1 ⟨_, P1⟩ v hv => ?_⟩
  cases x with
  | r n => exact P1.elim
  | p d =>
    cases d with
    | int i =>
      have := RepR.int hv
      subst this
      exact ⟨i, rfl, Post.ok (c := c) (W := W) P1 Gh.le.refl F1 _ RepR.mkI⟩
    | _ => exact P1.elim
theorem v_ (i : Nat) {x : Str} (hN : X.N[i]? = some x := by rfl) (hv : Vis X.env.scope x := by first | exact Or.inl rfl | exact Or.inr (Or.inl rfl) | exact Or.inr (Or.inr rfl)) (hd : (x == ("__debug__" : Str)) = false := by decide)
    (hcd : (x == ("__classdict__" : Str)) = false := by decide) : PE X (.Name x pos) (rdE c W (vr i)) := se_var (pv i hN hv hd hcd)
theorem e_add (ha : PE X a (rdE c W fa)) (hb : PE X b (rdE c W fb)) : PE X (.BinOp a .Add b pos) (rdE c W (bin opAdd fa fb)) := se_bin op_addA od_add ha hb
theorem e_sub (ha : PE X a (rdE c W fa)) (hb : PE X b (rdE c W fb)) : PE X (.BinOp a .Sub b pos) (rdE c W (bin opSub fa fb)) := se_bin op_sub (od_I0 fun _ _ _ => repI) ha hb
theorem e_mul (ha : PE X a (rdE c W fa)) (hb : PE X b (rdE c W fb)) : PE X (.BinOp a .Mult b pos) (rdE c W (bin opMul fa fb)) := se_bin op_mulA od_mul ha hb
theorem e_div (ha : PE X a (rdE c W fa)) (hb : PE X b (rdE c W fb)) : PE X (.BinOp a .FloorDiv b pos) (rdE c W (bin opDiv fa fb)) := se_bin op_fdivW (od_I fun _ _ _ => repI) ha hb
theorem e_mod (ha : PE X a (rdE c W fa)) (hb : PE X b (rdE c W fb)) : PE X (.BinOp a .Mod b pos) (rdE c W (bin opMod fa fb)) := se_bin op_mod (od_I fun _ _ _ => repI) ha hb
theorem e_pow (ha : PE X a (rdE c W fa)) (hb : PE X b (rdE c W fb)) : PE X (.BinOp a .Pow b pos) (rdE c W (bin opPow fa fb)) := se_bin op_powW (od_I fun _ _ _ => repI) ha hb
theorem e_shl (ha : PE X a (rdE c W fa)) (hb : PE X b (rdE c W fb)) : PE X (.BinOp a .LShift b pos) (rdE c W (bin opShl fa fb)) := se_bin op_shlW (od_I fun _ _ _ => repI) ha hb
theorem e_shr (ha : PE X a (rdE c W fa)) (hb : PE X b (rdE c W fb)) : PE X (.BinOp a .RShift b pos) (rdE c W (bin opShr fa fb)) := se_bin op_shr (od_I fun _ _ _ => repI) ha hb
theorem e_band (ha : PE X a (rdE c W fa)) (hb : PE X b (rdE c W fb)) : PE X (.BinOp a .BitAnd b pos) (rdE c W (bin opBand fa fb)) := se_bin op_and (od_I0 fun _ _ _ => repI) ha hb
theorem t_lt (ha : PE X a (rdE c W fa)) (hb : PE X b (rdE c W fb)) (hm : behindInMarks .Lt b = false := by rfl) : PT X (.Compare a [.Lt] [b] pos) (rdT c W (tst (bin opLt fa fb))) := st_cmp op_lt (od_I0 fun _ _ _ => repB) ha hb hm
theorem t_gt (ha : PE X a (rdE c W fa)) (hb : PE X b (rdE c W fb)) (hm : behindInMarks .Gt b = false := by rfl) : PT X (.Compare a [.Gt] [b] pos) (rdT c W (tst (bin opGt fa fb))) := st_cmp op_gt (od_I0 fun _ _ _ => repB) ha hb hm
theorem e_eq {k : Nat} (hr : Room k X.A) (hK : X.K = c.K) (ha : PE X a (rdE c W fa)) (hb : PE X b (rdE c W fb)) (hm : behindInMarks .Eq b = false := by rfl) : PE X (.Compare a [.Eq] [b] pos) (rdE c W (bin opEqD fa fb)) := se_cmp (op_eqD (hu64 hr)) (od_eqD hK) ha hb hm
theorem e_ne {k : Nat} (hr : Room k X.A) (hK : X.K = c.K) (ha : PE X a (rdE c W fa)) (hb : PE X b (rdE c W fb)) (hm : behindInMarks .NotEq b = false := by rfl) : PE X (.Compare a [.NotEq] [b] pos) (rdE c W (bin opNeD fa fb)) := se_cmp (op_neD (hu64 hr)) (od_neD hK) ha hb hm
theorem t_eq {k : Nat} (hr : Room k X.A) (hK : X.K = c.K) (ha : PE X a (rdE c W fa)) (hb : PE X b (rdE c W fb)) (hm : behindInMarks .Eq b = false := by rfl) : PT X (.Compare a [.Eq] [b] pos) (rdT c W (tst (bin opEqD fa fb))) := st_cmp (op_eqD (hu64 hr)) (od_eqD hK) ha hb hm
theorem t_ne {k : Nat} (hr : Room k X.A) (hK : X.K = c.K) (ha : PE X a (rdE c W fa)) (hb : PE X b (rdE c W fb)) (hm : behindInMarks .NotEq b = false := by rfl) : PT X (.Compare a [.NotEq] [b] pos) (rdT c W (tst (bin opNeD fa fb))) := st_cmp (op_neD (hu64 hr)) (od_neD hK) ha hb hm
theorem type_app : typeOf (.builtin "list.append") = pure (.type "method_descriptor") := by show builtinType _ = _; rw [builtinType_eq_fast]; kernel_rfl
theorem type_pop : typeOf (.builtin "list.pop") = pure (.type "method_descriptor") := by show builtinType _ = _; rw [builtinType_eq_fast]; kernel_rfl
theorem type_tidx : typeOf (.builtin "tuple.index") = pure (.type "method_descriptor") := by show builtinType _ = _; rw [builtinType_eq_fast]; kernel_rfl
end
end Dd

set_option Elab.async false
set_option linter.all false
set_option maxRecDepth 100000
namespace Dd
open PySem PySem.Spec PyProof.Rows L2
section
variable {X : Cx} {c : Cg} {W : WX} {a b e o : Expr} {es : List Expr} {f fa fb fc : M R} {g : M (List R)} {p pos apos : Pos} {k : Nat}
theorem e_len (hK : X.K = c.K) (hm : X.mg "len" = none) (ha : PE X a (rdE c W f)) (hg : Gl X "len" := by rfl) (he : starEach [a] X.env = (false, eval a X.env) :: starEach [] X.env := by rfl) (hpl : (backTo pos (starEach [] X.env)).any (·.1) = false := by rfl) :
    PE X (.Call (.Name "len" p) [a] [] pos) (rdE c W (opA (op1 opLen) (aC f aN))) := se_callB call_lenA (cd_len hK) hg hm (by decide +kernel) (sa_cons ha sa_nil he) (by decide) (by decide) he hpl
theorem e_int (hm : X.mg "int" = none) (ha : PE X a (rdE c W f)) (hg : Gl X "int" := by rfl) (he : starEach [a] X.env = (false, eval a X.env) :: starEach [] X.env := by rfl) (hpl : (backTo pos (starEach [] X.env)).any (·.1) = false := by rfl) :
    PE X (.Call (.Name "int" p) [a] [] pos) (rdE c W (opA (op1 opInt) (aC f aN))) := se_callTy call_int1 cd_int hg hm (by decide +kernel) (sa_cons ha sa_nil he) (by decide) (by decide) he hpl
theorem e_all (hK : X.K = c.K) (hc : X.calm = true) (hm : X.mg "all" = none) (ha : PE X a (rdE c W f)) (hg : Gl X "all" := by rfl) (he : starEach [a] X.env = (false, eval a X.env) :: starEach [] X.env := by rfl) (hpl : (backTo pos (starEach [] X.env)).any (·.1) = false := by rfl) :
    PE X (.Call (.Name "all" p) [a] [] pos) (rdE c W (opA (op1 opAll) (aC f aN))) := se_callB (cr_all hc) (cd_all hK) hg hm (by decide +kernel) (sa_cons ha sa_nil he) (by decide) (by decide) he hpl
theorem e_list (hK : X.K = c.K) (hc : X.calm = true) (hm : X.mg "list" = none) (ha : PE X a (rdE c W f)) (hg : Gl X "list" := by rfl) (he : starEach [a] X.env = (false, eval a X.env) :: starEach [] X.env := by rfl) (hpl : (backTo pos (starEach [] X.env)).any (·.1) = false := by rfl) :
    PE X (.Call (.Name "list" p) [a] [] pos) (rdE c W (opA (op1 opList) (aC f aN))) := se_callTy call_list_of (cd_list hK) hg hm (by decide +kernel) (sa_cons ha sa_nil he) (by decide) (by decide) he hpl
theorem e_tuple (hK : X.K = c.K) (hm : X.mg "tuple" = none) (ha : PE X a (rdE c W f)) (hg : Gl X "tuple" := by rfl) (he : starEach [a] X.env = (false, eval a X.env) :: starEach [] X.env := by rfl) (hpl : (backTo pos (starEach [] X.env)).any (·.1) = false := by rfl) :
    PE X (.Call (.Name "tuple" p) [a] [] pos) (rdE c W (opA (op1 opTuple) (aC f aN))) := se_callTy call_tupF (cd_tuple hK) hg hm (by decide +kernel) (sa_cons ha sa_nil he) (by decide) (by decide) he hpl
theorem e_sorted (hK : X.K = c.K) (hm : X.mg "sorted" = none) (ha : PE X a (rdE c W f)) (hg : Gl X "sorted" := by rfl) (he : starEach [a] X.env = (false, eval a X.env) :: starEach [] X.env := by rfl) (hpl : (backTo pos (starEach [] X.env)).any (·.1) = false := by rfl) :
    PE X (.Call (.Name "sorted" p) [a] [] pos) (rdE c W (opA (op1 opSort) (aC f aN))) := se_callB call_sortA (cd_sort hK) hg hm (by decide +kernel) (sa_cons ha sa_nil he) (by decide) (by decide) he hpl
theorem e_repr (hK : X.K = c.K) (hG : X.A.guards = some []) (hr : Room k X.A) (hm : X.mg "repr" = none) (ha : PE X a (rdE c W f)) (hg : Gl X "repr" := by rfl) (he : starEach [a] X.env = (false, eval a X.env) :: starEach [] X.env := by rfl) (hpl : (backTo pos (starEach [] X.env)).any (·.1) = false := by rfl) :
    PE X (.Call (.Name "repr" p) [a] [] pos) (rdE c W (opA (op1 opRepr) (aC f aN))) := se_callB (call_reprD hG (hu66 hr)) (cd_repr hK) hg hm (by decide +kernel) (sa_cons ha sa_nil he) (by decide) (by decide) he hpl
theorem e_max2 (hc : X.calm = true) (hm : X.mg "max" = none) (ha : PE X a (rdE c W fa)) (hb : PE X b (rdE c W fb)) (hg : Gl X "max" := by rfl) (he : starEach [a, b] X.env = (false, eval a X.env) :: starEach [b] X.env := by rfl) (he2 : starEach [b] X.env = (false, eval b X.env) :: starEach [] X.env := by rfl) (hpl : (backTo pos (starEach [b] X.env)).any (·.1) = false := by rfl) :
    PE X (.Call (.Name "max" p) [a, b] [] pos) (rdE c W (opA opMax2 (aC fa (aC fb aN)))) := se_callB (call_max2 hc) cd_max2 hg hm (by decide +kernel) (sa_cons ha (sa_cons hb sa_nil he2) he) (by decide) (by decide) he hpl
theorem e_app {cpos : Pos} (hK : X.K = c.K) (ho : PE X o (rdE c W f)) (ha : PE X a (rdE c W fa)) (hbase : attributeBase o "append" X.env (eval o X.env) = eval o X.env := by rfl)
    (hfew : ((backTo cpos (starEach [a] X.env)).all (fun x => !x.1) && (backToKw cpos (keywordEach [] X.env)).all (fun x => x.1.isSome) && decide (([a] : List Expr).length + ([] : List Keyword).length + (if ([] : List Keyword).isEmpty then 0 else 1) < 30)) = true := by rfl)
    (hline : (apos.endLine == cpos.line) = true := by rfl) (hs : starEach [a] X.env = (false, eval a X.env) :: starEach [] X.env := by rfl) (hplain : (backTo cpos (starEach [] X.env)).any (·.1) = false := by rfl) :
    PE X (.Call (.Attribute o "append" apos) [a] [] cpos) (rdE c W (methM isLst opApp f (aC fa aN))) := se_bm F.plainAttrs_list F.slot_list_append type_app tyOk_V mt_append (ty_lst hK) md_app ho (sa_cons ha sa_nil hs) hbase hfew hline hs hplain
theorem e_popAt {cpos : Pos} (hK : X.K = c.K) (ho : PE X o (rdE c W f)) (ha : PE X a (rdE c W fa)) (hbase : attributeBase o "pop" X.env (eval o X.env) = eval o X.env := by rfl)
    (hfew : ((backTo cpos (starEach [a] X.env)).all (fun x => !x.1) && (backToKw cpos (keywordEach [] X.env)).all (fun x => x.1.isSome) && decide (([a] : List Expr).length + ([] : List Keyword).length + (if ([] : List Keyword).isEmpty then 0 else 1) < 30)) = true := by rfl)
    (hline : (apos.endLine == cpos.line) = true := by rfl) (hs : starEach [a] X.env = (false, eval a X.env) :: starEach [] X.env := by rfl) (hplain : (backTo cpos (starEach [] X.env)).any (·.1) = false := by rfl) :
    PE X (.Call (.Attribute o "pop" apos) [a] [] cpos) (rdE c W (methM isLst opPopAt f (aC fa aN))) := se_bm F.plainAttrs_list F.slot_list_pop type_pop tyOk_V mt_popAt (ty_lst hK) md_popAt ho (sa_cons ha sa_nil hs) hbase hfew hline hs hplain
def opTIdx : R → List R → M R := fun x xs S => if isTup x S = true then opIdx x xs S else .bad
theorem e_tidx {cpos : Pos} (hK : X.K = c.K) (ho : PE X o (rdE c W f)) (ha : PE X a (rdE c W fa)) (hbase : attributeBase o "index" X.env (eval o X.env) = eval o X.env := by rfl)
    (hfew : ((backTo cpos (starEach [a] X.env)).all (fun x => !x.1) && (backToKw cpos (keywordEach [] X.env)).all (fun x => x.1.isSome) && decide (([a] : List Expr).length + ([] : List Keyword).length + (if ([] : List Keyword).isEmpty then 0 else 1) < 30)) = true := by rfl)
    (hline : (apos.endLine == cpos.line) = true := by rfl) (hs : starEach [a] X.env = (false, eval a X.env) :: starEach [] X.env := by rfl) (hplain : (backTo cpos (starEach [] X.env)).any (·.1) = false := by rfl) :
    PE X (.Call (.Attribute o "index" apos) [a] [] cpos) (rdE c W (methM isTup opTIdx f (aC fa aN))) := se_bm F.plainAttrs_tuple F.slot_tuple_index type_tidx tyOk_T mt_tup_idx (ty_tup hK) (md_idxT hK) ho (sa_cons ha sa_nil hs) hbase hfew hline hs hplain
/-- isinstance -/
theorem e_isB {n : String} (nm : Str) (hn : n ∈ ["bool", "int", "str", "tuple", "list", "dict"]) (cf : ClsF c.K (c.cls 0)) (hm : X.mg "isinstance" = none) (hm2 : X.mg nm = none) (hv : bootBuiltins nm = some (.type n)) (hK : X.K = c.K) (ha : PE X a (rdE c W f)) {q : Pos} (hg : Gl X "isinstance" := by rfl) (hg2 : Gl X nm := by rfl)
    (hs : starEach [a, .Name nm q] X.env = (false, eval a X.env) :: starEach [.Name nm q] X.env := by rfl) (hn1 : nm ≠ "__name__" := by decide) (hd : (nm == ("__debug__" : Str)) = false := by decide) :
    PE X (.Call (.Name "isinstance" p) [a, .Name nm q] [] pos) (rdE c W (isB n f)) := se_isB hK hn cf ha (pe_bltn hg2 hm2 hv rfl hn1 hd) hg hm hs (by rfl) (by rfl)
theorem e_isC {k : Nat} (nm : Str) (cf : ClsF c.K (c.cls k)) (hm : X.mg "isinstance" = none) (hm2 : X.mg nm = some (.ref (c.cls k))) (hK : X.K = c.K) (ha : PE X a (rdE c W f)) {q : Pos} (hg : Gl X "isinstance" := by rfl) (hg2 : Gl X nm := by rfl)
    (hs : starEach [a, .Name nm q] X.env = (false, eval a X.env) :: starEach [.Name nm q] X.env := by rfl) (hd : (nm == ("__debug__" : Str)) = false := by decide) :
    PE X (.Call (.Name "isinstance" p) [a, .Name nm q] [] pos) (rdE c W (isC k f)) := se_isC hK cf ha (pe_glob hg2 hm2 rfl hd) hg hm hs (by rfl) (by rfl)
theorem e_gI {x : Str} {i : Int} {t : Tok} (hm : X.mg x = some (.int i t)) (hg : Gl X x := by rfl) (hd : (x == ("__debug__" : Str)) = false := by decide) : PE X (.Name x pos) (rdE c W (cd (.int i))) := se_glob (fun _ => repI) (pe_glob hg hm ⟨_, rfl⟩ hd)
end
end Dd
namespace Dd
open PySem PySem.Spec PyProof.Rows L2
section
variable {X : Cx} {c : Cg} {W : WX} {elt tg iter : Expr} {ifs : List Expr} {scope : Scope} {pos spos py : Pos} {own : List (Str × Nat)} {vs : List Nat} {it : M (Itm D)} {itw : M (Itm (List D))} {tt : M Bool} {f : M R} {ks : List Nat} {i j n : Nat} {y : Str}
theorem lc1_ (hv : own.map (·.2) = vs) (hc : X.calm = true) (hN : X.N.Nodup) (hi : PI X tg iter (rdI c W it)) (ok : BlkOk X.N X.env.scope scope own) (hm : i ∈ vs)
    (hg : InBlk X scope fun Y => PG Y tg (gName i)) (ht : InBlk X scope fun Y => PTs Y ifs (rdT c W0 tt)) (he : InBlk X scope fun Y => PE Y elt (rdE c W0 f)) (hs : ∀ x, foldedSetIterable iter X.env x = pure x := by intro _; rfl) :
    PE X (.ListComp elt [⟨tg, iter, ifs, 0⟩] scope pos) (rdE c W (lcE vs [i] unp1 it tt f)) := by subst hv; exact se_lc1 hc hN hi ok hm hg ht he hs
theorem slc1_ (hv : own.map (·.2) = vs) (hc : X.calm = true) (hN : X.N.Nodup) (hy : X.N[j]? = some y) (hyl : X.env.scope.names.lookup y = some .local) (hsw : swapsWith (.ListComp elt [⟨tg, iter, ifs, 0⟩] scope pos) (some (.Name y py)) spos.line X.env = pure true)
    (hi : PI X tg iter (rdI c W it)) (ok : BlkOk X.N X.env.scope scope own) (hm : i ∈ vs)
    (hg : InBlk X scope fun Y => PG Y tg (gName i)) (ht : InBlk X scope fun Y => PTs Y ifs (rdT c W0 tt)) (he : InBlk X scope fun Y => PE Y elt (rdE c W0 f)) (hs : ∀ x, foldedSetIterable iter X.env x = pure x := by intro _; rfl) :
    PS X (.Assign [.Name y py] (.ListComp elt [⟨tg, iter, ifs, 0⟩] scope pos) spos) (rdS c W (sSet j (lcE vs [i] unp1 it tt f))) := by subst hv; exact ss_lc1 hc hN hy hyl hsw hi ok hm hg ht he hs
end
end Dd
namespace Dd
open PySem PySem.Spec PyProof.Rows L2
theorem takesW0 {X : Cx} : Takes X W0 := fun u s' ⟨_, _, _, _, _, _, _, _, _, _, _, _, _, _, _, _, w⟩ => w.elim
theorem FnG.bad {P : Program} {w : World} {K : PySem.W.Frag} {mg : Str → Option Value} {base : Heap} {k n : Nat} {f : Addr} {fd : FuncData} {ps : List Str} {c : Cg} (h : n = ps.length) : FnG P w K mg base k f fd ps (spF c n fun _ _ => .bad) :=
  ⟨fun vs H Q E ⟨_, _, _, e, _⟩ => e.trans h, fun A outer s H args us vs Q E hG hr e0 b r ⟨_, _, _, _, _, _, q⟩ => q.elim⟩
theorem gsN_len : ∀ (ds : List D) (S : Sg), ds.length ≠ 0 → gsN ds S = .bad := fun ds S h => by
  cases ds with
  | nil => exact (h rfl).elim
  | cons d r => rfl
theorem gsC_len {t : Tg} {u : List D → M Unit} {n : Nat} (h1 : ∀ d S x S', t d S ≠ .exc x S') (h2 : ∀ (ds : List D) (S : Sg), ds.length ≠ n → u ds S = .bad) : ∀ (ds : List D) (S : Sg), ds.length ≠ n + 1 → gsC t u ds S = .bad := fun ds S h => by
  cases ds with
  | nil => rfl
  | cons d r =>
    show (t d >>= fun _ => u r) S = .bad
    rw [bind_ap]
    have hr : r.length ≠ n := fun e => h (by rw [List.length_cons, e])
    cases e : t d S with
    | ok a S1 => exact h2 r S1 hr
    | exc x S1 => exact (h1 _ _ _ _ e).elim
    | bad => rfl
end Dd

set_option Elab.async false
set_option linter.all false
set_option maxRecDepth 100000
namespace Dd
open PySem PySem.Spec PyProof.Rows L2
/-- x, y = l, l a list -/
def gL (n : Nat) (u : List D → M Unit) : Tg := fun d S => match d with
  | .lst l => if l.length = n then u l S else .bad
  | _ => .bad
theorem gL_noexc {n : Nat} {u : List D → M Unit} (h2 : ∀ d S x S', u d S ≠ .exc x S') : ∀ d S x S', gL n u d S ≠ .exc x S' := fun d S x S' h => by
  cases d with
  | lst l =>
    have h : (if l.length = n then u l S else .bad) = .exc x S' := h
    split at h
    · exact h2 _ _ _ _ h
    · cases h
  | _ => cases h
section
variable {X : Cx} {c : Cg} {W : WX} {es : List Expr} {pos : Pos} {u : List D → M Unit}
theorem sg_lst {k : Nat} {n : Nat} (hc : X.calm = true) (hK : X.K = c.K) (h : PGs X es (rdGs c W u)) (hn : (assignEach es X.env).length = n := by rfl) (hst : (assignEach es X.env).findIdx? (·.1) = none := by rfl) : PG X (.Tuple es k pos) (rdG c W (gL n u)) :=
  sg_of (pg_lst hc h hn hst) fun v σ H Q q => by
    obtain ⟨Γ, S, d, F, r, k⟩ := q
    cases d with
    | lst l =>
      obtain ⟨a, vs, h1, h2, h3⟩ := Rep.lst_iff.mp r
      have k : match (if l.length = n then u l S else .bad) with | .ok _ S' => ∀ Γ' σ' H', Γ.le Γ' → FrOk c Γ' S' σ' H' → Q σ' H' | _ => False := k
      by_cases hl : l.length = n
      · rw [if_pos hl] at k
        exact ⟨a, vs, h1, hK ▸ SqL.mono F.s.g (.inl (.inl h2)), by rw [h3.length, hl], Γ, S, l, F, h3, k⟩
      · rw [if_neg hl] at k; exact k.elim
    | _ => exact k.elim
end
end Dd

set_option Elab.async false
set_option linter.all false
set_option maxRecDepth 100000
namespace Dd
open PySem PySem.Spec PyProof.Rows L2
/-! ### the end: the law's call -/
section
variable {P : Program} {w : World} {K : PySem.W.Frag} {mg mb : Str → Option Value} {k : Nat} {fa a : Addr} {fd : FuncData} {x : Str} {sp : Sp} {s₁ : Shared} {vs : List Value} {ns : List Int}
/-- what is tracked at the start: the script, and nothing where K has it -/
def Hp0 (K : PySem.W.Frag) (a : Addr) (o : Obj) (u : HO) : Hp := fun b => if b = a ∧ K.lookup a = none then some (.frz o u) else none
theorem hp0_some {o : Obj} {u : HO} {b : Addr} {z : HO} (h : Hp0 K a o u b = some z) : b = a ∧ K.lookup a = none ∧ z = .frz o u := by
  unfold Hp0 at h
  split at h
  · rename_i q
    cases h
    exact ⟨q.1, q.2, rfl⟩
  · cases h
theorem call_lawG (KX : K.In s₁.heap) (hns : s₁.heap.Ns mainGlobals mg) (hb : s₁.heap.Ns builtinsNs mb) (hbb : ∀ x : Str, x ≠ "__name__" → mb x = bootBuiltins x) (hlim : s₁.heap.NoLimit) (hg : s₁.gens = #[])
    (ha : s₁.heap.get? a = some { cls := .type "list", data := .seq vs.toArray }) (hi : IntsAre vs ns) (hl : ns.length ≤ sizeLine) (hr : Room k callerA)
    (F : ∀ base : Heap, K.In base → base.Ns mainGlobals mg → FnG P w K mg base k fa fd [x] sp) (hbind : ∀ (s : Shared) (u : Value), BindsTo s fd ⟨[u], []⟩ [(x, u)])
    (hsp : ∀ H : Hp, SqL K H a (ns.map V.int) → sp [.ref a] H (fun v _ => v = .bl true) fun _ _ _ => False) :
    codeAny (model P w) callerA (.call (.ref fa) ⟨[.ref a], []⟩) (fun r s' => r = .ok (.ret (.bool true)) ∧ OldK s₁.heap s'.heap ∧ s'.os = s₁.os ∧ AllBare s'.gens) s₁ := by
  have rv : Vals (ns.map V.int) vs := vals_ints hi
  have hlen : (ns.map V.int).length ≤ sizeLine := by rw [List.length_map]; exact hl
  let o : Obj := { cls := .type "list", data := .seq vs.toArray }
  let H : Hp := Hp0 K a o (.lst (ns.map V.int))
  have only : ∀ {b : Addr} {z : HO}, H b = some z → b = a ∧ K.lookup a = none ∧ z = .frz o (.lst (ns.map V.int)) := fun h => hp0_some h
  have hS : SqL K H a (ns.map V.int) := by
    cases hk : K.lookup a with
    | none => exact .inl (.inr ⟨o, if_pos ⟨rfl, hk⟩⟩)
    | some o' =>
      have e := KX a o' hk
      rw [ha] at e
      cases e
      exact .inr ⟨_, vs.toArray, _, hk, rfl, rfl, rfl, by rw [List.size_toArray, ← rv.length]; exact hlen, by simpa using rv⟩
  have hok : HOk P w H s₁.heap := fun b z h => by
    obtain ⟨rfl, _, rfl⟩ := only h
    exact ⟨ha, hlen, vs, _, rv, ha⟩
  have free : ∀ {b : Addr} {q : Obj}, s₁.heap.get? b = some q → H b = none → (hidT s₁.heap H).get? b = some q := fun e n => hidT_get e n
  have nsOf : ∀ {b : Addr} {m : Str → Option Value}, s₁.heap.Ns b m → (hidT s₁.heap H).Ns b m := fun {b m} ⟨q, es, ep, e, d, r⟩ => by
    refine ⟨q, es, ep, free e ?_, d, r⟩
    cases h : H b with
    | none => rfl
    | some z =>
      obtain ⟨rfl, _, _⟩ := only h
      rw [ha] at e
      cases e
      have d' : Data.seq vs.toArray _ = Data.dict es ep := d
      cases d'
  have hKb : K.In (hidT s₁.heap H) := fun b q e => free (KX b q e) (by
    cases h : H b with
    | none => rfl
    | some z =>
      obtain ⟨rfl, hk, _⟩ := only h
      rw [hk] at e
      cases e)
  have hM : Mod K mg (hidT s₁.heap H) := ⟨hKb, nsOf hns, ⟨mb, nsOf hb, hbb⟩, let ⟨mc, h1, h2⟩ := hlim; ⟨mc, nsOf h1, h2⟩⟩
  have e0 : Env0 P w K mg (hidT s₁.heap H) callerA [] s₁ H :=
    ⟨rfl, hM, fun b q e => of_hidT e, Nat.le_of_eq (hidT_size _ _), trivial, fun b hb => absurd (show b ∈ ([] : List Addr) from hb) (by simp), hok, .of_eq hg⟩
  have run := (F _ hKb (nsOf hns)).run callerA [] s₁ H ⟨[.ref a], []⟩ [.ref a] [.ref a] _ _ rfl hr e0 (hbind s₁ (.ref a)) (.cons rfl .nil) (hsp H hS)
  refine codeAny_mono run fun r s' h => ?_
  cases r with
  | error e => obtain ⟨_, _, _, _, _, _, _, _, _, _, _, _, h⟩ := h; exact h.elim
  | ok fl =>
    cases fl with
    | next => exact False.elim h
    | brk => exact False.elim h
    | cont => exact False.elim h
    | ret u =>
      obtain ⟨v, H', os, bare, un, hok', r', q⟩ := h
      have q' : v = .bl true := q
      subst q'
      obtain rfl : u = Value.bool true := r'
      refine ⟨rfl, OldK.of_keep fun b q e => ?_, os, bare⟩
      cases h : H b with
      | none => exact un.keep b q e h (fun z => absurd (show b ∈ ([] : List Addr) from z) (by simp)) (by simp)
      | some z =>
        obtain ⟨rfl, _, rfl⟩ := only h
        obtain ⟨e2, _⟩ := hok' b _ (un.frzs b o _ h)
        rw [ha] at e
        cases e
        exact e2
theorem RepL.scriptE {c : Cg} {ns : List Int} {H : Hp} {a : Addr} (h : SqL c.K H a (ns.map V.int)) : Rep c H (.scp (ns.map D.int)) (.ref a) := Rep.scp_iff.mpr ⟨a, _, rfl, h, RepL.of_ints ns⟩
end
theorem walk_ofG {l : PySem.W.OpenLaw} {n k : Nat} {q : Program} {loose : List Str} {XP : (Str → Option Value) → Heap → Prop} {YP : World → Heap → Prop} {d : DefRec} {K : Params → PySem.W.Frag} {x : Str} {F : Fn}
    (hn : l.most = some n) (hn2 : n ≤ sizeLine) (hdf : d.params.defaults = []) (hr : Room k callerA) (hY : ∀ (w : World) (h : Heap), YP w h → (K w.params).In h)
    (hF : ∀ (w : World) (mg : Str → Option Value) (fa : Addr) (h : Heap), (K w.params).In h → h.Ns mainGlobals mg → mg d.name = some (.ref fa) →
      ∃ (cls fna : Nat → Addr) (fd : FuncData), (∀ (s : Shared) (u : Value), BindsTo s fd ⟨[u], []⟩ [(x, u)]) ∧
        ∀ base : Heap, (K w.params).In base → base.Ns mainGlobals mg → FnG l.prog w (K w.params) mg base k fa fd [x] (spF ⟨K w.params, cls, fna⟩ 1 F))
    (hlaw : ∀ ns : List Int, ns.length ≤ n → ∃ st, F [.p (.scp (ns.map D.int))] [] = .ok (.val (.bl true)) st) :
    PySem.W.WalkO q loose XP YP l.row.toRowW d [] (fun f vs => PySem.call f vs) := by
  refine Att.attach_call hn hdf fun w s₀ s₁ mg mb fa o pm cd doc a vs ns G Y ho hd hcd hmg hobj hints hlen hg => ?_
  have KX := hY w _ Y
  obtain ⟨cls, fna, fd, hb, hFF⟩ := hF w mg fa _ KX G.T.g hmg
  refine call_lawG KX G.T.g G.T.b G.T.builtins G.T.nolimit hg hobj hints (Nat.le_trans hlen hn2) hr hFF hb fun H hS => ?_
  obtain ⟨st, e⟩ := hlaw ns hlen
  refine ⟨[.p (.scp (ns.map D.int))], ⟨H, fun _ => none, [], fun _ => none⟩, [], rfl, ⟨.ref a, [], rfl, RepL.scriptE (c := ⟨K w.params, cls, fna⟩) hS, rfl⟩, ?_, ?_⟩
  · exact ⟨fun _ _ h => h, (fun _ _ h => by cases h), (fun _ _ h => by cases h), rfl, (fun n z b h => by simp at h), (fun n m b p u h => by simp at h), (fun _ _ _ _ h => by cases h)⟩
  · rw [e]
    intro Γ' H' v le S hv
    exact Rep.bl_iff.mp hv
theorem ClsF.of {K : PySem.W.Frag} {C : Addr} (cl : Cls K C) (ha : PySem.W.findIn K (.ref C) "__class__" = some (some (.builtin "object.__class__")))
    (hn : PySem.W.specialIn K (.builtin "object.__class__") "__get__" = some (some (.builtin "getset_descriptor.__get__"))) (tk : PySem.W.takesIn K (.builtin "object.__class__") = some true) (mro : PySem.W.mroIn K C (.type "object") = some true)
    (ty : PySem.W.typeIn K (.ref C) = some (.type "type")) (y : ∀ t ∈ ["bool", "int", "str", "tuple", "list", "dict"], PySem.W.subIn K (.ref C) (.type t) = some false)
    (z : ∀ t ∈ ["NoneType", "bool", "int", "str", "tuple", "list", "dict"], PySem.W.subIn K (.type t) (.ref C) = some false) : ClsF K C := by
  have hc : (PySem.W.clsIn K C).isSome = true := by
    obtain ⟨cd, hc, _⟩ := PySem.W.any_some cl.hd
    rw [hc]
    rfl
  refine ⟨cl, ha, hn, tk, mro, ?_, fun t ht => ?_, fun t ht => ?_, z⟩
  · unfold PySem.W.kitOne
    rw [if_pos (beq_self_eq_true _)]
  · unfold PySem.W.kitOne
    have e : (Value.type t == Value.ref C) = false := by rfl
    rw [e, if_neg (by decide)]
    show (if ((PySem.W.clsIn K C).isSome && PySem.W.typeIn K (.ref C) == some (.type "type")) = true then PySem.W.subIn K (.type t) (.ref C) else none) = _
    rw [hc, ty, if_pos (by rfl)]
    exact z t ht
  · unfold PySem.W.kitOne
    have e : (Value.ref C == Value.type t) = false := by rfl
    rw [e, if_neg (by decide)]
    show (if PySem.W.kitMeta t = true then PySem.W.subIn K (.ref C) (.type t) else none) = _
    have m : PySem.W.kitMeta t = true := by
      simp only [List.mem_cons, List.not_mem_nil, or_false] at ht
      rcases ht with rfl | rfl | rfl | rfl | rfl | rfl <;> decide +kernel
    rw [if_pos m]
    exact y t ht
end Dd

set_option Elab.async false
set_option linter.all false
set_option maxRecDepth 100000
namespace Dd
open PySem PySem.Spec PyProof.Rows L2
/-! ### name += int, while -/
/-- name op= an int -/
def sAug (g : Int → Int → Int) (i : Nat) (f : M R) : M Fl := fun S => match S.sl[i]? with
  | some (some (.p (.int x))) => (match f S with
    | .ok (.p (.int y)) S1 => .ok .nx { S1 with sl := S1.sl.set i (some (.p (.int (g x y)))) }
    | .ok _ _ => .bad
    | .exc z S1 => .exc z S1
    | .bad => .bad)
  | _ => .bad
/-- a while, at most n turns -/
def whileN (t : M Bool) (h : M Fl) : Nat → M Fl
  | 0 => bad
  | n + 1 => fun S => match t S with
    | .ok true S1 => (match h S1 with
      | .ok .nx S2 => whileN t h n S2
      | .ok .ct S2 => whileN t h n S2
      | .ok .bk S2 => .ok .nx S2
      | .ok (.rt x) S2 => .ok (.rt x) S2
      | .exc x S2 => .exc x S2
      | .bad => .bad)
    | .ok false S1 => .ok .nx S1
    | .exc x S1 => .exc x S1
    | .bad => .bad
theorem whileN_mono {t : M Bool} {h : M Fl} : ∀ {n : Nat} {S : Sg}, whileN t h n S ≠ .bad → ∀ m, n ≤ m → whileN t h m S = whileN t h n S
  | 0, S, hn, m, hm => (hn rfl).elim
  | n + 1, S, hn, m, hm => by
    obtain ⟨k, rfl⟩ : ∃ k, m = k + 1 := ⟨m - 1, by omega⟩
    unfold whileN at hn ⊢
    cases e : t S with
    | bad => rfl
    | exc x S1 => rfl
    | ok b S1 =>
      cases b with
      | false => rfl
      | true =>
        rw [e] at hn
        simp only at hn ⊢
        cases e2 : h S1 with
        | bad => rfl
        | exc x S2 => rfl
        | ok f S2 =>
          rw [e2] at hn
          cases f with
          | nx => exact whileN_mono hn k (by omega)
          | ct => exact whileN_mono hn k (by omega)
          | bk => rfl
          | rt x => rfl
open Classical in
noncomputable def sWhile (t : M Bool) (h : M Fl) : M Fl := fun S => if q : ∃ n, whileN t h n S ≠ .bad then whileN t h q.choose S else .bad
theorem sWhile_of {t : M Bool} {h : M Fl} {S : Sg} {n : Nat} {r : Res Fl} (e : whileN t h n S = r) (hr : r ≠ .bad) : sWhile t h S = r := by
  have q : ∃ n, whileN t h n S ≠ .bad := ⟨n, by rw [e]; exact hr⟩
  unfold sWhile
  rw [dif_pos q, ← e]
  have a := q.choose_spec
  rw [← whileN_mono a (max n q.choose) (Nat.le_max_right _ _), ← whileN_mono (n := n) (by rw [e]; exact hr) (max n q.choose) (Nat.le_max_left _ _)]
section
variable {X : Cx} {c : Cg} {W : WX} {tg e a b : Expr} {es : List Expr} {f fa fb : M R} {g : M (List R)} {h : M Fl} {t : M Bool} {pos pos' p : Pos} {body : List Stmt}
theorem ss_while (hp : PassesOwn (model X.prog X.w) X.A X.env X.xe) (hc : PT X e (rdT c W t)) (hb : PSs X body (rdS c W h)) : PS X (.While e body [] pos) (rdS c W (sWhile t h)) := ss_of (ps_while hp hc hb) fun E σ H q => by
  obtain ⟨Γ, S, F, P⟩ := q
  unfold sWhile at P
  split at P
  · rename_i q
    refine ⟨fun m σ H => ∃ Γ S, FrOk c Γ S σ H ∧ PostS c W Γ (whileN t h m S) E, ⟨_, Γ, S, F, P⟩, ?_⟩
    rintro m σ H ⟨Γ, S, F, P⟩
    cases m with
    | zero => exact P.elim
    | succ m =>
      unfold whileN at P
      refine ⟨Γ, S, F, ?_⟩
      cases q1 : t S with
      | bad => rw [q1] at P; exact P
      | exc z S1 => rw [q1] at P; exact fun Γ' H' cls dd e' f q => P Γ' σ H' cls dd e' f q
      | ok b S1 =>
        rw [q1] at P
        intro Γ1 H1 le F1
        cases b with
        | false =>
          show E.nx σ H1
          exact P Γ1 σ H1 le F1
        | true =>
          show ∃ N : L2.St → Hp → Prop, _
          refine ⟨fun σ H => ∃ Γ S, FrOk c Γ S σ H ∧ PostS c W Γ (whileN t h m S) E, fun σ' H' w => ⟨m, by omega, w⟩, Γ1, S1, F1, ?_⟩
          have P : PostS c W Γ (match h S1 with
            | .ok .nx S2 => whileN t h m S2
            | .ok .ct S2 => whileN t h m S2
            | .ok .bk S2 => .ok .nx S2
            | .ok (.rt x) S2 => .ok (.rt x) S2
            | .exc x S2 => .exc x S2
            | .bad => .bad) E := P
          cases q2 : h S1 with
          | bad => rw [q2] at P; exact P
          | exc z S2 => rw [q2] at P; exact fun Γ' σ' H' cls dd e' f q => P Γ' σ' H' cls dd (le.trans e') f q
          | ok fl S2 =>
            rw [q2] at P
            cases fl with
            | nx => exact fun Γ' σ' H' e' f => ⟨Γ', S2, f, P.le (le.trans e')⟩
            | ct => exact fun Γ' σ' H' e' f => ⟨Γ', S2, f, P.le (le.trans e')⟩
            | bk => exact fun Γ' σ' H' e' f => P Γ' σ' H' (le.trans e') f
            | rt x => exact fun Γ' σ' H' v e' f q => P Γ' σ' H' v (le.trans e') f q
  · exact P.elim
/-! ### ranges of any ints, by ones; downward -/
end
section
variable {X : Cx} {c : Cg} {W : WX} {tg e a b o : Expr} {es : List Expr} {f fa fb : M R} {g ga : M (List R)} {h : M Fl} {t : M Bool} {pos pos' p : Pos} {body : List Stmt}
def rngL (xs : List R) (S : Sg) : Res (Itm D) := match asI2 xs with
  | some q => .ok ⟨fun _ => True, intsFrom q.1 (q.2 - q.1).toNat⟩ S
  | none => .bad
def itR2L (g : M (List R)) : M (Itm D) := g >>= rngL
/-- range(i, j, -1) -/
def asI3 : List R → Option (Int × Int × Int)
  | [.p (.int i), .p (.int j), .p (.int k)] => some (i, j, k)
  | _ => none
def rng3 (xs : List R) (S : Sg) : Res (Itm D) := match asI3 xs with
  | some q => if q.2.2 = -1 ∧ -(2 ^ 62) ≤ q.1 ∧ q.1 < 2 ^ 62 ∧ -(2 ^ 62) ≤ q.2.1 ∧ q.2.1 < 2 ^ 62 then .ok ⟨fun _ => True, downFrom q.1 (-1) (q.1 - q.2.1).toNat⟩ S else .bad
  | none => .bad
def itR3 (g : M (List R)) : M (Itm D) := g >>= rng3
/-! ### in, not in -/
def flatD : D → Option V
  | .non => some .non
  | .bl b => some (.bl b)
  | .int i => some (.int i)
  | .str s => some (.str s)
  | _ => none
def flatL : List D → Option (List V)
  | [] => some []
  | d :: ds => match flatD d with
    | some v => (match flatL ds with
      | some vs => some (v :: vs)
      | none => none)
    | none => none
def opInG (neg : Bool) : R → R → M R := fun x y S => match x with
  | .p d => (match flatD d with
    | some v => (match getL y S with
      | some l => (match flatL l with
        | some vs => .ok (.p (.bl (if neg then !inV v vs else inV v vs))) S
        | none => .bad)
      | none => .bad)
    | none => .bad)
  | _ => .bad
def opIn : R → R → M R := opInG false
def opNotIn : R → R → M R := opInG true
def opBxor : R → R → M R := opI0 fun i j => .int (Builtin.bitXor i j)
theorem e_bxor (ha : PE X a (rdE c W fa)) (hb : PE X b (rdE c W fb)) : PE X (.BinOp a .BitXor b pos) (rdE c W (bin opBxor fa fb)) := se_bin op_xor (od_I0 fun _ _ _ => repI) ha hb
/-! ### max, min of a list of ints -/
def maxI : List Int → Int
  | [] => 0
  | n :: ns => ns.foldl max n
def minI : List Int → Int
  | [] => 0
  | n :: ns => ns.foldl min n
def extK (F : List Int → Int) (S : Sg) : Option (List D) → Res R
  | some l => (match intsOf l with
    | some ns => if 0 < ns.length then .ok (.p (.int (F ns))) S else .bad
    | none => .bad)
  | none => .bad
def opMaxL : R → M R := fun x S => extK maxI S (getLst x S)
def opMinL : R → M R := fun x S => extK minI S (getLst x S)
/-! ### [*a, *b] -/
def ofD : List D → List R := List.map R.p
def aS (f : M R) (g : M (List R)) : M (List R) := do
  let x ← f
  fun S => match getL x S with
    | some l => (match g S with
      | .ok ys S2 => .ok (ofD l ++ ys) S2
      | .exc z S2 => .exc z S2
      | .bad => .bad)
    | none => .bad
theorem RepRL.ofD {Γ : Gh} : ∀ {l : List D} {vs : List V}, RepL c Γ.G l vs → RepRL c Γ (ofD l) vs
  | [], vs, h => RepL.nil_iff.mp h
  | d :: ds, vs, h => by
    obtain ⟨v, r, rfl, h1, h2⟩ := RepL.cons_iff.mp h
    exact ⟨v, r, rfl, h1, RepRL.ofD h2⟩
theorem RepRL.app {Γ : Gh} : ∀ {xs ys : List R} {vs ws : List V}, RepRL c Γ xs vs → RepRL c Γ ys ws → RepRL c Γ (xs ++ ys) (vs ++ ws)
  | [], ys, vs, ws, h, k => by rw [show vs = [] from h]; exact k
  | x :: xs, ys, vs, ws, h, k => by
    obtain ⟨v, r, rfl, h1, h2⟩ := h
    exact ⟨v, r ++ ws, rfl, h1, RepRL.app h2 k⟩
theorem sa_star (hK : X.K = c.K) (ha : PE X e (rdE c W f)) (hr : PA X es (rdA c W g)) (hs : starEach (.Starred e p :: es) X.env = (true, eval e X.env) :: starEach es X.env := by rfl) : PA X (.Starred e p :: es) (rdA c W (aS f g)) :=
  sa_of (StX.pa_star ha hr hs) fun σ H Q q => by
    obtain ⟨Γ, S, F, P⟩ := q
    refine ⟨Γ, S, F, ?_⟩
    refine (Post.bind P).imp fun x S1 Γ1 H1 e1 F1 ⟨_, P1⟩ v hv => ?_
    cases q : getL x S1 with
    | none => rw [q] at P1; exact P1.elim
    | some l =>
      rw [q] at P1
      have P1 : Post c W σ Γ1 (match g S1 with
        | .ok ys S2 => .ok (ofD l ++ ys) S2
        | .exc z S2 => .exc z S2
        | .bad => .bad) _ := P1
      obtain ⟨a, vs, rfl, h1, h2⟩ := getL_ok F1 hv q
      refine ⟨a, vs, rfl, by rw [hK]; exact h1.symm, Γ1, S1, F1, ?_⟩
      cases q2 : g S1 with
      | bad => rw [q2] at P1; exact P1
      | exc z S2 => rw [q2] at P1; exact P1
      | ok ys S2 =>
        rw [q2] at P1
        intro Γ2 H2 e2 F2 ws hws
        exact P1 Γ2 H2 e2 F2 (vs ++ ws) (RepRL.app (RepRL.ofD (RepL.mono e2.g h2)) hws)
end
end Dd

set_option Elab.async false
set_option linter.all false
set_option maxRecDepth 100000
namespace Dd
open PySem PySem.Spec PyProof.Rows L2
/-! ### meanings, worked out -/
/-- what simp shall not look into: k stands fixed, since u's type speaks of it -/
structure Pk {α β : Type} (k : α → Sg → Res β) : Type where
def Res.bnd {α β : Type} (r : Res α) (k : α → Sg → Res β) (u : Pk k := ⟨⟩) : Res β := match r with
  | .ok a S => k a S
  | .exc x S => .exc x S
  | .bad => .bad
theorem bnd_ext {α β : Type} {r : Res α} {k k' : α → Sg → Res β} (h : ∀ a S, k a S = k' a S) : r.bnd k = r.bnd k' := by
  have : k = k' := by funext a S; exact h a S
  subst this; rfl
section
variable {α β : Type}
theorem bnd_ok {a : α} {S : Sg} {k : α → Sg → Res β} : (Res.ok a S).bnd k = k a S := Eq.trans rfl rfl
theorem bnd_exc {x : Xn} {S : Sg} {k : α → Sg → Res β} : (Res.exc x S).bnd k = .exc x S := Eq.trans rfl rfl
theorem bnd_bad {k : α → Sg → Res β} : (Res.bad).bnd k = .bad := Eq.trans rfl rfl
theorem bind_bnd (f : M α) (g : α → M β) (S : Sg) : (f >>= g) S = (f S).bnd g := by rw [bind_ap]; cases f S <;> rfl
def ifK (h1 h2 : M α) (b : Bool) (S : Sg) : Res α := if b = true then h1 S else h2 S
theorem ifK_t {h1 h2 : M α} {S : Sg} : ifK h1 h2 true S = h1 S := Eq.trans rfl rfl
theorem ifK_f {h1 h2 : M α} {S : Sg} : ifK h1 h2 false S = h2 S := Eq.trans rfl rfl
theorem ifK_d {h1 h2 : M α} {S : Sg} {p : Prop} [Decidable p] : ifK h1 h2 (decide p) S = if p then h1 S else h2 S := by unfold ifK; by_cases h : p <;> simp [h]
theorem ifK_n {h1 h2 : M α} {S : Sg} {b : Bool} : ifK h1 h2 (!b) S = ifK h2 h1 b S := by cases b <;> rfl
/-! statements -/
def seqK (h : M Fl) : Fl → Sg → Res Fl
  | .nx, S => h S
  | x, S => .ok x S
theorem seqK_nx {h : M Fl} {S : Sg} : seqK h .nx S = h S := Eq.trans rfl rfl
theorem seqK_rt {h : M Fl} {S : Sg} {x : R} : seqK h (.rt x) S = .ok (.rt x) S := Eq.trans rfl rfl
theorem seqK_bk {h : M Fl} {S : Sg} : seqK h .bk S = .ok .bk S := Eq.trans rfl rfl
theorem seqK_ct {h : M Fl} {S : Sg} : seqK h .ct S = .ok .ct S := Eq.trans rfl rfl
theorem sSq_ap (h1 h2 : M Fl) (S : Sg) : sSq h1 h2 S = (h1 S).bnd (seqK h2) := by
  unfold sSq
  rw [bind_ap]
  cases h1 S with
  | ok a S' => cases a <;> rfl
  | exc x S' => rfl
  | bad => rfl
theorem sIf_ap (t : M Bool) (h1 h2 : M Fl) (S : Sg) : sIf t h1 h2 S = (t S).bnd (ifK h1 h2) := by
  unfold sIf
  rw [bind_bnd]
  refine bnd_ext fun b S' => ?_
  cases b <;> rfl
theorem sRt_ap (f : M R) (S : Sg) : sRt f S = (f S).bnd fun x S => .ok (.rt x) S := by unfold sRt; rw [bind_bnd]; rfl
theorem sRtN_ap (S : Sg) : sRtN S = .ok (.rt (.p .non)) S := Eq.trans rfl rfl
theorem sNx_ap (S : Sg) : sNx S = .ok .nx S := Eq.trans rfl rfl
theorem sBad_ap (S : Sg) : sBad S = .bad := Eq.trans rfl rfl
theorem sBk_ap (S : Sg) : sBk S = .ok .bk S := Eq.trans rfl rfl
theorem sCt_ap (S : Sg) : sCt S = .ok .ct S := Eq.trans rfl rfl
theorem sEx_ap (f : M R) (S : Sg) : sEx f S = (f S).bnd fun _ S => .ok .nx S := by unfold sEx; rw [bind_bnd]; rfl
theorem sSet_ap (i : Nat) (f : M R) (S : Sg) : sSet i f S = (f S).bnd fun x S => .ok .nx ⟨S.sl.set i (some x), S.st⟩ := by unfold sSet; rw [bind_bnd]; rfl
theorem sAsg_ap (f : M R) (t : Tg) (S : Sg) : sAsg f t S = (f S).bnd fun x S => (pure1 x S).bnd fun d S => (t d S).bnd fun _ S => .ok .nx S := by
  unfold sAsg
  simp only [bind_bnd]
  rfl
theorem sSub_ap (f fo fi : M R) (S : Sg) : sSub f fo fi S = (f S).bnd fun x S => (pure1 x S).bnd fun d S => (fo S).bnd fun o S => (fi S).bnd fun i S => (setAt o i d S).bnd fun _ S => .ok .nx S := by
  unfold sSub
  simp only [bind_bnd]
  rfl
def sParK (i j : Nat) : List R → Sg → Res Fl
  | x :: y :: [], S => .ok .nx ⟨(S.sl.set i (some x)).set j (some y), S.st⟩
  | _, _ => .bad
theorem sPar_ap (i j : Nat) (g : M (List R)) (S : Sg) : sPar i j g S = (g S).bnd (sParK i j) := by
  unfold sPar
  rw [bind_bnd]
  refine bnd_ext fun xs S' => ?_
  match xs with
  | [] => rfl
  | [x] => rfl
  | [x, y] => rfl
  | x :: y :: z :: r => rfl
theorem sParK_ap {i j : Nat} {x y : R} {S : Sg} : sParK i j [x, y] S = .ok .nx ⟨(S.sl.set i (some x)).set j (some y), S.st⟩ := Eq.trans rfl rfl
def sParK3 (i j l : Nat) : List R → Sg → Res Fl
  | x :: y :: z :: [], S => .ok .nx ⟨((S.sl.set i (some x)).set j (some y)).set l (some z), S.st⟩
  | _, _ => .bad
theorem sPar3_ap (i j l : Nat) (g : M (List R)) (S : Sg) : sPar3 i j l g S = (g S).bnd (sParK3 i j l) := by
  unfold sPar3
  rw [bind_bnd]
  refine bnd_ext fun xs S' => ?_
  match xs with
  | [] => rfl
  | [x] => rfl
  | [x, y] => rfl
  | [x, y, z] => rfl
  | x :: y :: z :: u :: r => rfl
theorem sParK3_ap {i j l : Nat} {x y z : R} {S : Sg} : sParK3 i j l [x, y, z] S = .ok .nx ⟨((S.sl.set i (some x)).set j (some y)).set l (some z), S.st⟩ := Eq.trans rfl rfl
theorem sFor_ap (it : M (Itm α)) (t : α → M Unit) (h : M Fl) (S : Sg) : sFor it t h S = (it S).bnd fun I S => loopL I.ok (fun d => t d >>= fun _ => h) I.l S := by unfold sFor; rw [bind_bnd]
def fldK (k : Nat) (f' : Str) (d : D) (o : R) (S : Sg) : Res Fl := match o with
  | .r n => match S.st[n]? with
    | some (.mu (.obj k' fs)) => if k' = k ∧ fs.length < 900 then .ok .nx { S with st := S.st.set n (.mu (.obj k' (putD f' d fs))) } else .bad
    | _ => .bad
  | _ => .bad
theorem sFld_ap (k : Nat) (f' : Str) (fo f : M R) (S : Sg) : sFld k f' fo f S = (f S).bnd fun x S => (pure1 x S).bnd fun d S => (fo S).bnd fun o S => fldK k f' d o S := by
  unfold sFld
  simp only [bind_bnd]
  rfl
/-! values -/
def getK : Option (Option R) → Sg → Res R
  | some (some x), S => .ok x S
  | _, _ => .bad
theorem vr_ap (i : Nat) (S : Sg) : vr i S = getK S.sl[i]? S := by
  unfold vr getK
  cases S.sl[i]? with
  | none => rfl
  | some o => cases o <;> rfl
theorem getK_ap {x : R} {S : Sg} : getK (some (some x)) S = .ok x S := Eq.trans rfl rfl
theorem ci_ap (i : Int) (S : Sg) : ci i S = .ok (.p (.int i)) S := Eq.trans rfl rfl
theorem cb_ap (i : Bool) (S : Sg) : cb i S = .ok (.p (.bl i)) S := Eq.trans rfl rfl
theorem cn_ap (S : Sg) : cn S = .ok (.p .non) S := Eq.trans rfl rfl
theorem cs_ap (i : Str) (S : Sg) : cs i S = .ok (.p (.str i)) S := Eq.trans rfl rfl
theorem cd_ap (d : D) (S : Sg) : cd d S = .ok (.p d) S := Eq.trans rfl rfl
theorem bin_ap (op : R → R → M R) (f g : M R) (S : Sg) : bin op f g S = (f S).bnd fun x S => (g S).bnd fun y S => op x y S := Eq.trans rfl rfl
theorem uNeg_ap (f : M R) (S : Sg) : uNeg f S = (f S).bnd fun x S => (match x with
    | .p (.int i) => .ok (.p (.int (-i))) S
    | _ => .bad) := rfl
theorem toB_ap {b : Bool} {S : Sg} : toB (.p (.bl b)) S = .ok b S := Eq.trans rfl rfl
theorem tst_ap (f : M R) (S : Sg) : tst f S = (f S).bnd toB := bind_bnd _ _ _
theorem mNot_ap (t : M Bool) (S : Sg) : mNot t S = (t S).bnd fun b S => .ok (!b) S := by unfold mNot; rw [bind_bnd]; rfl
theorem mAnd_ap (t u : M Bool) (S : Sg) : mAnd t u S = (t S).bnd (ifK u fun S => .ok false S) := by
  unfold mAnd; rw [bind_bnd]; refine bnd_ext fun b S' => ?_; cases b <;> rfl
theorem mOr_ap (t u : M Bool) (S : Sg) : mOr t u S = (t S).bnd (ifK (fun S => .ok true S) u) := by
  unfold mOr; rw [bind_bnd]; refine bnd_ext fun b S' => ?_; cases b <;> rfl
theorem eAnd_ap (f g : M R) (S : Sg) : eAnd f g S = (f S).bnd fun x S => (toB x S).bnd (ifK g fun S => .ok (.p (.bl false)) S) := by
  unfold eAnd; rw [bind_bnd, tst_ap]
  cases f S with
  | ok x S1 => show (toB x S1).bnd _ = (toB x S1).bnd _; refine bnd_ext fun b S' => ?_; cases b <;> rfl
  | exc x S1 => rfl
  | bad => rfl
theorem eOr_ap (f g : M R) (S : Sg) : eOr f g S = (f S).bnd fun x S => (toB x S).bnd (ifK (fun S => .ok (.p (.bl true)) S) g) := by
  unfold eOr; rw [bind_bnd, tst_ap]
  cases f S with
  | ok x S1 => show (toB x S1).bnd _ = (toB x S1).bnd _; refine bnd_ext fun b S' => ?_; cases b <;> rfl
  | exc x S1 => rfl
  | bad => rfl
theorem eNot_ap (f : M R) (S : Sg) : eNot f S = (f S).bnd fun x S => (toB x S).bnd fun b S => .ok (.p (.bl (!b))) S := by
  unfold eNot; rw [bind_bnd, tst_ap]
  cases f S <;> rfl
theorem eIf_ap (t : M Bool) (f g : M R) (S : Sg) : eIf t f g S = (t S).bnd (ifK f g) := by
  unfold eIf; rw [bind_bnd]; refine bnd_ext fun b S' => ?_; cases b <;> rfl
theorem eChain_ap (op op' : R → R → M R) (f g h : M R) (S : Sg) : eChain op op' f g h S = (f S).bnd fun x S => (g S).bnd fun y S => (op x y S).bnd fun z S => (toB z S).bnd (ifK (fun S => (h S).bnd fun w S => op' y w S) fun S => .ok (.p (.bl false)) S) := by
  unfold eChain
  rw [bind_bnd]
  refine bnd_ext fun x S1 => ?_
  rw [bind_bnd]
  refine bnd_ext fun y S2 => ?_
  rw [bind_bnd]
  refine bnd_ext fun z S3 => ?_
  rw [bind_bnd]
  refine bnd_ext fun b S4 => ?_
  cases b <;> rfl
theorem aN_ap (S : Sg) : aN S = .ok [] S := Eq.trans rfl rfl
theorem aC_ap (f : M R) (g : M (List R)) (S : Sg) : aC f g S = (f S).bnd fun x S => (g S).bnd fun xs S => .ok (x :: xs) S := by
  unfold aC; simp only [bind_bnd]; rfl
theorem pur_ap (f : M R) (S : Sg) : pur f S = (f S).bnd fun x S => (pure1 x S).bnd fun d S => .ok (.p d) S := by unfold pur; simp only [bind_bnd]; rfl
theorem pure1_p {d : D} {S : Sg} : pure1 (.p d) S = .ok d S := Eq.trans rfl rfl
theorem pure1_r {n : Nat} {S : Sg} : pure1 (.r n) S = pureC n S S.st[n]? := Eq.trans rfl rfl
theorem pureC_lst {n : Nat} {S : Sg} {l : List D} : pureC n S (some (.mu (.lst l))) = .ok (.lst l) { S with st := S.st.set n (.fz l) } := Eq.trans rfl rfl
theorem pureC_fz {n : Nat} {S : Sg} {l : List D} : pureC n S (some (.fz l)) = .ok (.lst l) S := Eq.trans rfl rfl
theorem pureC_obj {n k : Nat} {S : Sg} {fs : List (Str × D)} {d : D} (h : objD k fs = some d) : pureC n S (some (.mu (.obj k fs))) = .ok d { S with st := S.st.set n .dead } := by
  unfold pureC; simp only [h]
theorem pureL_nil (S : Sg) : pureL [] S = .ok [] S := Eq.trans rfl rfl
theorem pureL_cons (x : R) (xs : List R) (S : Sg) : pureL (x :: xs) S = (pure1 x S).bnd fun d S => (pureL xs S).bnd fun ds S => .ok (d :: ds) S := by
  show (pure1 x >>= fun d => pureL xs >>= fun ds => pure (d :: ds)) S = _
  simp only [bind_bnd]; rfl
theorem tupE_ap (g : M (List R)) (S : Sg) : tupE g S = (g S).bnd fun xs S => (pureL xs S).bnd fun ds S => allocT ds S := Eq.trans rfl rfl
theorem lstE_ap (g : M (List R)) (S : Sg) : lstE g S = (g S).bnd fun xs S => (pureL xs S).bnd fun ds S => allocL ds S := Eq.trans rfl rfl
theorem allocT_ap {ds : List D} {S : Sg} (h : ds.length ≤ 1000) : allocT ds S = .ok (.p (.tup ds)) S := if_pos (Nat.le_trans h (by rw [sizeLine_eq]; decide))
theorem allocL_ap {ds : List D} {S : Sg} (h : ds.length ≤ 1000) : allocL ds S = .ok (.r S.st.length) ⟨S.sl, S.st ++ [.mu (.lst ds)]⟩ := if_pos (Nat.le_trans h (by rw [sizeLine_eq]; decide))
/-! calls -/
def callK (F : Fn) (n : Nat) (xs : List R) (S : Sg) : Res R := if xs.length = n then applyF S (F xs S.st) else .bad
theorem callM_ap (F : Fn) (n : Nat) (g : M (List R)) (S : Sg) : callM F n g S = (g S).bnd (callK F n) := by unfold callM; rw [bind_bnd]; rfl
theorem callK_ap {F : Fn} {n : Nat} {xs : List R} {S : Sg} (h : xs.length = n) : callK F n xs S = applyF S (F xs S.st) := if_pos h
theorem applyF_val {S : Sg} {d : D} {st : Store} : applyF S (.ok (.val d) st) = .ok (.p d) ⟨S.sl, st⟩ := Eq.trans rfl rfl
theorem applyF_new {S : Sg} {o : Con} {st : Store} : applyF S (.ok (.new o) st) = .ok (.r st.length) ⟨S.sl, st ++ [.mu o]⟩ := Eq.trans rfl rfl
theorem applyF_if {S : Sg} {p : Prop} [Decidable p] {a b : FRes} : applyF S (if p then a else b) = if p then applyF S a else applyF S b := by split <;> rfl
theorem bnd_if {p : Prop} [Decidable p] {a b : Res α} {k : α → Sg → Res β} : (if p then a else b).bnd k = if p then a.bnd k else b.bnd k := by split <;> rfl
theorem runF_ap (n : Nat) (h : M Fl) (xs : List R) (st : Store) : runF n h xs st = finish st.length (h ⟨xs.map some ++ List.replicate (n - xs.length) none, st⟩) := Eq.trans rfl rfl
theorem finish_nx {b : Nat} {S : Sg} : finish b (.ok .nx S) = .ok (.val .non) (S.st.take b) := Eq.trans rfl rfl
theorem finish_p {b : Nat} {S : Sg} {d : D} : finish b (.ok (.rt (.p d)) S) = .ok (.val d) (S.st.take b) := Eq.trans rfl rfl
theorem finish_r {b n : Nat} {S : Sg} : finish b (.ok (.rt (.r n)) S) = finishR b S.st (.r n) := Eq.trans rfl rfl
theorem finish_if {b : Nat} {p : Prop} [Decidable p] {x y : Res Fl} : finish b (if p then x else y) = if p then finish b x else finish b y := by split <;> rfl
theorem finishR_mu {b n : Nat} {st : Store} {o : Con} (h : st[n]? = some (.mu o)) (hb : b ≤ n) : finishR b st (.r n) = .ok (.new o) (st.take b) := by
  unfold finishR; simp only [h, if_pos hb]
theorem finishR_fz {b n : Nat} {st : Store} {l : List D} (h : st[n]? = some (.fz l)) (hb : b ≤ n) : finishR b st (.r n) = .ok (.val (.lst l)) (st.take b) := by
  unfold finishR; simp only [h, if_pos hb]
def makeK (k : Nat) (F : Fn) (n : Nat) (xs : List R) (S : Sg) : Res R := if xs.length + 1 = n then (match F (.r S.st.length :: xs) (S.st ++ [.mu (.obj k [])]) with
    | .ok (.val .non) st => .ok (.r S.st.length) ⟨S.sl, st⟩
    | .exc x st => .exc x ⟨S.sl, st⟩
    | _ => .bad) else .bad
theorem makeU_ap (k : Nat) (F : Fn) (n : Nat) (g : M (List R)) (S : Sg) : makeU k F n g S = (g S).bnd (makeK k F n) := by unfold makeU; rw [bind_bnd]; rfl
theorem opA_ap (op : List R → M R) (g : M (List R)) (S : Sg) : opA op g S = (g S).bnd op := bind_bnd _ _ _
theorem op1_ap (op : R → M R) (x : R) (S : Sg) : op1 op [x] S = op x S := Eq.trans rfl rfl
def methK (chk : R → Sg → Bool) (op : R → List R → M R) (g : M (List R)) (x : R) (S : Sg) : Res R := if chk x S = true then (g S).bnd (op x) else .bad
theorem methM_ap (chk : R → Sg → Bool) (op : R → List R → M R) (f : M R) (g : M (List R)) (S : Sg) : methM chk op f g S = (f S).bnd (methK chk op g) := by
  unfold methM; rw [bind_bnd]; rfl
def attrK (k : Nat) (f' : Str) (x : R) (S : Sg) : Res R := match insOf x S with
    | some (k', fs) => if k' = k then (match (fs.lookup f').bind atD with
      | some d => .ok (.p d) S
      | none => .bad) else .bad
    | none => .bad
theorem attrU_ap (k : Nat) (f' : Str) (f : M R) (S : Sg) : attrU k f' f S = (f S).bnd (attrK k f') := by unfold attrU; rw [bind_bnd]; rfl
theorem attrK_scr {l : List D} {S : Sg} : attrK 0 "own_levels" (.p (.scr l)) S = .ok (.p (.tup l)) S := Eq.trans rfl rfl
def propK (k : Nat) (F : Fn) (x : R) (S : Sg) : Res R := match insOf x S with
    | some (k', _) => if k' = k then (match F [x] S.st with
      | .exc _ _ => .bad
      | r => applyF S r) else .bad
    | none => .bad
theorem propU_ap (k : Nat) (F : Fn) (f : M R) (S : Sg) : propU k F f S = (f S).bnd (propK k F) := by unfold propU; rw [bind_bnd]; rfl
theorem propK_scr {F : Fn} {l : List D} {S : Sg} {d : D} {st : Store} (h : F [.p (.scr l)] S.st = .ok (.val d) st) : propK 0 F (.p (.scr l)) S = .ok (.p d) ⟨S.sl, st⟩ := by
  unfold propK
  show (if (0 : Nat) = 0 then (match F [.p (.scr l)] S.st with | .exc _ _ => Res.bad | r => applyF S r) else Res.bad) = _
  rw [if_pos rfl, h]
  rfl
def isK (n : String) (x : R) (S : Sg) : Res R := match kindR x S with
    | some t => .ok (.p (.bl (subTy t n))) S
    | none => match insOf x S with
      | some q => if q.1 = 0 then .ok (.p (.bl false)) S else .bad
      | none => .bad
theorem isB_ap (n : String) (f : M R) (S : Sg) : isB n f S = (f S).bnd (isK n) := by unfold isB; rw [bind_bnd]; rfl
def isCK (k : Nat) (x : R) (S : Sg) : Res R := match kindR x S with
    | some _ => .ok (.p (.bl false)) S
    | none => match insOf x S with
      | some q => if q.1 = k then .ok (.p (.bl true)) S else .bad
      | none => .bad
theorem isC_ap (k : Nat) (f : M R) (S : Sg) : isC k f S = (f S).bnd (isCK k) := by unfold isC; rw [bind_bnd]; rfl
theorem isCK_scr {l : List D} {S : Sg} : isCK 0 (.p (.scr l)) S = .ok (.p (.bl true)) S := Eq.trans rfl rfl
/-! what is walked -/
theorem itL_ap (f : M R) (S : Sg) : itL f S = (f S).bnd fun x S => (match getL x S with
    | some l => .ok ⟨fun S' => getL x S' = some l, l⟩ S
    | none => .bad) := Eq.trans rfl rfl
theorem itE_ap (f : M R) (S : Sg) : itE f S = (f S).bnd fun x S => (match getL x S with
    | some l => .ok ⟨fun S' => getL x S' = some l, numbered 0 l⟩ S
    | none => .bad) := Eq.trans rfl rfl
theorem itR1_ap (g : M (List R)) (S : Sg) : itR1 g S = (g S).bnd fun xs S => (match asI1 xs with
    | some j => if -(2 ^ 62) ≤ j ∧ j < 2 ^ 62 then .ok ⟨fun _ => True, intsFrom 0 j.toNat⟩ S else .bad
    | none => .bad) := Eq.trans rfl rfl
theorem gN_ap (i : Nat) (d : D) (S : Sg) : gN i d S = .ok () ⟨S.sl.set i (some (.p d)), S.st⟩ := Eq.trans rfl rfl
theorem gsN_ap (S : Sg) : gsN [] S = .ok () S := Eq.trans rfl rfl
theorem gsC_ap (t : Tg) (u : List D → M Unit) (d : D) (r : List D) (S : Sg) : gsC t u (d :: r) S = (t d S).bnd fun _ S => u r S := bind_bnd _ _ _
theorem gT_ap {n : Nat} {u : List D → M Unit} {l : List D} {S : Sg} (h : l.length = n) : gT n u (.tup l) S = u l S := if_pos h
theorem gL_ap {n : Nat} {u : List D → M Unit} {l : List D} {S : Sg} (h : l.length = n) : gL n u (.lst l) S = u l S := if_pos h
theorem getL_tup {l : List D} {S : Sg} : getL (.p (.tup l)) S = some l := Eq.trans rfl rfl
theorem getL_lst {l : List D} {S : Sg} : getL (.p (.lst l)) S = some l := Eq.trans rfl rfl
theorem getL_scp {l : List D} {S : Sg} : getL (.p (.scp l)) S = some l := Eq.trans rfl rfl
theorem loop_nil {ok : Sg → Prop} {body : α → M Fl} {S : Sg} (h : ok S) : loopL ok body [] S = .ok .nx S := loopL_nil h
noncomputable def loopK (ok : Sg → Prop) (body : α → M Fl) (ds : List α) : Fl → Sg → Res Fl
  | .nx, S => loopL ok body ds S
  | .ct, S => loopL ok body ds S
  | .bk, S => .ok .nx S
  | .rt x, S => .ok (.rt x) S
theorem loop_cons {ok : Sg → Prop} {body : α → M Fl} {d : α} {ds : List α} {S : Sg} (h : ok S) : loopL ok body (d :: ds) S = (body d S).bnd (loopK ok body ds) := by
  rw [loopL_cons h]
  cases body d S with
  | ok a S' => cases a <;> rfl
  | exc x S' => rfl
  | bad => rfl
/-- a loop that is gone through to its end -/
theorem loop_inv {ok : Sg → Prop} {body : α → M Fl} (I : Nat → Sg → Prop) : ∀ (l : List α) (i : Nat) (S : Sg), I i S → (∀ j S, I j S → ok S) → (∀ j d S, l[j]? = some d → I (i + j) S → ∃ S', (body d S = .ok .nx S' ∨ body d S = .ok .ct S') ∧ I (i + j + 1) S') → ∃ S', loopL ok body l S = .ok .nx S' ∧ I (i + l.length) S'
  | [], i, S, h0, hok, hs => ⟨S, loopL_nil (hok _ _ h0), h0⟩
  | d :: ds, i, S, h0, hok, hs => by
    obtain ⟨S1, e, h1⟩ := hs 0 d S rfl h0
    have := loop_inv I ds (i + 1) S1 h1 hok fun j d' S' hj hI => by
      have := hs (j + 1) d' S' hj (by rw [show i + (j + 1) = i + 1 + j by omega]; exact hI)
      rw [show i + (j + 1) + 1 = i + 1 + j + 1 by omega] at this
      exact this
    obtain ⟨S2, e2, h2⟩ := this
    refine ⟨S2, ?_, by rw [List.length_cons, show i + (ds.length + 1) = i + 1 + ds.length by omega]; exact h2⟩
    rw [loop_cons (hok _ _ h0)]
    rcases e with e | e <;> rw [e] <;> exact e2
end
end Dd

set_option Elab.async false
set_option linter.all false
set_option maxRecDepth 100000
set_option exponentiation.threshold 2000
namespace Dd
open PySem PySem.Spec PyProof.Rows L2
/-! ### operations, worked out -/
section
variable {S : Sg} {i j : Int}
theorem opAdd_i : opAdd (.p (.int i)) (.p (.int j)) S = .ok (.p (.int (i + j))) S := Eq.trans rfl rfl
theorem opSub_i : opSub (.p (.int i)) (.p (.int j)) S = .ok (.p (.int (i - j))) S := Eq.trans rfl rfl
theorem opMul_i (h : CMulW i j) : opMul (.p (.int i)) (.p (.int j)) S = .ok (.p (.int (i * j))) S := by
  show (if CMulW i j then _ else _) = _
  exact if_pos h
theorem opDiv_i (h : CDivW i j) : opDiv (.p (.int i)) (.p (.int j)) S = .ok (.p (.int (i / j))) S := if_pos h
theorem opMod_i (h : 0 < j) : opMod (.p (.int i)) (.p (.int j)) S = .ok (.p (.int (i % j))) S := if_pos h
theorem opPow_i (h : CPowW i j) : opPow (.p (.int i)) (.p (.int j)) S = .ok (.p (.int (i ^ j.toNat))) S := if_pos h
theorem opShl_i (h : CShl i j) : opShl (.p (.int i)) (.p (.int j)) S = .ok (.p (.int (i * 2 ^ j.toNat))) S := if_pos h
theorem opShr_i (h : 0 ≤ j) : opShr (.p (.int i)) (.p (.int j)) S = .ok (.p (.int (i / 2 ^ j.toNat))) S := if_pos h
theorem opBand_i : opBand (.p (.int i)) (.p (.int j)) S = .ok (.p (.int (Builtin.bitAnd i j))) S := Eq.trans rfl rfl
theorem opLt_i : opLt (.p (.int i)) (.p (.int j)) S = .ok (.p (.bl (decide (i < j)))) S := Eq.trans rfl rfl
theorem opLe_i : opLe (.p (.int i)) (.p (.int j)) S = .ok (.p (.bl (decide (i ≤ j)))) S := Eq.trans rfl rfl
theorem opGt_i : opGt (.p (.int i)) (.p (.int j)) S = .ok (.p (.bl (decide (j < i)))) S := Eq.trans rfl rfl
theorem opGe_i : opGe (.p (.int i)) (.p (.int j)) S = .ok (.p (.bl (decide (j ≤ i)))) S := Eq.trans rfl rfl
theorem opEqD_i : opEqD (.p (.int i)) (.p (.int j)) S = .ok (.p (.bl (decide (i = j)))) S := by
  show (if SeqAt.shaped (.int i) = true ∧ SeqAt.shaped (.int j) = true then Res.ok (R.p (.bl (PyData.eqv (.int i) (.int j)))) S else .bad) = _
  rw [if_pos ⟨rfl, rfl⟩]
  rfl
theorem opNeD_i : opNeD (.p (.int i)) (.p (.int j)) S = .ok (.p (.bl (!decide (i = j)))) S := by
  show (if SeqAt.shaped (.int i) = true ∧ SeqAt.shaped (.int j) = true then Res.ok (R.p (.bl (!PyData.eqv (.int i) (.int j)))) S else .bad) = _
  rw [if_pos ⟨rfl, rfl⟩]
  rfl
theorem opInt_i : opInt (.p (.int i)) S = .ok (.p (.int i)) S := Eq.trans rfl rfl
theorem opInt_b {b : Bool} : opInt (.p (.bl b)) S = .ok (.p (.int (if b = true then 1 else 0))) S := Eq.trans rfl rfl
theorem opAbs_i : opAbs (.p (.int i)) S = .ok (.p (.int (if i < 0 then -i else i))) S := Eq.trans rfl rfl
theorem opMax2_i : opMax2 [.p (.int i), .p (.int j)] S = .ok (.p (.int (max i j))) S := Eq.trans rfl rfl
theorem opMin2_i : opMin2 [.p (.int i), .p (.int j)] S = .ok (.p (.int (min i j))) S := Eq.trans rfl rfl
theorem atI_nat {α : Type} {l : List α} {k : Nat} {d : α} (h : l[k]? = some d) : L2.atI l (k : Int) = some d := by
  have hl := (List.getElem?_eq_some_iff.mp h).1
  unfold L2.atI L2.ixN
  rw [if_pos (by omega), if_pos (by omega)]
  simpa using h
theorem atI_of {α : Type} {l : List α} {i : Int} {d : α} (h0 : 0 ≤ i) (h : l[i.toNat]? = some d) : L2.atI l i = some d := by
  have := atI_nat h
  rwa [Int.toNat_of_nonneg h0] at this
theorem isK_ii : isK "int" (.p (.int i)) S = .ok (.p (.bl true)) S := by unfold isK; rfl
theorem isK_ib : isK "bool" (.p (.int i)) S = .ok (.p (.bl false)) S := by unfold isK; rfl
theorem isK_tt {l : List D} : isK "tuple" (.p (.tup l)) S = .ok (.p (.bl true)) S := by unfold isK; rfl
theorem isK_ll {l : List D} : isK "list" (.p (.lst l)) S = .ok (.p (.bl true)) S := by unfold isK; rfl
def getLK : Option Cell → Option (List D)
  | some (.mu (.lst l)) => some l
  | some (.fz l) => some l
  | _ => none
theorem getLK_mu {l : List D} : getLK (some (.mu (.lst l))) = some l := Eq.trans rfl rfl
theorem getLK_fz {l : List D} : getLK (some (.fz l)) = some l := Eq.trans rfl rfl
theorem getL_r {n : Nat} : getL (.r n) S = getLK S.st[n]? := by
  cases h : S.st[n]? with
  | none => simp only [getL, h, getLK]
  | some c => cases c with
    | mu o => cases o <;> simp only [getL, h, getLK]
    | fz l => simp only [getL, h, getLK]
    | dead => simp only [getL, h, getLK]
theorem getLst_r {n : Nat} : getLst (.r n) S = getLK S.st[n]? := by
  cases h : S.st[n]? with
  | none => simp only [getLst, h, getLK]
  | some c => cases c with
    | mu o => cases o <;> simp only [getLst, h, getLK]
    | fz l => simp only [getLst, h, getLK]
    | dead => simp only [getLst, h, getLK]
theorem getLst_lst {l : List D} : getLst (.p (.lst l)) S = some l := Eq.trans rfl rfl
theorem getLst_scp {l : List D} : getLst (.p (.scp l)) S = some l := Eq.trans rfl rfl
theorem getM_r {n : Nat} : getM (.r n) S = getLK S.st[n]? := by
  cases h : S.st[n]? with
  | none => simp only [getM, h, getLK]
  | some c => cases c with
    | mu o => cases o <;> simp only [getM, h, getLK]
    | fz l => simp only [getM, h, getLK]
    | dead => simp only [getM, h, getLK]
theorem getM_lst {l : List D} : getM (.p (.lst l)) S = some l := Eq.trans rfl rfl
theorem opLen_t {l : List D} : opLen (.p (.tup l)) S = .ok (.p (.int (l.length : Nat))) S := Eq.trans rfl rfl
theorem opLen_l {l : List D} : opLen (.p (.lst l)) S = .ok (.p (.int (l.length : Nat))) S := Eq.trans rfl rfl
theorem opLen_c {l : List D} : opLen (.p (.scp l)) S = .ok (.p (.int (l.length : Nat))) S := Eq.trans rfl rfl
def lenK : Option (List D) → Sg → Res R
  | some l, S => .ok (.p (.int (l.length : Nat))) S
  | none, _ => .bad
theorem lenK_ap {l : List D} : lenK (some l) S = .ok (.p (.int (l.length : Nat))) S := Eq.trans rfl rfl
theorem opLen_r {n : Nat} : opLen (.r n) S = lenK (getLK S.st[n]?) S := by
  unfold opLen
  rw [getL_r]
  cases getLK S.st[n]? <;> rfl
/-- l[i] -/
def ixK (l : List D) (i : Int) (S : Sg) : Res R := match L2.atI l i with
  | some d => .ok (.p d) S
  | none => .bad
theorem ixK_of {l : List D} {d : D} (h : L2.atI l i = some d) : ixK l i S = .ok (.p d) S := by unfold ixK; rw [h]
theorem opIx_t {l : List D} : opIx (.p (.tup l)) (.p (.int i)) S = ixK l i S := Eq.trans rfl rfl
theorem opIx_l {l : List D} : opIx (.p (.lst l)) (.p (.int i)) S = ixK l i S := Eq.trans rfl rfl
theorem opIx_c {l : List D} : opIx (.p (.scp l)) (.p (.int i)) S = ixK l i S := Eq.trans rfl rfl
def ixK' : Option (List D) → Int → Sg → Res R
  | some l, i, S => ixK l i S
  | none, _, _ => .bad
theorem ixK'_ap {l : List D} : ixK' (some l) i S = ixK l i S := Eq.trans rfl rfl
theorem opIx_r {n : Nat} : opIx (.r n) (.p (.int i)) S = ixK' (getLK S.st[n]?) i S := by
  unfold opIx
  simp only [asI]
  rw [getL_r]
  cases getLK S.st[n]? <;> rfl
theorem ixK_0 {l : List D} {d : D} : ixK (d :: l) 0 S = .ok (.p d) S := ixK_of (atI_of (by decide) rfl)
theorem ixK_1 {l : List D} {a d : D} : ixK (a :: d :: l) 1 S = .ok (.p d) S := ixK_of (atI_of (by decide) rfl)
theorem ixK_2 {l : List D} {a b d : D} : ixK (a :: b :: d :: l) 2 S = .ok (.p d) S := ixK_of (atI_of (by decide) rfl)
theorem ixK_3 {l : List D} {a b c d : D} : ixK (a :: b :: c :: d :: l) 3 S = .ok (.p d) S := ixK_of (atI_of (by decide) rfl)
/-- x.append(d) -/
def appK (n : Nat) (d : D) (S : Sg) : Option Cell → Res R
  | some (.mu (.lst l)) => if l.length < sizeLine then .ok (.p .non) { S with st := S.st.set n (.mu (.lst (l ++ [d]))) } else .bad
  | _ => .bad
theorem appK_ap {n : Nat} {d : D} {l : List D} (h : l.length < 1000000) : appK n d S (some (.mu (.lst l))) = .ok (.p .non) ⟨S.sl, S.st.set n (.mu (.lst (l ++ [d])))⟩ := if_pos (Nat.lt_of_lt_of_le h (by rw [sizeLine_eq]; decide))
theorem opApp_ap {n : Nat} {y : R} : opApp (.r n) [y] S = (pure1 y S).bnd fun d S => appK n d S S.st[n]? := by
  show (pure1 y >>= _) S = _
  rw [bind_bnd]
  congr 1
theorem isLst_r' {n : Nat} : isLst (.r n) S = (getLK S.st[n]?).isSome := by unfold isLst; rw [getLst_r]
def popC (n : Nat) (i : Int) (S : Sg) : Option Cell → Res R
  | some (.mu (.lst l)) => if -(2 ^ 63) ≤ i ∧ i < 2 ^ 63 then (match seqIndex? i l.length with
        | some k => match l[k]? with
          | some d => .ok (.p d) { S with st := S.st.set n (.mu (.lst (l.eraseIdx k))) }
          | none => .bad
        | none => .bad) else .bad
  | _ => .bad
theorem opPopAt_ap {n : Nat} : opPopAt (.r n) [.p (.int i)] S = popC n i S S.st[n]? := by
  show (match S.st[n]? with | some (.mu (.lst l)) => _ | _ => _) = _
  cases h : S.st[n]? with
  | none => rfl
  | some c => cases c with
    | mu o => cases o <;> rfl
    | fz l => rfl
    | dead => rfl
theorem popC_of {n : Nat} {l : List D} {d : D} (h0 : 0 ≤ i) (hd : l[i.toNat]? = some d) (hl : l.length < 1000000) : popC n i S (some (.mu (.lst l))) = .ok (.p d) ⟨S.sl, S.st.set n (.mu (.lst (l.eraseIdx i.toNat)))⟩ := by
  have hi := (List.getElem?_eq_some_iff.mp hd).1
  have e : L2.ixN l.length i = some i.toNat := by unfold L2.ixN; rw [if_pos h0, if_pos (by omega)]
  have e2 := (L2.ixN_seq e).1
  unfold popC
  simp only
  rw [if_pos (by omega), e2]
  simp only [hd]
/-- o[i] = d -/
def setK (n : Nat) (i : Int) (d : D) (S : Sg) : Option Cell → Res Unit
  | some (.mu (.lst l)) => match L2.ixN l.length i with
        | some j => .ok () { S with st := S.st.set n (.mu (.lst (l.set j d))) }
        | none => .bad
  | _ => .bad
theorem setAt_ap {n : Nat} {d : D} : setAt (.r n) (.p (.int i)) d S = setK n i d S S.st[n]? := by
  cases h : S.st[n]? with
  | none => simp only [setAt, asI, h, setK]
  | some c => cases c with
    | mu o => cases o <;> (simp only [setAt, asI, h, setK] <;> rfl)
    | fz l => simp only [setAt, asI, h, setK]
    | dead => simp only [setAt, asI, h, setK]
theorem setK_0 {n : Nat} {a d : D} {l : List D} : setK n 0 d S (some (.mu (.lst (a :: l)))) = .ok () ⟨S.sl, S.st.set n (.mu (.lst (d :: l)))⟩ := by
  have e : L2.ixN (a :: l).length 0 = some 0 := by unfold L2.ixN; rw [if_pos (by decide), if_pos (by simp only [List.length_cons]; omega)]; rfl
  unfold setK; simp only [e]; rfl
theorem setK_1 {n : Nat} {a b d : D} {l : List D} : setK n 1 d S (some (.mu (.lst (a :: b :: l)))) = .ok () ⟨S.sl, S.st.set n (.mu (.lst (a :: d :: l)))⟩ := by
  have e : L2.ixN (a :: b :: l).length 1 = some 1 := by unfold L2.ixN; rw [if_pos (by decide), if_pos (by simp only [List.length_cons]; omega)]; rfl
  unfold setK; simp only [e]; rfl
theorem setK_2 {n : Nat} {a b c d : D} {l : List D} : setK n 2 d S (some (.mu (.lst (a :: b :: c :: l)))) = .ok () ⟨S.sl, S.st.set n (.mu (.lst (a :: b :: d :: l)))⟩ := by
  have e : L2.ixN (a :: b :: c :: l).length 2 = some 2 := by unfold L2.ixN; rw [if_pos (by decide), if_pos (by simp only [List.length_cons]; omega)]; rfl
  unfold setK; simp only [e]; rfl
/-! == and other looks at lists -/
def dataK : Option Cell → Option PyData
  | some (.mu (.lst l)) => (toPyL l).map .list
  | some (.fz l) => (toPyL l).map .list
  | _ => none
theorem dataK_mu {l : List D} : dataK (some (.mu (.lst l))) = (toPyL l).map .list := Eq.trans rfl rfl
theorem dataR_p {d : D} : dataR (.p d) S = toPy d := Eq.trans rfl rfl
theorem dataR_r {n : Nat} : dataR (.r n) S = dataK S.st[n]? := by
  unfold dataR
  simp only
  rw [getLst_r]
  cases h : S.st[n]? with
  | none => rfl
  | some c => cases c with
    | mu o => cases o with
      | lst l => show (match toPyL l with | some xs => _ | none => _) = (toPyL l).map _; cases toPyL l <;> rfl
      | dct k => rfl
      | dt k => rfl
      | obj k f => rfl
    | fz l => show (match toPyL l with | some xs => _ | none => _) = (toPyL l).map _; cases toPyL l <;> rfl
    | dead => rfl
theorem opEqD_of {x y : R} {d e : PyData} (h1 : dataR x S = some d) (h2 : dataR y S = some e) (s1 : SeqAt.shaped d = true) (s2 : SeqAt.shaped e = true) : opEqD x y S = .ok (.p (.bl (PyData.eqv d e))) S := by
  unfold opEqD; simp only [h1, h2, s1, s2, and_self, if_true]
theorem opNeD_of {x y : R} {d e : PyData} (h1 : dataR x S = some d) (h2 : dataR y S = some e) (s1 : SeqAt.shaped d = true) (s2 : SeqAt.shaped e = true) : opNeD x y S = .ok (.p (.bl (!PyData.eqv d e))) S := by
  unfold opNeD; simp only [h1, h2, s1, s2, and_self, if_true]
theorem toPyL_ints : ∀ ns : List Int, toPyL (ns.map D.int) = some (ns.map PyData.int)
  | [] => rfl
  | n :: ns => by
    show toPyL (D.int n :: ns.map D.int) = _
    unfold toPyL
    rw [toPyL_ints ns]
    simp only [toPy]
    rfl
theorem eqvAll_ints : ∀ ns ms : List Int, PyData.eqvAll (ns.map PyData.int) (ms.map PyData.int) = decide (ns = ms)
  | [], [] => rfl
  | [], m :: ms => by simp [PyData.eqvAll]
  | n :: ns, [] => by simp [PyData.eqvAll]
  | n :: ns, m :: ms => by
    show (PyData.eqv (.int n) (.int m) && PyData.eqvAll (ns.map PyData.int) (ms.map PyData.int)) = _
    rw [eqvAll_ints ns ms]
    show (n == m && _) = _
    by_cases h1 : n = m <;> by_cases h2 : ns = ms <;> simp [h1, h2]
theorem canLay_ints : ∀ ns : List Int, PyData.canLayAll0 (ns.map PyData.int) = true
  | [] => rfl
  | n :: ns => by
    show (PyData.canLay0 (.int n) && PyData.canLayAll0 (ns.map PyData.int)) = true
    rw [canLay_ints ns]; rfl
theorem depth_ints : ∀ ns : List Int, PyData.depthAll (ns.map PyData.int) = 0
  | [] => rfl
  | n :: ns => by
    show max (PyData.depth (.int n)) (PyData.depthAll (ns.map PyData.int)) = 0
    rw [depth_ints ns]; rfl
theorem shaped_li (ns : List Int) : SeqAt.shaped (.list (ns.map PyData.int)) = true := by
  show (PyData.canLayAll0 (ns.map PyData.int) && decide (PyData.depthAll (ns.map PyData.int) + 1 ≤ 64)) = true
  rw [canLay_ints, depth_ints]; rfl
theorem dataK_ints {ns : List Int} : dataK (some (.mu (.lst (ns.map D.int)))) = some (.list (ns.map PyData.int)) := by rw [dataK_mu, toPyL_ints]; rfl
theorem opEqD_li {x y : R} {ns ms : List Int} (h1 : dataR x S = some (.list (ns.map PyData.int))) (h2 : dataR y S = some (.list (ms.map PyData.int))) : opEqD x y S = .ok (.p (.bl (decide (ns = ms)))) S := by
  rw [opEqD_of h1 h2 (shaped_li _) (shaped_li _)]
  show Res.ok (R.p (.bl (PyData.eqvAll _ _))) S = _
  rw [eqvAll_ints]
def allK : Option (List D) → Sg → Res R
  | some l, S => match blsOf l with
    | some bs => .ok (.p (.bl (bs.all id))) S
    | none => .bad
  | none, _ => .bad
theorem opAll_r {n : Nat} : opAll (.r n) S = allK (getLK S.st[n]?) S := by unfold opAll; rw [getLst_r]; cases getLK S.st[n]? <;> rfl
def sumK : Option (List D) → Sg → Res R
  | some l, S => match intsOf l with
    | some bs => .ok (.p (.int bs.sum)) S
    | none => .bad
  | none, _ => .bad
theorem opSum_r {n : Nat} : opSum (.r n) S = sumK (getLK S.st[n]?) S := by unfold opSum; rw [getLst_r]; cases getLK S.st[n]? <;> rfl
theorem sumK_ints {ns : List Int} : sumK (some (ns.map D.int)) S = .ok (.p (.int ns.sum)) S := by unfold sumK; simp only [intsOf_map]
def sortK : Option (List D) → Sg → Res R
  | some l, S => match intsOf l with
    | some ns => .ok (.r S.st.length) ⟨S.sl, S.st ++ [.mu (.lst ((sortI ns).map .int))]⟩
    | none => .bad
  | none, _ => .bad
theorem opSort_t {l : List D} : opSort (.p (.tup l)) S = sortK (some l) S := Eq.trans rfl rfl
theorem opSort_r {n : Nat} : opSort (.r n) S = sortK (getLK S.st[n]?) S := by unfold opSort; rw [getL_r]; cases getLK S.st[n]? <;> rfl
theorem opTuple_t {l : List D} : opTuple (.p (.tup l)) S = .ok (.p (.tup l)) S := Eq.trans rfl rfl
theorem opTuple_l {l : List D} : opTuple (.p (.lst l)) S = .ok (.p (.tup l)) S := Eq.trans rfl rfl
def tupK : Option (List D) → Sg → Res R
  | some l, S => .ok (.p (.tup l)) S
  | none, _ => .bad
theorem tupK_ap {l : List D} : tupK (some l) S = .ok (.p (.tup l)) S := Eq.trans rfl rfl
theorem opTuple_r {n : Nat} : opTuple (.r n) S = tupK (getLK S.st[n]?) S := by unfold opTuple; simp only; rw [getLst_r]; cases getLK S.st[n]? <;> rfl
theorem wipeS_ap {vs : List Nat} : wipeS S vs = ⟨wipeL S.sl vs, S.st⟩ := Eq.trans rfl rfl
theorem wipeL_nil {sl : List (Option R)} : wipeL sl [] = sl := Eq.trans rfl rfl
theorem wipeL_cons {sl : List (Option R)} {v : Nat} {vs : List Nat} : wipeL sl (v :: vs) = (wipeL sl vs).set v none := Eq.trans rfl rfl
theorem numbered_at : ∀ {l : List D} {k j : Nat} {d : List D}, (numbered k l)[j]? = some d → ∃ d', d = [.int ((k + j : Nat) : Int), d'] ∧ l[j]? = some d'
  | [], k, j, d, h => by simp [numbered] at h
  | x :: l, k, 0, d, h => by
    simp only [numbered, List.getElem?_cons_zero, Option.some.injEq] at h
    exact ⟨x, h.symm, rfl⟩
  | x :: l, k, j + 1, d, h => by
    simp only [numbered, List.getElem?_cons_succ] at h
    obtain ⟨d', e1, e2⟩ := numbered_at h
    exact ⟨d', by rw [e1]; congr 3; omega, e2⟩
theorem numbered_len : ∀ {l : List D} {k : Nat}, (numbered k l).length = l.length
  | [], _ => rfl
  | x :: l, k => by simp only [numbered, List.length_cons, numbered_len]
def rngK1 : List R → Sg → Res (Itm D) := fun xs S => match asI1 xs with
    | some j => if -(2 ^ 62) ≤ j ∧ j < 2 ^ 62 then .ok ⟨fun _ => True, Dd.intsFrom 0 j.toNat⟩ S else .bad
    | none => .bad
theorem itR1_k (g : M (List R)) (S : Sg) : itR1 g S = (g S).bnd rngK1 := itR1_ap g S
theorem rngK1_i (h : -(2 ^ 62) ≤ i ∧ i < 2 ^ 62) : rngK1 [.p (.int i)] S = .ok ⟨fun _ => True, Dd.intsFrom 0 i.toNat⟩ S := if_pos h
theorem rngK1_n {d : Nat} (h : d ≤ 1000000) : rngK1 [.p (.int (d : Int))] S = .ok ⟨fun _ => True, Dd.intsFrom 0 d⟩ S := by
  have hh : -(2 ^ 62) ≤ (d : Int) ∧ (d : Int) < 2 ^ 62 := ⟨by omega, by omega⟩
  exact rngK1_i hh
theorem intsFrom_0 {lo : Int} : Dd.intsFrom lo 0 = [] := Eq.trans rfl rfl
theorem intsFrom_s {lo : Int} {n : Nat} : Dd.intsFrom lo (n + 1) = .int lo :: Dd.intsFrom (lo + 1) n := Eq.trans rfl rfl
/-! comprehensions -/
theorem lcE_ap {α : Type} (own ks : List Nat) (unp : α → Option (List D)) (it : M (Itm α)) (tt : M Bool) (f : M R) (S : Sg) : lcE own ks unp it tt f S = (it S).bnd fun I S => lcFin S (lcL I.ok (lcB own ks unp tt f) I.l [] (wipeS S own)) := by unfold lcE; rw [bind_bnd]
noncomputable def lcK {α : Type} (ok : Sg → Prop) (body : α → M (Option D)) (ds : List α) (acc : List D) : Option D → Sg → Res (List D)
  | none, S => lcL ok body ds acc S
  | some y, S => if acc.length < sizeLine then lcL ok body ds (acc ++ [y]) S else .bad
theorem lcL_nil' {α : Type} {ok : Sg → Prop} {body : α → M (Option D)} {acc : List D} (h : ok S) : lcL ok body [] acc S = .ok acc S := by unfold lcL; rw [if_pos h]
theorem lcL_cons {α : Type} {ok : Sg → Prop} {body : α → M (Option D)} {acc : List D} {d : α} {ds : List α} {S1 : Sg} {o : Option D} (h : ok S) (hb : body d S = .ok o S1) : lcL ok body (d :: ds) acc S = lcK ok body ds acc o S1 := by
  conv => lhs; unfold lcL
  rw [if_pos h, hb]
  cases o <;> rfl
/-- a comprehension whose turns leave the state as it is -/
theorem lcL_map {α : Type} {ok : Sg → Prop} {body : α → M (Option D)} {g : α → D} (hok : ok S) : ∀ (l : List α) (acc : List D), (∀ d ∈ l, body d S = .ok (some (g d)) S) → acc.length + l.length ≤ 1000000 → lcL ok body l acc S = .ok (acc ++ l.map g) S
  | [], acc, h, hl => by rw [lcL_nil' hok, List.map_nil, List.append_nil]
  | d :: ds, acc, h, hl => by
    rw [lcL_cons hok (h d List.mem_cons_self)]
    show (if acc.length < sizeLine then lcL ok body ds (acc ++ [g d]) S else .bad) = _
    rw [List.length_cons] at hl
    rw [if_pos (Nat.lt_of_lt_of_le (by omega : acc.length < 1000000) (by rw [sizeLine_eq]; decide))]
    rw [lcL_map hok ds (acc ++ [g d]) (fun x hx => h x (List.mem_cons_of_mem _ hx)) (by rw [List.length_append]; simp only [List.length_cons, List.length_nil]; omega)]
    rw [List.map_cons, List.append_assoc]; rfl
theorem lcL_mapf {α β : Type} {ok : Sg → Prop} {body : α → M (Option D)} {f : β → α} {g : β → D} (hok : ok S) : ∀ (l : List β) (acc : List D), (∀ d ∈ l, body (f d) S = .ok (some (g d)) S) → acc.length + l.length ≤ 1000000 → lcL ok body (l.map f) acc S = .ok (acc ++ l.map g) S
  | [], acc, h, hl => by rw [List.map_nil, lcL_nil' hok, List.map_nil, List.append_nil]
  | d :: ds, acc, h, hl => by
    rw [List.map_cons, lcL_cons hok (h d List.mem_cons_self)]
    show (if acc.length < sizeLine then lcL ok body (ds.map f) (acc ++ [g d]) S else .bad) = _
    rw [List.length_cons] at hl
    rw [if_pos (Nat.lt_of_lt_of_le (by omega : acc.length < 1000000) (by rw [sizeLine_eq]; decide))]
    rw [lcL_mapf hok ds (acc ++ [g d]) (fun x hx => h x (List.mem_cons_of_mem _ hx)) (by rw [List.length_append]; simp only [List.length_cons, List.length_nil]; omega)]
    rw [List.map_cons, List.append_assoc]; rfl
theorem setS_nil : setS S [] [] = S := Eq.trans rfl rfl
theorem setS_cons {k : Nat} {ks : List Nat} {d : D} {ds : List D} : setS S (k :: ks) (d :: ds) = setS ⟨S.sl.set k (some (.p d)), S.st⟩ ks ds := Eq.trans rfl rfl
theorem lcBT_ap {own ks : List Nat} {f : M R} {ds : List D} (h : ds.length = ks.length) : lcB own ks unpT tYesM f (.tup ds) S = (f (setS S ks ds)).bnd fun x S => (pure1 x S).bnd fun y S => .ok (some y) (wipeS S own) := by
  show (if ds.length = ks.length then _ else _ : Res (Option D)) = _
  rw [if_pos h]
  rfl
theorem lcBW_ap {own ks : List Nat} {f : M R} {ds : List D} (h : ds.length = ks.length) : lcB own ks unpW tYesM f ds S = (f (setS S ks ds)).bnd fun x S => (pure1 x S).bnd fun y S => .ok (some y) (wipeS S own) := by
  show (if ds.length = ks.length then _ else _ : Res (Option D)) = _
  rw [if_pos h]
  rfl
theorem lcFin_ok {S1 S' : Sg} {acc : List D} (h : acc.length ≤ 1000000) : lcFin S1 (.ok acc S') = .ok (.r S'.st.length) ⟨S1.sl, S'.st ++ [.mu (.lst acc)]⟩ := if_pos (Nat.le_trans h (by rw [sizeLine_eq]; decide))
theorem lcB1_ap {own : List Nat} {k : Nat} {f : M R} {x : D} : lcB own [k] unp1 tYesM f x S = (f ⟨S.sl.set k (some (.p x)), S.st⟩).bnd fun x S => (pure1 x S).bnd fun y S => .ok (some y) (wipeS S own) := Eq.trans rfl rfl
/-! bounds -/
theorem cdivw {j : Int} (h0 : 0 < j) (h : j < 2 ^ 1000) : CDivW i j := by
  refine ⟨h0, ?_⟩
  have h1 : j.natAbs < 2 ^ 1000 := by
    have : ((2 : Int) ^ 1000) = ((2 ^ 1000 : Nat) : Int) := by rw [Int.natCast_pow]; rfl
    rw [this] at h
    generalize (2 ^ 1000 : Nat) = z at *
    omega
  have h2 : j.natAbs ≠ 0 := by omega
  exact Nat.lt_trans ((Nat.log2_lt h2).mpr h1) (by decide)
/-- of at most so many bits -/
def Bt (n : Nat) (i : Int) : Prop := i.natAbs < 2 ^ n
theorem Bt.log2 {n : Nat} {i : Int} (h : Bt n i) : i.natAbs.log2 ≤ n := by
  by_cases h0 : i.natAbs = 0
  · rw [h0]; exact Nat.le_trans (by decide) (Nat.zero_le n)
  · exact Nat.le_of_lt ((Nat.log2_lt h0).mpr h)
theorem cmulw {n m : Nat} (h1 : Bt n i) (h2 : Bt m j) (h : n + m < 1000000 := by decide) : CMulW i j := Nat.lt_of_le_of_lt (Nat.add_le_add h1.log2 h2.log2) h
theorem cpoww {n : Nat} (h : Bt n i) (h0 : 0 ≤ j) (hz : ((n : Int) + 1) * j ≤ 2 ^ 27) : CPowW i j := ⟨h0, by
  have b : Builtin.Int.intBits i ≤ n + 1 := by
    have := h.log2
    unfold Builtin.Int.intBits; split <;> omega
  have : (Builtin.Int.intBits i : Int) * j ≤ ((n : Int) + 1) * j := Int.mul_le_mul_of_nonneg_right (by omega) h0
  omega⟩
theorem Bt.mono {n m : Nat} (h : Bt n i) (hm : n ≤ m) : Bt m i := Nat.lt_of_lt_of_le h (Nat.pow_le_pow_right (by decide) hm)
theorem Bt.of {n : Nat} (h : -(2 ^ n : Nat) < i ∧ i < (2 ^ n : Nat)) : Bt n i := by unfold Bt; omega
theorem cshl1 {j : Int} (h0 : 0 ≤ j) (h : j ≤ 1000000) : CShl 1 j := ⟨h0, by
  have : Builtin.Int.intBits 1 = 1 := by decide
  rw [this]; omega⟩
end
section
variable {st l : Store} {x y : Cell} {k n : Nat}
theorem take_self : st.take st.length = st := List.take_length
theorem take_app : (st ++ l).take st.length = st := List.take_left
theorem take_appk : (st ++ l).take (st.length + k) = st ++ l.take k := by rw [List.take_append, List.take_of_length_le (by omega)]; congr 2; omega
theorem get_app : (st ++ l)[st.length + k]? = l[k]? := by rw [List.getElem?_append_right (by omega)]; congr 1; omega
theorem get_app0 : (st ++ l)[st.length]? = l[0]? := by rw [List.getElem?_append_right (by omega)]; congr 1; omega
theorem set_app : (st ++ l).set (st.length + k) x = st ++ l.set k x := by rw [List.set_append_right _ _ (by omega)]; congr 2; omega
theorem set_app0 : (st ++ l).set st.length x = st ++ l.set 0 x := by rw [List.set_append_right _ _ (by omega)]; congr 2; omega
theorem take_set : (st.set n x).take st.length = st.set n x := by rw [← List.length_set (as := st) (i := n) (a := x)]; exact List.take_length
theorem take_set_app : (st.set n x ++ l).take st.length = st.set n x := by rw [← List.length_set (as := st) (i := n) (a := x)]; exact List.take_left
theorem get_set_app : (st.set n x ++ l)[st.length + k]? = l[k]? := by rw [← List.length_set (as := st) (i := n) (a := x)]; exact get_app
theorem get_set_app0 : (st.set n x ++ l)[st.length]? = l[0]? := by rw [← List.length_set (as := st) (i := n) (a := x)]; exact get_app0
theorem set_set_app : (st.set n x ++ l).set (st.length + k) y = st.set n x ++ l.set k y := by rw [← List.length_set (as := st) (i := n) (a := x)]; exact set_app
theorem set_set_app0 : (st.set n x ++ l).set st.length y = st.set n x ++ l.set 0 y := by rw [← List.length_set (as := st) (i := n) (a := x)]; exact set_app0
theorem get_old (h : st[n]? = some y) : (st ++ l)[n]? = some y := by rw [List.getElem?_append_left (List.getElem?_eq_some_iff.mp h).1]; exact h
theorem set_old (h : n < st.length) : (st ++ l).set n x = st.set n x ++ l := List.set_append_left _ _ h
end
section
variable {S : Sg} {α β : Type}
def augK (g : Int → Int → Int) (i : Nat) (x : Int) : R → Sg → Res Fl
  | .p (.int y), S => .ok .nx ⟨S.sl.set i (some (.p (.int (g x y)))), S.st⟩
  | _, _ => .bad
theorem augK_ap {g : Int → Int → Int} {i : Nat} {x y : Int} : augK g i x (.p (.int y)) S = .ok .nx ⟨S.sl.set i (some (.p (.int (g x y)))), S.st⟩ := Eq.trans rfl rfl
def augS (g : Int → Int → Int) (i : Nat) (f : M R) : Option (Option R) → Sg → Res Fl
  | some (some (.p (.int x))), S => (f S).bnd (augK g i x)
  | _, _ => .bad
theorem augS_ap {g : Int → Int → Int} {i : Nat} {f : M R} {x : Int} : augS g i f (some (some (.p (.int x)))) S = (f S).bnd (augK g i x) := Eq.trans rfl rfl
theorem sAug_ap (g : Int → Int → Int) (i : Nat) (f : M R) (S : Sg) : sAug g i f S = augS g i f S.sl[i]? S := by
  unfold sAug augS
  cases h : S.sl[i]? with
  | none => rfl
  | some o => cases o with
    | none => rfl
    | some r => cases r with
      | r n => rfl
      | p d => cases d with
        | int x =>
          show (match f S with | .ok (.p (.int y)) S1 => _ | .ok _ _ => _ | .exc z S1 => _ | .bad => _) = (f S).bnd _
          cases f S with
          | bad => rfl
          | exc z S1 => rfl
          | ok y S1 => cases y with
            | r n => rfl
            | p d => cases d <;> rfl
        | _ => rfl
theorem itR2L_k (g : M (List R)) (S : Sg) : itR2L g S = (g S).bnd rngL := by unfold itR2L; rw [bind_bnd]
theorem rngL_i {i j : Int} : rngL [.p (.int i), .p (.int j)] S = .ok ⟨fun _ => True, Dd.intsFrom i (j - i).toNat⟩ S := Eq.trans rfl rfl
theorem itR3_k (g : M (List R)) (S : Sg) : itR3 g S = (g S).bnd rng3 := by unfold itR3; rw [bind_bnd]
/-- x in l, both worked out -/
def inK (neg : Bool) (v : V) : Option (List D) → Sg → Res R
  | some l, S => (match flatL l with
    | some vs => .ok (.p (.bl (if neg then !inV v vs else inV v vs))) S
    | none => .bad)
  | none, _ => .bad
theorem opInG_i {neg : Bool} {i : Int} {y : R} : opInG neg (.p (.int i)) y S = inK neg (.int i) (getL y S) S := by unfold opInG inK; cases getL y S <;> rfl
theorem opInG_b {neg : Bool} {i : Bool} {y : R} : opInG neg (.p (.bl i)) y S = inK neg (.bl i) (getL y S) S := by unfold opInG inK; cases getL y S <;> rfl
theorem opInG_s {neg : Bool} {i : Str} {y : R} : opInG neg (.p (.str i)) y S = inK neg (.str i) (getL y S) S := by unfold opInG inK; cases getL y S <;> rfl
theorem opInG_n {neg : Bool} {y : R} : opInG neg (.p .non) y S = inK neg .non (getL y S) S := by unfold opInG inK; cases getL y S <;> rfl
theorem opMaxL_e {x : R} : opMaxL x S = extK maxI S (getLst x S) := Eq.trans rfl rfl
theorem opMinL_e {x : R} : opMinL x S = extK minI S (getLst x S) := Eq.trans rfl rfl
theorem opBxor_i {i j : Int} : opBxor (.p (.int i)) (.p (.int j)) S = .ok (.p (.int (Builtin.bitXor i j))) S := Eq.trans rfl rfl
def starK (g : M (List R)) : Option (List D) → Sg → Res (List R)
  | some l, S => (g S).bnd fun ys S => .ok (ofD l ++ ys) S
  | none, _ => .bad
theorem starK_ap {g : M (List R)} {l : List D} : starK g (some l) S = (g S).bnd fun ys S => .ok (ofD l ++ ys) S := Eq.trans rfl rfl
theorem aS_ap (f : M R) (g : M (List R)) (S : Sg) : aS f g S = (f S).bnd fun x S => starK g (getL x S) S := by
  unfold aS
  rw [bind_bnd]
  refine bnd_ext fun x S1 => ?_
  cases getL x S1 with
  | none => rfl
  | some l => show (match g S1 with | .ok ys S2 => _ | .exc z S2 => _ | .bad => _) = (g S1).bnd _; cases g S1 <;> rfl
theorem pureL_p : ∀ (l : List D) (xs : List R) (S : Sg), pureL (ofD l ++ xs) S = (pureL xs S).bnd fun ds S => .ok (l ++ ds) S
  | [], xs, S => by
    show pureL xs S = _
    cases pureL xs S <;> rfl
  | d :: l, xs, S => by
    show pureL (.p d :: (ofD l ++ xs)) S = _
    rw [pureL_cons, pure1_p, bnd_ok, pureL_p l xs S]
    cases pureL xs S <;> rfl
/-- a while's first turn -/
def whK (t : M Bool) (h : M Fl) (n : Nat) : Fl → Sg → Res Fl
  | .nx, S => whileN t h n S
  | .ct, S => whileN t h n S
  | .bk, S => .ok .nx S
  | .rt x, S => .ok (.rt x) S
theorem whileN_t {t : M Bool} {h : M Fl} {n : Nat} {S S1 : Sg} (e : t S = .ok true S1) : whileN t h (n + 1) S = (h S1).bnd (whK t h n) := by
  show (match t S with | .ok true S1 => _ | .ok false S1 => _ | .exc x S1 => _ | .bad => _) = _
  rw [e]
  show (match h S1 with | .ok .nx S2 => _ | .ok .ct S2 => _ | .ok .bk S2 => _ | .ok (.rt x) S2 => _ | .exc x S2 => _ | .bad => _) = _
  cases h S1 with
  | bad => rfl
  | exc x S2 => rfl
  | ok f S2 => cases f <;> rfl
theorem whileN_f {t : M Bool} {h : M Fl} {n : Nat} {S S1 : Sg} (e : t S = .ok false S1) : whileN t h (n + 1) S = .ok .nx S1 := by
  show (match t S with | .ok true S1 => _ | .ok false S1 => _ | .exc x S1 => _ | .bad => _) = _
  rw [e]
end
end Dd

open Dd in
local macro_rules | `(tactic| simp! [$ls,*]) => `(tactic| simp only [bnd_ok, bnd_exc, bnd_bad, ifK_t, ifK_f, ifK_d, ifK_n, seqK_nx, seqK_rt, seqK_bk, seqK_ct, sSq_ap, sIf_ap, sRt_ap, sRtN_ap, sNx_ap, sBad_ap, sBk_ap, sCt_ap, sEx_ap, sSet_ap, sAsg_ap, sSub_ap, sPar_ap, sParK_ap, sPar3_ap, sParK3_ap, sFor_ap, sFld_ap, vr_ap, getK_ap, ci_ap, cb_ap, cn_ap, cs_ap, cd_ap, bin_ap, uNeg_ap, toB_ap, tst_ap, mNot_ap, mAnd_ap, mOr_ap, eAnd_ap, eOr_ap, eNot_ap, eIf_ap, eChain_ap, aN_ap, aC_ap, pur_ap, pure1_p, pure1_r, pureC_lst, pureC_fz, pureL_nil, pureL_cons, tupE_ap, lstE_ap, allocT_ap, allocL_ap, callM_ap, callK_ap, applyF_val, applyF_new, applyF_if, bnd_if, runF_ap, finish_nx, finish_p, finish_r, finish_if, makeU_ap, opA_ap, op1_ap, methM_ap, attrU_ap, attrK_scr, propU_ap, isB_ap, isC_ap, isCK_scr, itL_ap, itE_ap, itR1_k, rngK1_i, intsFrom_0, intsFrom_s, gN_ap, gsN_ap, gsC_ap, gT_ap, gL_ap, getL_tup, getL_lst, getL_scp, opAdd_i, opSub_i, opMod_i, opShr_i, opBand_i, opLt_i, opLe_i, opGt_i, opGe_i, opEqD_i, opNeD_i, opInt_i, opInt_b, isK_ii, isK_ib, isK_tt, isK_ll, getLK_mu, getLK_fz, getL_r, getLst_r, getLst_lst, getLst_scp, getM_r, getM_lst, opLen_t, opLen_l, opLen_c, opLen_r, lenK_ap, opIx_t, opIx_l, opIx_c, opIx_r, ixK'_ap, ixK_0, ixK_1, ixK_2, ixK_3, appK_ap, opApp_ap, opPopAt_ap, isLst_r', methK, setAt_ap, setK_0, setK_1, setK_2, lcE_ap, wipeS_ap, wipeL_nil, wipeL_cons, lcB1_ap, lcBT_ap, lcBW_ap, setS_nil, setS_cons, opAll_r, opSum_r, sumK_ints, opSort_t, opSort_r, opTuple_t, opTuple_l, opTuple_r, tupK_ap, Option.isSome_some, Int.reduceAdd, Int.reduceSub, Int.reduceMul, Int.reduceLT, Int.reduceLE, Int.reduceNeg, Int.reducePow, Int.reduceDiv, Int.reduceMod, Int.reduceToNat, Nat.reduceEqDiff, Int.cast_ofNat_Int, opAbs_i, opMax2_i, opMin2_i, sAug_ap, augS_ap, augK_ap, itR2L_k, rngL_i, itR3_k, opIn, opNotIn, opInG_i, opInG_b, opInG_s, opInG_n, opMaxL_e, opMinL_e, opBxor_i, aS_ap, starK_ap, pureL_p, List.map_cons, List.map_nil, List.length_cons, List.length_nil, List.cons_append, List.nil_append, List.append_assoc, List.replicate, List.set_cons_zero, List.set_cons_succ, List.set_nil, List.getElem?_cons_zero, List.getElem?_cons_succ, List.getElem?_nil, List.length_append, List.length_set, take_self, take_app, take_appk, List.take_succ_cons, List.take_zero, List.take_nil, get_app, get_app0, set_app, set_app0, take_set, take_set_app, get_set_app, get_set_app0, set_set_app, set_set_app0, List.set_set, Nat.reduceAdd, Nat.reduceSub, Nat.reduceMul, Nat.reduceLeDiff, Nat.reduceLT, Nat.zero_add, Nat.add_zero, Bool.not_true, Bool.not_false, Bool.not_not, if_true, if_false, ite_true, ite_false, eq_self_iff_true, decide_true, decide_false, Bool.true_and, Bool.false_and, Bool.and_true, Bool.and_false, reduceCtorEq, and_self, and_true, true_and, $ls,*])

set_option Elab.async false
set_option linter.all false
set_option maxRecDepth 100000
namespace Dd
open PySem PySem.Spec PyProof.Rows L2
/-! ### what holds behind a run -/
structure PkQ {α β : Type} (Q : α → β → Prop) : Type where
def Wp {α : Type} (r : Res α) (Q : α → Sg → Prop) (u : PkQ Q := ⟨⟩) : Prop := ∃ a S, r = .ok a S ∧ Q a S
def WpF (r : FRes) (Q : FR → Store → Prop) (u : PkQ Q := ⟨⟩) : Prop := ∃ a st, r = .ok a st ∧ Q a st
section
variable {α β : Type} {S : Sg} {Q : α → Sg → Prop} {QF : FR → Store → Prop}
theorem wp_ok {a : α} (h : Q a S) : Wp (.ok a S) Q := ⟨a, S, rfl, h⟩
theorem wp_bnd {r : Res β} {k : β → Sg → Res α} (h : Wp r fun b S => Wp (k b S) Q) : Wp (r.bnd k) Q := by
  obtain ⟨b, S1, e, a, S2, e2, q⟩ := h
  exact ⟨a, S2, by rw [e, bnd_ok, e2], q⟩
theorem wp_imp {r : Res α} {Q' : α → Sg → Prop} (h : Wp r Q) (k : ∀ a S, Q a S → Q' a S) : Wp r Q' := by
  obtain ⟨a, S, e, q⟩ := h
  exact ⟨a, S, e, k a S q⟩
theorem wp_fin {r : Res Fl} {b : Nat} (h : Wp r fun f S => WpF (finish b (.ok f S)) QF) : WpF (finish b r) QF := by
  obtain ⟨f, S, e, q⟩ := h
  rw [e]; exact q
theorem bnd_bnd {γ : Type} {r : Res γ} {k : γ → Sg → Res β} {k' : β → Sg → Res α} : (r.bnd k).bnd k' = r.bnd fun a S => (k a S).bnd k' := by cases r <;> rfl
theorem wpf_bnd {r : Res β} {k : β → Sg → Res Fl} {b : Nat} (h : Wp r fun a S => WpF (finish b (k a S)) QF) : WpF (finish b (r.bnd k)) QF := by
  obtain ⟨a, S, e, q⟩ := h
  rw [e, bnd_ok]; exact q
theorem wpf_ok {a : FR} {st : Store} (h : QF a st) : WpF (.ok a st) QF := ⟨a, st, rfl, h⟩
theorem wpf_if {p : Prop} [Decidable p] {a b : FRes} (h1 : p → WpF a QF) (h2 : ¬ p → WpF b QF) : WpF (if p then a else b) QF := by
  by_cases h : p
  · rw [if_pos h]; exact h1 h
  · rw [if_neg h]; exact h2 h
/-- a loop by its invariant; an early return by Q -/
theorem wp_loop {ok : Sg → Prop} {body : β → M Fl} {l : List β} {Q : Fl → Sg → Prop} (I : Nat → Sg → Prop) (h0 : I 0 S) (hok : ∀ j S, I j S → ok S)
    (hs : ∀ j d S, l[j]? = some d → I j S → Wp (body d S) fun f S' => match f with
      | .nx => I (j + 1) S'
      | .ct => I (j + 1) S'
      | .bk => Q .nx S'
      | .rt x => Q (.rt x) S')
    (hd : ∀ S, I l.length S → Q .nx S) : Wp (loopL ok body l S) Q := by
  have gen : ∀ (l' : List β) (i : Nat) (S : Sg), i + l'.length = l.length → (∀ j d, l'[j]? = some d → l[i + j]? = some d) → I i S → Wp (loopL ok body l' S) Q := by
    intro l'
    induction l' with
    | nil =>
      intro i S hi hl hI
      refine ⟨.nx, S, loopL_nil (hok _ _ hI), hd S ?_⟩
      rw [← hi]; exact hI
    | cons d ds ih =>
      intro i S hi hl hI
      rw [loop_cons (hok _ _ hI)]
      refine wp_bnd (wp_imp (hs i d S (hl 0 d rfl) hI) fun f S' q => ?_)
      have go : I (i + 1) S' → Wp (loopL ok body ds S') Q := fun q => ih (i + 1) S' (by rw [List.length_cons] at hi; omega) (fun j d' hj => by
        have := hl (j + 1) d' (by simpa using hj)
        rwa [show i + (j + 1) = i + 1 + j by omega] at this) q
      cases f with
      | nx => exact go q
      | ct => exact go q
      | bk => exact wp_ok q
      | rt x => exact wp_ok q
  exact gen l 0 S (by omega) (fun j d hj => by rw [Nat.zero_add]; exact hj) h0
/-- a while by its invariant with a measure -/
theorem wp_while {t : M Bool} {h : M Fl} {Q : Fl → Sg → Prop} (I : Nat → Sg → Prop) (m : Nat) (h0 : I m S)
    (hs : ∀ m S, I m S → Wp (t S) fun b S1 => if b = true then Wp (h S1) (fun f S' => match f with
      | .nx => ∃ m', m' < m ∧ I m' S'
      | .ct => ∃ m', m' < m ∧ I m' S'
      | .bk => Q .nx S'
      | .rt x => Q (.rt x) S') else Q .nx S1) : Wp (sWhile t h S) Q := by
  have gen : ∀ (m : Nat) (S : Sg), I m S → ∃ f S', whileN t h (m + 1) S = .ok f S' ∧ Q f S' := by
    intro m
    induction m using Nat.strongRecOn with
    | ind m ih =>
      intro S hI
      obtain ⟨b, S1, e, q⟩ := hs m S hI
      cases b with
      | false => exact ⟨.nx, S1, whileN_f e, q⟩
      | true =>
        obtain ⟨f, S2, e2, q⟩ : Wp (h S1) _ := q
        have go : (∃ m', m' < m ∧ I m' S2) → ∃ f S', whileN t h m S2 = .ok f S' ∧ Q f S' := fun ⟨m', hm, hI'⟩ => by
          obtain ⟨f, S', e3, q3⟩ := ih m' hm S2 hI'
          exact ⟨f, S', by rw [whileN_mono (n := m' + 1) (by rw [e3]; intro z; cases z) m (by omega)]; exact e3, q3⟩
        rw [whileN_t e, e2, bnd_ok]
        cases f with
        | nx => exact go q
        | ct => exact go q
        | bk => exact ⟨.nx, S2, rfl, q⟩
        | rt x => exact ⟨.rt x, S2, rfl, q⟩
  obtain ⟨f, S', e, q⟩ := gen m S h0
  exact ⟨f, S', sWhile_of e (by intro z; cases z), q⟩
/-- a comprehension -/
theorem wp_lc {ok : Sg → Prop} {body : β → M (Option D)} {l : List β} {Q : List D → Sg → Prop} (I : Nat → List D → Sg → Prop) (h0 : I 0 [] S) (hok : ∀ j acc S, I j acc S → ok S) (hl : l.length ≤ 1000000)
    (hs : ∀ j d acc S, l[j]? = some d → acc.length ≤ j → I j acc S → Wp (body d S) fun o S' => match o with
      | some y => I (j + 1) (acc ++ [y]) S'
      | none => I (j + 1) acc S')
    (hd : ∀ acc S, I l.length acc S → Q acc S) : Wp (lcL ok body l [] S) Q := by
  have gen : ∀ (l' : List β) (i : Nat) (acc : List D) (S : Sg), i + l'.length = l.length → acc.length ≤ i → (∀ j d, l'[j]? = some d → l[i + j]? = some d) → I i acc S → Wp (lcL ok body l' acc S) Q := by
    intro l'
    induction l' with
    | nil =>
      intro i acc S hi ha hl hI
      refine ⟨acc, S, lcL_nil' (hok _ _ _ hI), hd acc S ?_⟩
      rw [← hi]; exact hI
    | cons d ds ih =>
      intro i acc S hi ha hl' hI
      rw [List.length_cons] at hi
      obtain ⟨o, S1, e, q⟩ := hs i d acc S (hl' 0 d rfl) ha hI
      rw [lcL_cons (hok _ _ _ hI) e]
      have nx : ∀ j d', ds[j]? = some d' → l[i + 1 + j]? = some d' := fun j d' hj => by
        have := hl' (j + 1) d' (by simpa using hj)
        rwa [show i + (j + 1) = i + 1 + j by omega] at this
      cases o with
      | none => exact ih (i + 1) acc S1 (by omega) (by omega) nx q
      | some y =>
        show Wp (if acc.length < sizeLine then lcL ok body ds (acc ++ [y]) S1 else .bad) Q
        rw [if_pos (Nat.lt_of_lt_of_le (by omega : acc.length < 1000000 + 1) (by rw [sizeLine_eq]; decide))]
        exact ih (i + 1) (acc ++ [y]) S1 (by omega) (by rw [List.length_append]; simp only [List.length_cons, List.length_nil]; omega) nx q
  exact gen l 0 [] S (by omega) (Nat.le_refl _) (fun j d hj => by rw [Nat.zero_add]; exact hj) h0
theorem wp_lcFin {S1 : Sg} {r : Res (List D)} {Q : R → Sg → Prop} (h : Wp r fun acc S' => acc.length ≤ 1000000 ∧ Q (.r S'.st.length) ⟨S1.sl, S'.st ++ [.mu (.lst acc)]⟩) : Wp (lcFin S1 r) Q := by
  obtain ⟨acc, S', e, hl, q⟩ := h
  exact ⟨_, _, by rw [e, lcFin_ok hl], q⟩
end
end Dd

set_option Elab.async false
set_option linter.all false
set_option maxRecDepth 100000
namespace Dd
open PySem PySem.Spec PyProof.Rows L2
section
variable {X : Cx} {c : Cg} {W : WX} {Γ : Gh} {G : Hp} {o a b e e4 : Expr} {es : List Expr} {f fa fb fc fd : M R} {g : M (List R)} {pos pos' p p' apos : Pos} {S : Sg}
/-! ### list(range(n)) -/
/-! ### a op b op c op d -/
/-! ### list.count of ints, list.extend by a list -/
/-! ### in a list of data -/
/-! ### tuples put together -/
/-! ### a method of a screen -/
def methK' (m : Str) (F : Fn) (n : Nat) (g : M (List R)) (x : R) (S : Sg) : Res R := match insOf x S with
  | some (k', fs) => if k' = 0 ∧ fs.lookup m = none then (g S).bnd fun xs S => callK F n (x :: xs) S else .bad
  | none => .bad
theorem methU_ap (m : Str) (F : Fn) (n : Nat) (f : M R) (g : M (List R)) (S : Sg) : methU 0 m F n f g S = (f S).bnd (methK' m F n g) := by
  unfold methU
  rw [bind_bnd]
  refine bnd_ext fun x S1 => ?_
  unfold methK'
  cases insOf x S1 with
  | none => rfl
  | some q =>
    obtain ⟨k', fs⟩ := q
    by_cases h : k' = 0 ∧ fs.lookup m = none
    · show (if k' = 0 ∧ fs.lookup m = none then callM F n _ S1 else .bad) = (if k' = 0 ∧ fs.lookup m = none then _ else .bad)
      rw [if_pos h, if_pos h, callM_ap, bind_bnd]
      cases g S1 <;> rfl
    · show (if k' = 0 ∧ fs.lookup m = none then callM F n _ S1 else .bad) = (if k' = 0 ∧ fs.lookup m = none then _ else .bad)
      rw [if_neg h, if_neg h]
theorem methK'_scr {m : Str} {F : Fn} {n : Nat} {g : M (List R)} {l : List D} {S : Sg} (hm : (m == ("own_levels" : Str)) = false) : methK' m F n g (.p (.scr l)) S = (g S).bnd fun xs S => callK F n (.p (.scr l) :: xs) S := by
  have e : List.lookup m [(("own_levels" : Str), D.tup l)] = none := by
    show (match m == ("own_levels" : Str) with | true => _ | false => _) = _
    rw [hm]
    rfl
  show (if (0 : Nat) = 0 ∧ List.lookup m [(("own_levels" : Str), D.tup l)] = none then _ else _) = _
  rw [if_pos ⟨rfl, e⟩]
end
end Dd

set_option Elab.async false
set_option linter.all false
set_option maxRecDepth 100000
namespace Dd
open PySem PySem.Spec PyProof.Rows L2
section
variable {X : Cx} {c : Cg} {W : WX} {a b e o : Expr} {f fa fb : M R} {g : M (List R)} {pos p apos : Pos} {k n : Nat} {F : Fn} {fA : Addr} {fd : FuncData} {ps : List Str}
/-! ### an own == -/
theorem t_eqU (hK : X.K = c.K) (cf : ClsF c.K (c.cls k)) (hm : Meth X.K (c.cls k) "__eq__" fA) (Fk : FnG X.prog X.w X.K X.mg X.base n fA fd ps (spF c 2 F)) (hG : X.A.guards = some []) (hr : Room n X.A) (hb : Binds X.K fd ps [])
    (ha : PE X a (rdE c W fa)) (hb' : PE X b (rdE c W fb)) (hi : behindInMarks .Eq b = false := by rfl) : PT X (.Compare a [.Eq] [b] pos) (rdT c W (tst (bin (opEqU k F) fa fb))) :=
  st_cmp (op_eqU Fk hm.at_ hm.fn hb hG hr) (od_eqU (n := n) hK cf) ha hb' hi
def insC : Option Cell → Option (Nat × List (Str × D))
  | some (.mu (.obj k fs)) => some (k, fs)
  | _ => none
theorem insOf_rC {i : Nat} {S : Sg} : insOf (.r i) S = insC S.st[i]? := by
  unfold insOf insC
  rfl
/-! ### a module's tuple of ints and texts -/
/-! ### attributes and methods of an object in a cell -/
/-! ### {} -/
end
end Dd

set_option Elab.async false
set_option linter.all false
set_option maxRecDepth 100000
namespace Dd
open PySem PySem.Spec PyProof.Rows L2
open PySem.W (dataLt minD keyToks keyToksAll AlikeAll alike alikeAll)
/-! ### min of a list of pairs of ints -/
def pairsOf : List D → Option (List (Int × Int))
  | [] => some []
  | .tup [.int a, .int b] :: r => (match pairsOf r with
    | some ps => some ((a, b) :: ps)
    | none => none)
  | _ => none
def ltP (p q : Int × Int) : Bool := decide (p.1 < q.1 ∨ (p.1 = q.1 ∧ p.2 < q.2))
def minP (p : Int × Int) (ps : List (Int × Int)) : Int × Int := ps.foldl (fun a y => if ltP y a then y else a) p
def pdP (p : Int × Int) : PyData := .tuple [.int p.1, .int p.2]
theorem dataLt_pdP (p q : Int × Int) : dataLt (pdP p) (pdP q) = ltP p q := by
  unfold dataLt pdP ltP
  simp only [keyToks, keyToksAll, List.singleton_append, List.cons_append, List.nil_append, PyProof.Rows.lexLt, PyProof.Rows.itemOrd, PyProof.Rows.itemLt]
  by_cases h1 : p.1 < q.1
  · simp [h1]
  · by_cases h2 : p.1 = q.1
    · rw [h2]; simp
    · have : q.1 < p.1 := by omega
      simp [h1, h2, this]
theorem minD_pdP : ∀ (ps : List (Int × Int)) (p : Int × Int), minD (pdP p) (ps.map pdP) = pdP (minP p ps)
  | [], p => rfl
  | q :: ps, p => by
    show minD (if dataLt (pdP q) (pdP p) = true then pdP q else pdP p) (ps.map pdP) = pdP (minP (if ltP q p = true then q else p) ps)
    rw [dataLt_pdP, ← minD_pdP ps]
    split <;> rfl
/-- min(xs), xs a list of pairs of ints: the item that is the least -/
def rMinP (K : PySem.W.Frag) : List V → Hp → VK → Prop := fun vs H Q => ∃ (a : Addr) (xs : List V) (p : Int × Int) (ps : List (Int × Int)), vs = [V.ref a] ∧ SqL K H a xs ∧ DpAll K H xs ((p :: ps).map pdP) ∧ ∀ (i : Nat) (y : V), xs[i]? = some y → (p :: ps)[i]? = some (minP p ps) → Q y H
theorem depth_pdP : ∀ ps : List (Int × Int), PyData.depthAll (ps.map pdP) ≤ 1
  | [] => Nat.zero_le _
  | p :: ps => by
    show max (PyData.depth (pdP p)) (PyData.depthAll (ps.map pdP)) ≤ 1
    have := depth_pdP ps
    have e : PyData.depth (pdP p) = 1 := rfl
    omega
theorem alike_pdP (ps : List (Int × Int)) : AlikeAll (ps.map pdP) := by
  constructor
  · intro x hx y hy
    obtain ⟨p, _, rfl⟩ := List.mem_map.mp hx
    obtain ⟨q, _, rfl⟩ := List.mem_map.mp hy
    simp [pdP, alike, alikeAll]
  · intro x hx
    obtain ⟨p, _, rfl⟩ := List.mem_map.mp hx
    simp [pdP]
theorem cr_minP {X : Cx} (hc : X.calm = true) (hu : X.A.units + 66 < cLine) : CallR X (.builtin "min") (rMinP X.K) := by
  intro pins s σ H vs us Q I r h
  obtain ⟨a, xs, p, ps, rfl, hs, hd, q⟩ := h
  obtain ⟨its, rv, hl, _⟩ := I.list hs
  rw [Vals.ref1 r]
  obtain ⟨as, ra⟩ := Dp.readsAll I _ xs its hd rv
  refine PySem.W.min_list_data (x := pdP p) (xs := ps.map pdP) (I.ok.hd hc) hl.isList (by simpa using ra) (alike_pdP (p :: ps)) (by have := depth_pdP (p :: ps); rw [List.map_cons] at this; omega) fun i v h' tk bs hv rd hk => ?_
  have hv' : its[i]? = some v := by simpa using hv
  obtain ⟨bs', r1, hi, _, _⟩ := PySem.W.readsAll_at ra i v hv'
  have e1 := (PyProof.Rows.reads_det (fun b o e _ => hk b o e) r1 rd).1
  rw [minD_pdP] at e1
  have hlen : i < (p :: ps).length := by rw [List.length_map] at hi; exact hi
  have hm : (p :: ps)[i]? = some (minP p ps) := by
    rw [List.getD_eq_getElem?_getD, List.getElem?_map, List.getElem?_eq_getElem hlen] at e1
    rw [List.getElem?_eq_getElem hlen]
    have e2 : pdP (minP p ps) = pdP (p :: ps)[i] := e1
    unfold pdP at e2
    simp only [PyData.tuple.injEq, List.cons.injEq, PyData.int.injEq, and_true] at e2
    exact congrArg some (Prod.ext e2.1.symm e2.2.symm)
  have hx : i < xs.length := by
    have := (List.getElem?_eq_some_iff.mp hv').1
    rw [rv.length] at *
    first | exact this | omega
  have hy : xs[i]? = some xs[i] := List.getElem?_eq_getElem hx
  obtain ⟨u, hu1, hu2⟩ := Vals.get rv hy
  rw [hv'] at hu1
  cases hu1
  exact ⟨xs[i], H, I.kept hk, hu2, q i _ hy hm⟩
theorem pairsOf_py : ∀ {l : List D} {ps : List (Int × Int)}, pairsOf l = some ps → toPyL l = some (ps.map pdP) ∧ ∀ (i : Nat) (p : Int × Int), ps[i]? = some p → l[i]? = some (.tup [.int p.1, .int p.2])
  | [], ps, h => by cases h; exact ⟨rfl, fun i p e => by simp at e⟩
  | d :: r, ps, h => by
    unfold pairsOf at h
    split at h
    · rename_i e; cases e
    · rename_i a b r' e
      cases e
      cases q : pairsOf r with
      | none => rw [q] at h; cases h
      | some qs =>
        rw [q] at h
        cases h
        obtain ⟨h1, h2⟩ := pairsOf_py q
        refine ⟨?_, fun i p e => ?_⟩
        · show toPyL (.tup [.int a, .int b] :: r) = _
          unfold toPyL
          rw [h1]; rfl
        · cases i with
          | zero => cases e; rfl
          | succ i => exact h2 i p (by simpa using e)
    · cases h
def minPK (S : Sg) : Option (List D) → Res R
  | some l => (match pairsOf l with
    | some (p :: ps) => .ok (.p (.tup [.int (minP p ps).1, .int (minP p ps).2])) S
    | _ => .bad)
  | none => .bad
def opMinP : R → M R := fun x S => minPK S (getLst x S)
section
variable {X : Cx} {c : Cg} {W : WX} {a : Expr} {f : M R} {pos p : Pos}
theorem cd_minP (hK : X.K = c.K) : CallD c W (op1 opMinP) (rMinP X.K) :=
  cd_one (r := fun v H Q => rMinP X.K [v] H Q) (by
    intro Γ S σ H x v Q F hv P
    unfold opMinP minPK at P
    cases hl : getLst x S with
    | none => rw [hl] at P; exact P.elim
    | some l =>
      rw [hl] at P
      simp only at P
      cases hb : pairsOf l with
      | none => rw [hb] at P; exact P.elim
      | some qs =>
        rw [hb] at P
        cases qs with
        | nil => exact P.elim
        | cons p ps =>
          simp only at P
          obtain ⟨a, vs, rfl, h1, h2⟩ := getLst_ok F hv hl
          obtain ⟨e1, e2⟩ := pairsOf_py hb
          refine ⟨a, vs, p, ps, rfl, hK ▸ h1, hK ▸ DpAll.mono F.s.g (toPyL_dp e1 h2), fun i y hy hm => ?_⟩
          obtain ⟨y', hy', ry⟩ := RepL.get h2 (e2 i _ hm)
          rw [hy] at hy'
          cases hy'
          exact Post.ok (c := c) (W := W) P Gh.le.refl F _ (RepR.pure.mpr ry)) (fun v H Q h => h)
theorem e_minP {k : Nat} (hr : Room k X.A) (hK : X.K = c.K) (hc : X.calm = true) (hm : X.mg "min" = none) (ha : PE X a (rdE c W f)) (hg : Gl X "min" := by rfl) (he : starEach [a] X.env = (false, eval a X.env) :: starEach [] X.env := by rfl) (hpl : (backTo pos (starEach [] X.env)).any (·.1) = false := by rfl) :
    PE X (.Call (.Name "min" p) [a] [] pos) (rdE c W (opA (op1 opMinP) (aC f aN))) := se_callB (cr_minP hc (hu66 hr)) (cd_minP hK) hg hm (by decide +kernel) (sa_cons ha sa_nil he) (by decide) (by decide) he hpl
end
/-! ### min of a tuple of ints -/
section
variable {X : Cx} {c : Cg} {W : WX} {a : Expr} {f : M R} {pos p : Pos}
end
/-! ### zip of two lists -/
section
variable {X : Cx} {c : Cg} {W : WX} {e e2 : Expr} {f f2 : M R} {pos p tpos : Pos} {elts : List Expr} {kk : Nat}
end
theorem opMinP_e {x : R} {S : Sg} : opMinP x S = minPK S (getLst x S) := Eq.trans rfl rfl
end Dd

set_option Elab.async false
set_option linter.all false
set_option maxRecDepth 100000
namespace Dd
open PySem PySem.Spec PyProof.Rows L2
/-! ### xs[::-1] -/
section
variable {X : Cx} {c : Cg} {W : WX} {e stp : Expr} {f : M R} {s : M (Option Int)} {pos p2 : Pos}
end
/-! ### list.count of texts -/
section
variable {X : Cx} {c : Cg} {W : WX} {o a : Expr} {f fa : M R} {apos : Pos}
end
end Dd

set_option Elab.async false
set_option linter.all false
set_option maxRecDepth 100000
namespace Dd
open PySem PySem.Spec PyProof.Rows L2
/-! ### a thing of one's own, kept aside while others are made -/
section
variable {c : Cg} {W : WX} {Γ : Gh} {S : Sg} {σ : L2.St} {H : Hp} {p : Addr} {o o' : HO}
theorem StOk.dropL {st : Store} {L : Hp} (F : StOk c Γ st H) (e : Ext L Γ.L) : StOk c { Γ with L := L } st H where
  g := F.g
  l := e.trans F.l
  gl := fun a u h => F.gl a u (e _ _ h)
  len := F.len
  cell := fun n x a e1 e2 => by
    have q := F.cell n x a e1 e2
    cases x with
    | mu u =>
      obtain ⟨w, h1, h2, h3, h4⟩ := q
      refine ⟨w, h1, ?_, h3, Ext.none e h4⟩
      cases u with
      | lst l => exact h2
      | dct kvs => exact h2
      | dt kvs => exact h2
      | obj k fs => obtain ⟨dx, vs, k1', k2', k3'⟩ := h2; exact ⟨dx, vs, k1', RepF.mono (Γ := Γ) (Γ' := { Γ with L := L }) Ext.refl (fun _ _ _ q => q) k2', k3'⟩
    | fz l => exact q
    | dead => trivial
  inj := F.inj
  own := fun b a f ws q => let ⟨k1, k2, k3, k4⟩ := F.own b a f ws q; ⟨k1, k2, Ext.none e k3, k4⟩
theorem RepR.L {L : Hp} : ∀ {x : R} {v : V}, RepR c { Γ with L := L } x v ↔ RepR c Γ x v
  | .p _, _ => Iff.rfl
  | .r _, _ => Iff.rfl
theorem FrOk.dropL {L : Hp} (F : FrOk c Γ S σ H) (e : Ext L Γ.L) : FrOk c { Γ with L := L } S σ H := ⟨F.s.dropL e, F.len, fun i x h => let ⟨v, h1, h2⟩ := F.sl i x h; ⟨v, h1, RepR.L.mpr h2⟩⟩
/-- a wish, with more kept -/
theorem Post.keep {α : Type} {r : Res α} {K : α → Sg → Gh → Hp → Prop} {L : Hp} (P : Post c W σ Γ r K) (e : Ext Γ.L L) : Post c W σ { Γ with L := L } r fun a S' Γ' H' => Γ'.L = L ∧ K a S' { Γ' with L := Γ.L } H' := by
  cases r with
  | ok a S1 =>
    intro Γ' H' le F
    have hL : Γ'.L = L := le.l
    refine ⟨hL, P { Γ' with L := Γ.L } H' ⟨le.g, rfl, le.r⟩ (F.dropL (by rw [hL]; exact e))⟩
  | exc x S1 =>
    intro Γ' H' cls dd le F q
    have hL : Γ'.L = L := le.l
    exact P { Γ' with L := Γ.L } H' cls dd ⟨le.g, rfl, le.r⟩ (F.dropL (by rw [hL]; exact e)) q
  | bad => exact P
end
/-! ### {a: b, c: d}.get(x, y), all ints -/
section
variable {X : Cx} {c : Cg} {W : WX} {k1 v1 k2 v2 e f : Expr} {fa fb fc fd fx fy : M R} {pos cpos apos : Pos} {u1 u2 : Option Expr}
end
end Dd

set_option Elab.async false
set_option linter.all false
set_option maxRecDepth 100000
namespace Dd
open PySem PySem.Spec PyProof.Rows L2
/-! ### texts: join, split, sorted, int, str, a loop over signs -/
def isStr (x : R) (_ : Sg) : Bool := match x with
  | .p (.str _) => true
  | _ => false
section
variable {X : Cx} {c : Cg} {W : WX} {o a e : Expr} {f fa : M R} {apos pos p : Pos} {tg : Expr}
end
end Dd

set_option Elab.async false
set_option linter.all false
set_option maxRecDepth 100000
namespace Dd
open PySem PySem.Spec PyProof.Rows L2
/-! ### sorted of a text -/
section
variable {X : Cx} {c : Cg} {W : WX} {a : Expr} {f : M R} {p pos : Pos}
end
end Dd

set_option Elab.async false
set_option linter.all false
set_option maxRecDepth 100000
namespace Dd
open PySem PySem.Spec PyProof.Rows L2
open PySem.W (dataLe EachIs AllAlike Sortable)
/-! ### sorted of a list of pairs of ints -/
def tupP (p : Int × Int) : D := .tup [.int p.1, .int p.2]
theorem pairsOf_map : ∀ {l : List D} {ps : List (Int × Int)}, pairsOf l = some ps → l = ps.map tupP
  | [], ps, h => by cases h; rfl
  | d :: r, ps, h => by
    unfold pairsOf at h
    split at h
    · rename_i e; cases e
    · rename_i a b r' e
      cases e
      cases q : pairsOf r with
      | none => rw [q] at h; cases h
      | some qs => rw [q] at h; cases h; rw [pairsOf_map q]; rfl
    · cases h
section
variable {X : Cx} {c : Cg} {W : WX} {a : Expr} {f : M R} {pos p : Pos}
end
end Dd

set_option Elab.async false
set_option linter.all false
set_option maxRecDepth 100000
namespace Dd
open PySem PySem.Spec PyProof.Rows L2
/-! ### text.count, text[::-1] -/
section
variable {X : Cx} {c : Cg} {W : WX} {o a e stp : Expr} {f fa : M R} {s : M (Option Int)} {apos pos p2 : Pos}
end
/-! ### an int as a test -/
section
variable {X : Cx} {c : Cg} {W : WX} {e : Expr} {f : M R}
def tBI (te : TE) : TT := fun σ H Q => te σ H fun x H1 => ∃ i, x = .int i ∧ Q (i != 0) H1
theorem pt_valI {e : Expr} {t : TE} (h : PE X e t) (he : ∀ whole, isTrue e X.env whole = (do let v ← whole; standAt e.pos; holding [v] (truthy v)) := by intro _; rfl) : PT X e (tBI t) := by
  refine ⟨fun pins s σ H Q I hw => ?_⟩
  refine isTrue_plain (thn (h.run pins s σ H _ I hw) fun v s1 ⟨x, H1, I1, r1, q1⟩ => ?_) (he _)
  obtain ⟨i, rfl, q⟩ := q1
  obtain ⟨tk, rfl⟩ := r1
  exact truthy_int ⟨H1, I1, q⟩
def toBI : R → M Bool := fun x S => match x with
  | .p (.int i) => .ok (i != 0) S
  | _ => .bad
def tstI (f : M R) : M Bool := f >>= toBI
theorem tstI_ap (f : M R) (S : Sg) : tstI f S = (f S).bnd toBI := bind_bnd _ _ _
theorem toBI_i {i : Int} {S : Sg} : toBI (.p (.int i)) S = .ok (i != 0) S := Eq.trans rfl rfl
theorem st_valI (h : PE X e (rdE c W f)) (he : ∀ whole, isTrue e X.env whole = (do let v ← whole; standAt e.pos; holding [v] (truthy v)) := by intro _; rfl) : PT X e (rdT c W (tstI f)) :=
  st_of (pt_valI h he) fun σ H Q q => by
    obtain ⟨Γ, S, F, P⟩ := q
    refine ⟨Γ, S, F, (Post.bind P).imp fun x S1 Γ1 H1 e1 F1 ⟨_, P1⟩ v hv => ?_⟩
    cases x with
    | r n => exact P1.elim
    | p d =>
      cases d with
      | int i => exact ⟨i, RepR.int hv, Post.ok (c := c) (W := W) P1 Gh.le.refl F1⟩
      | _ => exact P1.elim
end
end Dd

set_option Elab.async false
set_option linter.all false
set_option maxRecDepth 100000
namespace Dd
open PySem PySem.Spec PyProof.Rows L2
mutual
/-- without texts the hash does not depend on the world -/
theorem hash_plain (w w' : World) : ∀ k : NestedKey, noTxt k = true → k.hash w = k.hash w'
  | .none, _ => rfl
  | .num i, _ => rfl
  | .text x, h => by simp [noTxt] at h
  | .tup ks, h => by
    have h : noTxts ks = true := by simpa [noTxt] using h
    show reduceHash (Builtin.Tuple.tupleHashOf (NestedKey.hashes w ks)) = reduceHash (Builtin.Tuple.tupleHashOf (NestedKey.hashes w' ks))
    rw [hashes_plain w w' ks h]
theorem hashes_plain (w w' : World) : ∀ ks : List NestedKey, noTxts ks = true → NestedKey.hashes w ks = NestedKey.hashes w' ks
  | [], _ => rfl
  | k :: ks, h => by
    have h : (noTxt k && noTxts ks) = true := by simpa [noTxts] using h
    rw [Bool.and_eq_true] at h
    show NestedKey.hash w k :: NestedKey.hashes w ks = NestedKey.hash w' k :: NestedKey.hashes w' ks
    rw [hash_plain w w' k h.1, hashes_plain w w' ks h.2]
end
mutual
theorem nested_of {X : Cx} {c : Cg} {G : Hp} {pins : List (Addr × Obj)} {σ : L2.St} {H : Hp} {s : Shared} (hK : X.K = c.K) (I : Inv X pins σ H s) (hG : Ext G H) : ∀ (d : D) (v : V) (u : Value) (k : NestedKey), Rep c G d v → nkD d = some k → RelV v u → NestedIs s.heap k u
  | .int i, v, u, k, h, e, r => by
    have hv := Rep.int_iff.mp h
    subst hv
    obtain ⟨t, rfl⟩ := r
    have e : some (NestedKey.num i) = some k := by rw [← e]; unfold nkD; rfl
    cases e
    exact .int i t
  | .bl b, v, u, k, h, e, r => by
    have hv := Rep.bl_iff.mp h
    subst hv
    cases r
    have e : some (NestedKey.num (if b = true then 1 else 0)) = some k := by rw [← e]; unfold nkD; rfl
    cases e
    exact .bool rfl
  | .tup l, v, u, k, h, e, r => by
    obtain ⟨a, vs, rfl, ht, hl⟩ := Rep.tup_iff.mp h
    cases r
    unfold nkD at e
    cases q : nkL l with
    | none => rw [q] at e; cases e
    | some ks =>
      rw [q] at e
      cases e
      obtain ⟨its, rv, ⟨o, ho, hc, n, hd⟩, _⟩ := I.tuple (hK ▸ (TupS.mono hG ht).sq)
      exact .tup ho hc hd (by rw [List.toList_toArray]; exact nested_all hK I hG l vs its ks hl q rv)
  | .non, _, _, _, _, e, _ => by unfold nkD at e; cases e
  | .str _, _, _, _, _, e, _ => by unfold nkD at e; cases e
  | .lst _, _, _, _, _, e, _ => by unfold nkD at e; cases e
  | .edct, _, _, _, _, e, _ => by unfold nkD at e; cases e
  | .scp _, _, _, _, _, e, _ => by unfold nkD at e; cases e
  | .scr _, _, _, _, _, e, _ => by unfold nkD at e; cases e
  | .fn _, _, _, _, _, e, _ => by unfold nkD at e; cases e
  | .opq _, _, _, _, _, e, _ => by unfold nkD at e; cases e
  | .ol _, _, _, _, _, e, _ => by unfold nkD at e; cases e
  | .dd _, _, _, _, _, e, _ => by unfold nkD at e; cases e
  | .exn _ _, _, _, _, _, e, _ => by unfold nkD at e; cases e
theorem nested_all {X : Cx} {c : Cg} {G : Hp} {pins : List (Addr × Obj)} {σ : L2.St} {H : Hp} {s : Shared} (hK : X.K = c.K) (I : Inv X pins σ H s) (hG : Ext G H) : ∀ (ds : List D) (vs : List V) (us : List Value) (ks : List NestedKey), RepL c G ds vs → nkL ds = some ks → Vals vs us → NestedAll s.heap ks us
  | [], vs, us, ks, h, e, r => by
    rw [RepL.nil_iff.mp h] at r
    cases r
    unfold nkL at e
    cases e
    exact .nil
  | d :: ds, vs, us, ks, h, e, r => by
    obtain ⟨v, rr, rfl, h1, h2⟩ := RepL.cons_iff.mp h
    cases r with
    | cons r1 r2 =>
      unfold nkL at e
      cases q : nkD d with
      | none => rw [q] at e; cases e
      | some k =>
        rw [q] at e
        simp only at e
        cases q2 : nkL ds with
        | none => rw [q2] at e; cases e
        | some ks' =>
          rw [q2] at e
          cases e
          exact .cons (nested_of hK I hG d v _ k h1 q r1) (nested_all hK I hG ds rr _ ks' h2 q2 r2)
end
theorem RawAt.same {w0 : World} {d : Addr} {xs : List (NestedKey × Addr × Value)} {ep : Nat} {h h' : Heap} (x : RawAt w0 d xs ep h) (e : ∀ o, h.get? d = some o → h'.get? d = some o) : RawAt w0 d xs ep h' := by
  obtain ⟨z, m, o, es, h1, h2⟩ := x
  exact ⟨z, m, o, es, e o h1, h2⟩
/-- the entries seen by the kit's rules .. -/
theorem RawAt.dict {prog : Program} {w w0 : World} {d : Addr} {xs : List (NestedKey × Addr × Value)} {ep : Nat} {h : Heap} (x : RawAt w0 d xs ep h) (hk : ∀ x ∈ xs, noTxt x.1 = true ∧ NestedIs h x.1 (.ref x.2.1) ∧ x.1.depth ≤ 8) : h.DictOfH (nestedKind prog w) d xs := by
  obtain ⟨_, _, o, es, h1, h2, h3, h4, h5⟩ := x
  refine ⟨o, es, ep, h1, h2, h3, ?_, fun y hy => ⟨(hk y hy).2.1, (hk y hy).2.2⟩, h5⟩
  rw [h4]
  refine List.map_congr_left fun y hy => ?_
  show (⟨y.1.hash w0, .ref y.2.1, y.2.2⟩ : DictEntry) = ⟨y.1.hash w, .ref y.2.1, y.2.2⟩
  rw [hash_plain w0 w y.1 (hk y hy).1]
/-- .. and back -/
theorem RawAt.of {prog : Program} {w w0 : World} {d : Addr} {xs : List (NestedKey × Addr × Value)} {h : Heap} (z : xs.length ≤ sizeLine) (m : (d == sysModules) = false) (x : h.DictOfH (nestedKind prog w) d xs) (hk : ∀ x ∈ xs, noTxt x.1 = true) : ∃ ep, RawAt w0 d xs ep h := by
  obtain ⟨o, es, ep, h1, h2, h3, h4, h5, h6⟩ := x
  refine ⟨ep, z, m, o, es, h1, h2, h3, ?_, h6⟩
  rw [h4]
  refine List.map_congr_left fun y hy => ?_
  show (⟨y.1.hash w, .ref y.2.1, y.2.2⟩ : DictEntry) = ⟨y.1.hash w0, .ref y.2.1, y.2.2⟩
  rw [hash_plain w w0 y.1 (hk y hy)]
theorem raw_held {X : Cx} {pins : List (Addr × Obj)} {σ : L2.St} {H : Hp} {s : Shared} {w0 : World} {d : Addr} {xs : List (NestedKey × Addr × Value)} {ep : Nat} (I : Inv X pins σ H s) (h : H d = some (rawD w0 d xs ep)) : RawAt w0 d xs ep s.heap := by
  have x : ObjOk X.prog X.w H s.heap d (.ext (RawAt w0 d xs ep)) := I.hok d _ h
  exact x.1
theorem raw_ok {P : Program} {w w0 : World} {H : Hp} {h : Heap} {d : Addr} {xs : List (NestedKey × Addr × Value)} {ep : Nat} (x : RawAt w0 d xs ep h) : ObjOk P w H h d (rawD w0 d xs ep) := by
  have x' := x
  obtain ⟨_, _, o, es, h1, h2⟩ := x'
  exact ⟨x, ⟨o, h1⟩, fun a b q e => q.same e⟩
/-- the keys are what they are -/
def KeysOk (h : Heap) (xs : List (NestedKey × Addr × Value)) : Prop := ∀ x ∈ xs, noTxt x.1 = true ∧ NestedIs h x.1 (.ref x.2.1) ∧ x.1.depth ≤ 8
section
variable {X : Cx} {pins : List (Addr × Obj)} {σ : L2.St} {H : Hp} {s : Shared} {A : Around} {E : Value → Shared → Prop} {w0 : World} {a b : Addr} {xs : List (NestedKey × Addr × Value)} {ep : Nat} {k : NestedKey}
/-- a dict's entries are written -/
theorem raw_write {h' : Heap} {t' : Nat} {ys : List (NestedKey × Addr × Value)} (I : Inv X pins σ H s) (hd : H a = some (rawD w0 a xs ep)) (hs : Heap.SameBut a s.heap h') (dd' : h'.DictOfH (nestedKind X.prog X.w) a ys) (hl : ys.length ≤ sizeLine) (nt : ∀ x ∈ ys, noTxt x.1 = true) :
    ∃ ep', Inv X pins σ (upd H a (rawD w0 a ys ep')) { s with heap := h', toks := t' } := by
  have rw1 := raw_held I hd
  have he : ∃ q, h'.get? a = some q := let ⟨q, _, _, hq, _⟩ := dd'; ⟨q, hq⟩
  obtain ⟨ep', ra⟩ := RawAt.of (w0 := w0) hl rw1.2.1 dd' nt
  exact ⟨ep', d_write I (by rw [hd]; exact True.intro) hs he (raw_ok ra)⟩
/-- d[k] = v -/
theorem raw_set {r : Value} {Q : Unit → Shared → Prop} (hu : A.in1.units + 8 < cLine) (I : Inv X pins σ H s) (hd : H a = some (rawD w0 a xs ep)) (hk : KeysOk s.heap xs) (kb : NestedIs s.heap k (.ref b)) (k8 : k.depth ≤ 8) (kn : noTxt k = true) (hl : (storedH xs k b r).length ≤ sizeLine)
    (h : ∀ s' ep', Inv X pins σ (upd H a (rawD w0 a (storedH xs k b r) ep')) s' → Q () s') : wpAny (model X.prog X.w) A (setItem (.ref a) (.ref b) r) Q E s := by
  have rw1 := raw_held I hd
  have dd := rw1.dict (prog := X.prog) (w := X.w) hk
  refine wpAny_setItem_heap (knd := nestedKind X.prog X.w) (hsz := rw1.1) hu ⟨kb, k8⟩ dd fun h' dd' hs => ?_
  have nt : ∀ x ∈ storedH xs k b r, noTxt x.1 = true := fun x hx => by
    unfold storedH at hx
    split at hx
    · obtain ⟨y, hy, rfl⟩ := List.mem_map.mp hx
      have e : (putAt k r y).1 = y.1 := by unfold putAt; split <;> rfl
      rw [e]; exact (hk y hy).1
    · rcases List.mem_append.mp hx with h | h
      · exact (hk x h).1
      · rw [List.mem_singleton.mp h]; exact kn
  obtain ⟨ep', I'⟩ := raw_write (t' := s.toks + (nestedKind X.prog X.w).draws k) I hd hs dd' hl nt
  exact h _ ep' I'
end
/-- {} -/
theorem raw_empty (prog : Program) (w w0 : World) (h : Heap) (hb : sysModules < h.objs.size) : ∃ ep, RawAt w0 h.objs.size [] ep (h.push { cls := .type "dict", data := .dict #[] }) :=
  RawAt.of (prog := prog) (w := w) (Nat.zero_le _) (beq_eq_false_iff_ne.mpr (Nat.ne_of_gt hb)) (Heap.DictOfH.new h) fun x hx => by simp at hx
/-- what get asks: the keys stand at any time that the heap is held -/
def GetN (X : Cx) (H : Hp) (w0 : World) (a b : Addr) (xs : List (NestedKey × Addr × Value)) (ep : Nat) (k : NestedKey) : Prop :=
  H a = some (rawD w0 a xs ep) ∧ k.depth ≤ 8 ∧ noTxt k = true ∧ ∀ (pins : List (Addr × Obj)) (σ : L2.St) (s : Shared), Inv X pins σ H s → KeysOk s.heap xs ∧ NestedIs s.heap k (.ref b)
theorem raw_at {X : Cx} {pins : List (Addr × Obj)} {σ : L2.St} {H : Hp} {s : Shared} {w0 : World} {a : Addr} {xs : List (NestedKey × Addr × Value)} {ep : Nat} (I : Inv X pins σ H s) (hd : H a = some (rawD w0 a xs ep)) :
    s.TypeIs (.ref a) "dict" ∧ (∀ b, Value.ref a = .ref b → ∃ ob, s.heap.get? b = some ob ∧ ob.dict = none) := by
  obtain ⟨_, _, o, es, h1, ⟨h2, h3, h4⟩, _⟩ := raw_held I hd
  exact ⟨⟨o, h1, h2⟩, fun b hb => by cases hb; exact ⟨o, h1, by assumption⟩⟩
section
variable {X : Cx} {o e f i value : Expr} {pos pos' apos cpos : Pos} {td ty tx tv : TE}
theorem pe_dnewN (w0 : World) : PE X (.Dict [] [] pos) (fun _ H Q => ∀ p ep, H p = none → Q (.ref p) (upd H p (rawD w0 p [] ep))) := ⟨fun pins s σ H Q I h => by
  obtain ⟨ep, ra⟩ := raw_empty X.prog X.w w0 s.heap I.big
  exact wpAny_Dict_empty ⟨.ref s.heap.objs.size, _, I.laid (a := s.heap.objs.size) (o := rawD w0 s.heap.objs.size [] ep) (t' := s.toks) (fun _ _ q => Heap.get?_push_of_some _ q) (Nat.le_refl _) (raw_ok ra), rfl, h _ ep (I.hok.fresh (Nat.le_refl _))⟩⟩
end
section
variable {X : Cx} {o e f i value : Expr} {pos pos' apos cpos : Pos} {td ty tx tv : TE}
/-- d[k] = v -/
theorem ps_setN (hu : X.A.in1.units + 8 < cLine) (ho : PE X o td) (hi : PE X i ty) (hv : PE X value tv) (hs : swapsWith value (some (.Subscript o i pos')) pos.line X.env = pure false) :
    PS X (.Assign [.Subscript o i pos'] value pos) (fun D σ H => tv σ H fun v H1 => td σ H1 fun x H2 => ty σ H2 fun y H3 => ∃ a b w0 xs ep k, x = .ref a ∧ y = .ref b ∧ GetN X H3 w0 a b xs ep k ∧ xs.length < sizeLine ∧
      ∀ r ep', RelV v r → D.nx σ (upd H3 a (rawD w0 a (storedH xs k b r) ep'))) := by
  refine ⟨fun pins s σ H D I h => ?_⟩
  refine wpAny_Assign_Subscript (thn (hv.run pins s σ H _ I h) fun r s1 ⟨v, H1, I1, rv, q1⟩ => thn (ho.run pins s1 σ H1 _ I1 q1) fun u s2 ⟨x, H2, I2, rx, q2⟩ => thn (hi.run pins s2 σ H2 _ I2 q2) fun iv s3 ⟨y, H3, I3, ry, a, b, w0, xs, ep, k, ex, ey, g, hl, q3⟩ => ?_) hs
  subst ex ey
  obtain rfl : u = Value.ref a := rx
  obtain rfl : iv = Value.ref b := ry
  obtain ⟨g1, g2, g3, g4⟩ := g
  obtain ⟨k1, k2⟩ := g4 pins σ s3 I3
  have hl2 : (storedH xs k b r).length ≤ sizeLine := by
    unfold storedH
    split
    · rw [List.length_map]; omega
    · rw [List.length_append]; simp; omega
  exact raw_set hu I3 g1 k1 k2 g2 g3 hl2 fun s4 ep' I4 => ⟨σ, _, I4, q3 r ep' rv⟩
end
/-! ### for .. in d.items() -/
section
variable {X : Cx} {e : Expr} {td : TE} {apos cpos tpos : Pos} {elts : List Expr} {kk : Nat}
end
end Dd

set_option Elab.async false
set_option linter.all false
set_option maxRecDepth 100000
namespace Dd
open PySem PySem.Spec PyProof.Rows L2
/-! ### dicts with nested keys, as cells -/
/-- what a key is looked up by -/
def keyN : D → Option NestedKey
  | .tup l => (match nkD (.tup l) with
    | some k => if k.depth ≤ 8 ∧ noTxt k = true then some k else none
    | none => none)
  | _ => none
def dfind (k : NestedKey) : List (D × D) → Option D
  | [] => none
  | kv :: r => if nkD kv.1 = some k then some kv.2 else dfind k r
def dput (k : NestedKey) (kd v : D) (kvs : List (D × D)) : List (D × D) :=
  if (dfind k kvs).isSome then kvs.map (fun p => if nkD p.1 = some k then (p.1, v) else p) else kvs ++ [(kd, v)]
section
variable {c : Cg} {G : Hp}
theorem keyN_some {d : D} {k : NestedKey} (h : keyN d = some k) : nkD d = some k ∧ k.depth ≤ 8 ∧ noTxt k = true ∧ ∀ v, Rep c G d v → ∃ b, v = .ref b := by
  cases d with
  | tup l =>
    unfold keyN at h
    simp only at h
    cases e : nkD (.tup l) with
    | none => rw [e] at h; cases h
    | some k' =>
      rw [e] at h
      simp only at h
      split at h
      · rename_i q
        cases h
        exact ⟨rfl, q.1, q.2, fun v hv => let ⟨b, _, e, _⟩ := Rep.tup_iff.mp hv; ⟨b, e⟩⟩
      · cases h
  | _ => cases h
theorem KvOk.find {k : NestedKey} : ∀ {kvs : List (D × D)} {xs : List (NestedKey × Addr × Value)}, KvOk c G kvs xs → (dfind k kvs = none ∧ atKey xs k = none) ∨ ∃ d b u vv, dfind k kvs = some d ∧ atKey xs k = some (b, u) ∧ Rep c G d vv ∧ RelV vv u
  | [], _, h => by
    have h : _ = [] := h
    subst h
    exact .inl ⟨rfl, rfl⟩
  | kv :: r, _, h => by
    obtain ⟨nk, b, u, vv, t, rfl, h2, h3, h4, h5, h6, h7, h8⟩ := h
    by_cases e : nk = k
    · subst e
      exact .inr ⟨kv.2, b, u, vv, by unfold dfind; rw [if_pos h3], by simp [atKey], h6, h7⟩
    · have e1 : dfind k (kv :: r) = dfind k r := by unfold dfind; rw [if_neg (by rw [h3]; intro z; exact e (Option.some.inj z))]; cases r <;> rfl
      have e2 : atKey ((nk, b, u) :: t) k = atKey t k := by simp [atKey, List.find?_cons, e]
      rw [e1, e2]
      exact KvOk.find h8
theorem KvOk.length : ∀ {kvs : List (D × D)} {xs : List (NestedKey × Addr × Value)}, KvOk c G kvs xs → xs.length = kvs.length
  | [], _, h => by
    have h : _ = [] := h
    subst h; rfl
  | kv :: r, _, h => by
    obtain ⟨nk, b, u, vv, t, rfl, h2, h3, h4, h5, h6, h7, h8⟩ := h
    simp [KvOk.length h8]
theorem KvOk.upd {k : NestedKey} {v : D} {w : V} {r : Value} (hv : Rep c G v w) (hr : RelV w r) : ∀ {kvs : List (D × D)} {xs : List (NestedKey × Addr × Value)}, KvOk c G kvs xs → KvOk c G (kvs.map (fun p => if nkD p.1 = some k then (p.1, v) else p)) (xs.map (putAt k r))
  | [], _, h => by
    have h : _ = [] := h
    subst h; rfl
  | kv :: rr, _, h => by
    obtain ⟨nk, b, u, vv, t, rfl, h2, h3, h4, h5, h6, h7, h8⟩ := h
    by_cases e : nk = k
    · subst e
      refine ⟨nk, b, r, w, _, by simp [putAt], ?_, ?_, h4, h5, ?_, hr, KvOk.upd hv hr h8⟩
      · simp only [h3, if_true]; exact h2
      · simp only [h3, if_true]
      · simp only [h3, if_true]; exact hv
    · have ne : ¬ nkD kv.1 = some k := by rw [h3]; intro z; exact e (Option.some.inj z)
      refine ⟨nk, b, u, vv, _, by simp [putAt, e], ?_, ?_, h4, h5, ?_, h7, KvOk.upd hv hr h8⟩
      · simp only [if_neg ne]; exact h2
      · simp only [if_neg ne]; exact h3
      · simp only [if_neg ne]; exact h6
theorem KvOk.snoc {k : NestedKey} {kd v : D} {b : Addr} {w : V} {r : Value} (hk : Rep c G kd (.ref b)) (hn : nkD kd = some k) (k8 : k.depth ≤ 8) (kt : noTxt k = true) (hv : Rep c G v w) (hr : RelV w r) : ∀ {kvs : List (D × D)} {xs : List (NestedKey × Addr × Value)}, KvOk c G kvs xs → KvOk c G (kvs ++ [(kd, v)]) (xs ++ [(k, b, r)])
  | [], _, h => by
    have h : _ = [] := h
    subst h
    exact ⟨k, b, r, w, [], rfl, hk, hn, k8, kt, hv, hr, rfl⟩
  | kv :: rr, _, h => by
    obtain ⟨nk, b', u, vv, t, rfl, h2, h3, h4, h5, h6, h7, h8⟩ := h
    exact ⟨nk, b', u, vv, _, rfl, h2, h3, h4, h5, h6, h7, KvOk.snoc hk hn k8 kt hv hr h8⟩
theorem KvOk.put {k : NestedKey} {kd v : D} {b : Addr} {w : V} {r : Value} {kvs : List (D × D)} {xs : List (NestedKey × Addr × Value)} (h : KvOk c G kvs xs) (hk : Rep c G kd (.ref b)) (hn : nkD kd = some k) (k8 : k.depth ≤ 8) (kt : noTxt k = true) (hv : Rep c G v w) (hr : RelV w r) :
    KvOk c G (dput k kd v kvs) (storedH xs k b r) := by
  unfold dput storedH
  rcases h.find (k := k) with ⟨e1, e2⟩ | ⟨d, b', u, vv, e1, e2, _⟩
  · rw [e1, e2]; exact h.snoc hk hn k8 kt hv hr
  · rw [e1, e2]; exact h.upd hv hr
theorem KvOk.get : ∀ {kvs : List (D × D)} {xs : List (NestedKey × Addr × Value)} {i : Nat} {kv : D × D}, KvOk c G kvs xs → kvs[i]? = some kv → ∃ nk b u vv, xs[i]? = some (nk, b, u) ∧ Rep c G kv.1 (.ref b) ∧ Rep c G kv.2 vv ∧ RelV vv u
  | [], _, i, kv, h, e => by simp at e
  | kv' :: r, _, i, kv, h, e => by
    obtain ⟨nk, b, u, vv, t, rfl, h2, h3, h4, h5, h6, h7, h8⟩ := h
    cases i with
    | zero => simp at e; subst e; exact ⟨nk, b, u, vv, rfl, h2, h6, h7⟩
    | succ i => exact KvOk.get (i := i) h8 (by simpa using e)
theorem KvOk.keys {X : Cx} {pins : List (Addr × Obj)} {σ : L2.St} {H : Hp} {s : Shared} (hK : X.K = c.K) (I : Inv X pins σ H s) (hG : Ext G H) : ∀ {kvs : List (D × D)} {xs : List (NestedKey × Addr × Value)}, KvOk c G kvs xs → KeysOk s.heap xs
  | [], _, h => by
    have h : _ = [] := h
    subst h
    intro x hx; simp at hx
  | kv :: r, _, h => by
    obtain ⟨nk, b, u, vv, t, rfl, h2, h3, h4, h5, h6, h7, h8⟩ := h
    intro x hx
    rcases List.mem_cons.mp hx with e | e
    · subst e
      exact ⟨h5, nested_of hK I hG _ _ _ _ h2 h3 rfl, h4⟩
    · exact KvOk.keys hK I hG h8 x e
theorem KvOk.getN {X : Cx} {H : Hp} {w0 : World} {a b : Addr} {ep : Nat} {k : NestedKey} {kd : D} {kvs : List (D × D)} {xs : List (NestedKey × Addr × Value)} (hK : X.K = c.K) (h : KvOk c G kvs xs) (hG : Ext G H) (hH : H a = some (rawD w0 a xs ep)) (hk : Rep c G kd (.ref b)) (hn : nkD kd = some k) (k8 : k.depth ≤ 8) (kt : noTxt k = true) : GetN X H w0 a b xs ep k :=
  ⟨hH, k8, kt, fun pins σ s I => ⟨h.keys hK I hG, nested_of hK I hG _ _ _ _ hk hn rfl⟩⟩
end
/-! ### the operations -/
/-- the cell of a dict -/
def dtC : Option Cell → Option (List (D × D))
  | some (.mu (.dt kvs)) => some kvs
  | _ => none
def dtL (x : R) (S : Sg) : Option (List (D × D)) := match x with
  | .p _ => none
  | .r n => dtC S.st[n]?
theorem dtC_some {q : Option Cell} {kvs : List (D × D)} (h : dtC q = some kvs) : q = some (.mu (.dt kvs)) := by
  unfold dtC at h
  split at h
  · cases h; rfl
  · cases h
/-- {} -/
def dtE : M R := fun S => .ok (.r S.st.length) { S with st := S.st ++ [.mu (.dt [])] }
theorem dtE_ap (sl : List (Option R)) (st : Store) : dtE ⟨sl, st⟩ = .ok (.r st.length) ⟨sl, st ++ [.mu (.dt [])]⟩ := Eq.trans rfl rfl
def dsetK (o : R) (k v : D) (S : Sg) : Res Fl := match o with
  | .p _ => .bad
  | .r n => (match dtC S.st[n]?, keyN k with
    | some kvs, some nk => if kvs.length < sizeLine then .ok .nx { S with st := S.st.set n (.mu (.dt (dput nk k v kvs))) } else .bad
    | _, _ => .bad)
/-- d[k] = v -/
def sDset (fv fo fk : M R) : M Fl := do
  let v ← fv
  let o ← fo
  let k ← fk
  let vd ← pure1 v
  let kd ← pure1 k
  dsetK o kd vd
section
variable {c : Cg} {Γ : Gh} {S : Sg} {σ : L2.St} {H : Hp} {x : R} {v : V} {W : WX}
theorem dtL_ok {kvs : List (D × D)} (F : FrOk c Γ S σ H) (hx : RepR c Γ x v) (h : dtL x S = some kvs) : ∃ n a w0 xs ep, x = .r n ∧ S.st[n]? = some (.mu (.dt kvs)) ∧ Γ.ρ[n]? = some a ∧ v = .ref a ∧ H a = some (rawD w0 a xs ep) ∧ KvOk c Γ.G kvs xs ∧ Γ.G a = none ∧ Γ.L a = none := by
  cases x with
  | p d => cases h
  | r n =>
    obtain ⟨a, h1, h2⟩ := hx
    have e := dtC_some (show dtC S.st[n]? = some kvs from h)
    obtain ⟨u, q1, ⟨w0, xs, ep, q2, q3⟩, q4, q5⟩ := F.s.cell n _ a e h1
    subst q2
    exact ⟨n, a, w0, xs, ep, rfl, e, h1, h2, q1, q3, q4, q5⟩
end
section
variable {X : Cx} {c : Cg} {W : WX} {o e f i value : Expr} {fo fk fx fv : M R} {pos pos' apos cpos tpos : Pos} {elts : List Expr} {kk : Nat}
theorem se_dtE0 (w0 : World) : PE X (.Dict [] [] pos) (rdE c W dtE) := se_of (pe_dnewN w0) fun σ H Q q => by
  obtain ⟨Γ, S, F, P⟩ := q
  intro p ep hp
  have P := Post.ok (c := c) (W := W) P (Γ' := { Γ with ρ := Γ.ρ ++ [p] }) (H' := upd H p (rawD w0 p [] ep)) ⟨Ext.refl, rfl, [p], rfl⟩ (F.of ⟨Ext.refl, rfl, [p], rfl⟩ (F.s.newC hp ⟨w0, [], ep, rfl, rfl⟩))
  exact P _ ⟨p, by rw [F.s.len]; simp, rfl⟩
theorem ss_dset {k : Nat} (hr : Room k X.A) (hK : X.K = c.K) (hv : PE X value (rdE c W fv)) (ho : PE X o (rdE c W fo)) (hi : PE X i (rdE c W fk)) (hs : swapsWith value (some (.Subscript o i pos')) pos.line X.env = pure false := by rfl) :
    PS X (.Assign [.Subscript o i pos'] value pos) (rdS c W (sDset fv fo fk)) := ss_of (ps_setN (by have := hu66 hr; have e : X.A.in1.units = X.A.units + 1 := rfl; omega) ho hi hv hs) fun E σ H q => by
  obtain ⟨Γ, S, F, P⟩ := q
  refine ⟨Γ, S, F, (PostS.bindE P).imp fun z S1 Γ1 H1 e1 F1 ⟨_, P1⟩ v hv => ?_⟩
  refine ⟨Γ1, S1, F1, (PostS.bindE P1).imp fun x S2 Γ2 H2 e2 F2 ⟨_, P2⟩ w hw => ?_⟩
  refine ⟨Γ2, S2, F2, (PostS.bindE P2).imp fun y S3 Γ3 H3 e3 F3 ⟨_, P3⟩ w2 hw2 => ?_⟩
  obtain ⟨vd, Γ4, S4, e4, F4, hvd, _, P4⟩ := pure1_ok F3 (hv.mono (e2.trans e3)) (PostS.bindE P3)
  obtain ⟨kd, Γ5, S5, e5, F5, hkd, _, P5⟩ := pure1_ok F4 (hw2.mono e4) (PostS.bindE P4)
  unfold dsetK at P5
  cases x with
  | p d => exact P5.elim
  | r n =>
    simp only at P5
    cases q2 : dtC S5.st[n]? with
    | none => rw [q2] at P5; exact P5.elim
    | some kvs =>
      rw [q2] at P5
      cases q3 : keyN kd with
      | none => rw [q3] at P5; exact P5.elim
      | some nk =>
        rw [q3] at P5
        simp only at P5
        obtain ⟨n', a, w0, xs, ep, e6, g1, g2, rfl, g3, g4, g5, g6⟩ := dtL_ok F5 (hw.mono (e3.trans (e4.trans e5))) (show dtL (.r n) S5 = some kvs from q2)
        cases e6
        obtain ⟨k1, k2, k3, k4⟩ := keyN_some (c := c) (G := Γ5.G) q3
        obtain ⟨b, rfl⟩ := k4 _ hkd
        by_cases hz : kvs.length < sizeLine
        · rw [if_pos hz] at P5
          refine ⟨a, b, w0, xs, ep, nk, rfl, rfl, g4.getN hK F5.s.g g3 hkd k1 k2 k3, by rw [g4.length]; exact hz, fun r ep' rv => ?_⟩
          have F6 := F5.s.setC (o' := .dt (dput nk kd vd kvs)) g1 g2 (u := rawD w0 a (storedH xs nk b r) ep') ⟨w0, _, ep', rfl, g4.put hkd k1 k2 k3 (hvd.mono e5.g) rv⟩
          exact P5 Γ5 σ _ Gh.le.refl (F5.of Gh.le.refl F6)
        · rw [if_neg hz] at P5; exact P5.elim
theorem se_dtE : PE X (.Dict [] [] pos) (rdE c W dtE) := se_dtE0 X.w
end
end Dd

set_option Elab.async false
set_option linter.all false
set_option maxRecDepth 100000
namespace Dd
open PySem PySem.Spec PyProof.Rows L2
/-! ### zip of any number of lists and tuples -/
/-- an iterator, what it walks, whether that is a tuple -/
abbrev Sz := Addr × Addr × Bool
def SrcAt (h : Heap) (y : Sz) (i : Nat) : Prop := (y.2.2 = true ∧ h.IsTupleIter y.1 y.2.1 i) ∨ (y.2.2 = false ∧ h.IsListIter y.1 y.2.1 i)
def SeqAt (h : Heap) (y : Sz) (items : Array Value) : Prop := (y.2.2 = true ∧ h.IsTuple y.2.1 items) ∨ (y.2.2 = false ∧ h.IsList y.2.1 items)
theorem SrcAt.same {h h' : Heap} {y : Sz} {i : Nat} (q : SrcAt h y i) (k : ∀ o, h.get? y.1 = some o → h'.get? y.1 = some o) : SrcAt h' y i := by
  rcases q with ⟨a, q⟩ | ⟨a, q⟩
  · exact .inl ⟨a, q.at k⟩
  · exact .inr ⟨a, q.at k⟩
theorem SeqAt.same {h h' : Heap} {y : Sz} {its : Array Value} (q : SeqAt h y its) (k : ∀ o, h.get? y.2.1 = some o → h'.get? y.2.1 = some o) : SeqAt h' y its := by
  rcases q with ⟨a, q⟩ | ⟨a, q⟩
  · exact .inl ⟨a, q.at k⟩
  · exact .inr ⟨a, q.at k⟩
section
variable {prog : Program} {w : World} {A : Around} {E : Value → Shared → Prop} {s : Shared}
end
/-- what each gives next -/
def Heads (h : Heap) (i : Nat) : List Sz → List Value → Prop
  | [], xs => xs = []
  | y :: ys, xs => ∃ x t its, xs = x :: t ∧ SrcAt h y i ∧ SeqAt h y its ∧ its[i]? = some x ∧ Heads h i ys t
/-- one of them ends -/
def Stops (h : Heap) (i : Nat) : List Sz → Prop
  | [] => False
  | y :: ys => ∃ its, SrcAt h y i ∧ SeqAt h y its ∧ (its[i]? = none ∨ ((∃ x, its[i]? = some x) ∧ Stops h i ys))
theorem Heads.same {h h' : Heap} {i : Nat} : ∀ {ys : List Sz} {xs : List Value}, Heads h i ys xs → (∀ y ∈ ys, (∀ o, h.get? y.1 = some o → h'.get? y.1 = some o) ∧ ∀ o, h.get? y.2.1 = some o → h'.get? y.2.1 = some o) → Heads h' i ys xs
  | [], _, q, _ => q
  | y :: ys, _, q, k => by
    obtain ⟨x, t, its, e, a, b, d, r⟩ := q
    obtain ⟨k1, k2⟩ := k y (by simp)
    exact ⟨x, t, its, e, a.same k1, b.same k2, d, r.same fun y hy => k y (by simp [hy])⟩
theorem Stops.same {h h' : Heap} {i : Nat} : ∀ {ys : List Sz}, Stops h i ys → (∀ y ∈ ys, (∀ o, h.get? y.1 = some o → h'.get? y.1 = some o) ∧ ∀ o, h.get? y.2.1 = some o → h'.get? y.2.1 = some o) → Stops h' i ys
  | [], q, _ => q
  | y :: ys, q, k => by
    obtain ⟨its, a, b, d⟩ := q
    obtain ⟨k1, k2⟩ := k y (by simp)
    exact ⟨its, a.same k1, b.same k2, d.imp id fun ⟨x, r⟩ => ⟨x, r.same fun y hy => k y (by simp [hy])⟩⟩
/-- the cells lie apart -/
structure ZApart (z TI TO : Addr) (ys : List Sz) : Prop where
  tiz : TI ≠ z
  toz : TO ≠ z
  tito : TI ≠ TO
  ti : ∀ y ∈ ys, TI ≠ y.1
  zi : ∀ y ∈ ys, z ≠ y.1
  toi : ∀ y ∈ ys, TO ≠ y.1
  ii : (ys.map (·.1)).Nodup
  lz : ∀ y ∈ ys, y.2.1 ≠ z
  lto : ∀ y ∈ ys, y.2.1 ≠ TO
  li : ∀ y ∈ ys, ∀ y' ∈ ys, y.2.1 ≠ y'.1
theorem ZApart.tail {z TI TO : Addr} {y : Sz} {ys : List Sz} (D : ZApart z TI TO (y :: ys)) : ZApart z TI TO ys :=
  ⟨D.tiz, D.toz, D.tito, fun y h => D.ti y (by simp [h]), fun y h => D.zi y (by simp [h]), fun y h => D.toi y (by simp [h]), (List.nodup_cons.mp D.ii).2, fun y h => D.lz y (by simp [h]), fun y h => D.lto y (by simp [h]), fun y h y' h' => D.li y (by simp [h]) y' (by simp [h'])⟩
theorem ZApart.hd {z TI TO : Addr} {y : Sz} {ys : List Sz} (D : ZApart z TI TO (y :: ys)) : ∀ y' ∈ ys, y'.1 ≠ y.1 := fun y' h e =>
  (List.nodup_cons.mp D.ii).1 (List.mem_map.mpr ⟨y', h, e⟩)
section
variable {prog : Program} {w : World} {A : Around} {E : Value → Shared → Prop} {z TI TO : Addr} {β : Type} {r0 : β} {f : Value × Nat → β → Sem (ForInStep β)} {i : Nat}
end
section
variable {prog : Program} {w : World} {A : Around} {E : Value → Shared → Prop} {s : Shared} {z TI TO : Addr} {ys : List Sz} {i : Nat}
end
section
variable {prog : Program} {w : World} {A : Around} {E : Value → Shared → Prop} {s : Shared} {z TI TO : Addr} {ys : List Sz} {i : Nat}
end
/-! ### .. as a loop's iterator -/
/-- what is walked: an address, whether it is a tuple -/
def SqX (K : PySem.W.Frag) (H : Hp) (q : Addr × Bool) (xs : List V) : Prop := (q.2 = true ∧ SqT K H q.1 xs) ∨ (q.2 = false ∧ SqL K H q.1 xs)
section
variable {X : Cx} {pins : List (Addr × Obj)} {σ : L2.St} {H : Hp} {s : Shared} {i : Nat}
theorem SqX.inj (I : Inv X pins σ H s) {q : Addr × Bool} {xs ys : List V} (h1 : SqX X.K H q xs) (h2 : SqX X.K H q ys) : xs = ys := by
  rcases h1 with ⟨a, h1⟩ | ⟨a, h1⟩ <;> rcases h2 with ⟨b, h2⟩ | ⟨b, h2⟩
  · exact I.tuple_inj h1 h2
  · rw [a] at b; cases b
  · rw [a] at b; cases b
  · exact I.list_inj h1 h2
theorem SqX.seq (I : Inv X pins σ H s) {y : Sz} {xs : List V} (h : SqX X.K H y.2 xs) : ∃ its : List Value, Vals xs its ∧ SeqAt s.heap y its.toArray := by
  rcases h with ⟨a, h⟩ | ⟨a, h⟩
  · obtain ⟨its, rv, p, _⟩ := I.tuple h
    exact ⟨its, rv, .inl ⟨a, p⟩⟩
  · obtain ⟨its, rv, p, _⟩ := I.list h
    exact ⟨its, rv, .inr ⟨a, p.isList⟩⟩
end
/-! ### zip(..) made -/
section
variable {prog : Program} {w : World} {A : Around} {E : Value → Shared → Prop}
end
section
variable {X : Cx} {e : Expr} {es : List Expr} {ta : TA} {p pos tpos : Pos} {elts : List Expr} {kk n : Nat}
end
end Dd

set_option Elab.async false
set_option linter.all false
set_option maxRecDepth 100000
namespace Dd
open PySem PySem.Spec PyProof.Rows L2
/-! ### zip of any number of lists and tuples -/
section
variable {c : Cg} {Γ : Gh} {S : Sg} {σ : L2.St} {H : Hp} {i : Nat}
end
theorem RepRL.sub {c : Cg} {Γ Γ' : Gh} (e : Γ.sub Γ') : ∀ {x : List R} {v : List V}, RepRL c Γ x v → RepRL c Γ' x v
  | [], v, h => h
  | x :: xs, v, h => by
    obtain ⟨u, r, h1, h2, h3⟩ := h
    exact ⟨u, r, h1, RepR.sub e h2, RepRL.sub e h3⟩
section
variable {X : Cx} {c : Cg} {W : WX} {e : Expr} {es : List Expr} {g : M (List R)} {pos p tpos : Pos} {elts : List Expr} {kk n : Nat}
end
end Dd

set_option Elab.async false
set_option linter.all false
set_option maxRecDepth 100000
namespace Dd
open PySem PySem.Spec PyProof.Rows L2
/-! ### a list's item op= an int -/
section
variable {X : Cx} {c : Cg} {W : WX} {o i e : Expr} {fo fi fe : M R} {tpos pos : Pos} {op : Operator} {gg : Int → Int → Int}
end
/-! ### is True, is False -/
section
variable {X : Cx} {c : Cg} {W : WX} {a b : Expr} {fa fb : M R} {pos : Pos}
end
/-! ### xs != [], whatever the list holds -/
def opNeE : R → R → M R := fun x y S => match getLst x S with
  | some l => (match getLst y S with
    | some [] => .ok (.p (.bl (!l.isEmpty))) S
    | _ => .bad)
  | none => .bad
section
variable {X : Cx} {c : Cg} {W : WX} {a b : Expr} {fa fb : M R} {pos : Pos}
end
theorem opNeE_e {x y : R} {S : Sg} {l : List D} (h1 : getLst x S = some l) (h2 : getLst y S = some []) : opNeE x y S = .ok (.p (.bl (!l.isEmpty))) S := by
  unfold opNeE; rw [h1, h2]
end Dd

set_option Elab.async false
set_option linter.all false
set_option maxRecDepth 100000
namespace Dd
open PySem PySem.Spec PyProof.Rows L2
/-! ### names in parallel, some of them cells: by a tuple -/
section
variable {X : Cx} {c : Cg} {W : WX} {x y z : Str} {a b d : Expr} {g : M (List R)} {px py pz pt pos : Pos} {k2 pt2} {kt : Nat} {i j l : Nat}
end
end Dd

set_option Elab.async false
set_option linter.all false
set_option maxRecDepth 100000
set_option maxHeartbeats 1000000
/-! own exceptions: raise, try .. except DitherError as e, isinstance -/
namespace Dd
open PySem PySem.Spec PyProof.Rows L2
/-! ### a try whose suite keeps the exception -/
section
variable {X : Cx} {pins : List (Addr × Obj)} {σ : L2.St} {H : Hp} {s : Shared}
end
section
variable {X : Cx} {x n : Str} {cv : Value} {i : Nat} {body suite : List Stmt} {b₀ : Stmt} {np pos pos' : Pos} {tb : WX → TS} {ts : TS}
end
/-! ### the classes, as the top has written them -/
def veT : List Value := [.type "ValueError", .type "Exception", .type "BaseException", .type "object"]
/-- the names of the own exceptions, from number 100 on -/
def xnms : List Str := ["DitherError", "InvalidLevels", "InvalidPlates", "InvalidConditions", "InvalidSeen", "InvalidText", "TooDeep", "OverInk", "InvalidScreen", "InvalidShade", "InvalidWindow", "InvalidPlace", "InvalidSide", "InvalidKind", "InvalidNumber", "InvalidRows", "InvalidLimit", "InvalidOperation", "Nothing", "InvalidCommand"]
def xnm (k : Nat) : Str := xnms.getD (k - 100) ""
def xmro (cls : Nat → Addr) (k : Nat) : List Value := if k = 100 then veT else .ref (cls 100) :: veT
structure XcF (K : PySem.W.Frag) (cls : Nat → Addr) (k : Nat) : Prop where
  ob : ∃ q N bs hd sn sub ab col dd k0 k1 k2 k3 k5, K.lookup (cls k) = some (excClassObj (xnm k) q (cls k) N bs (xmro cls k) hd sn sub ab col dd k0 k1 k2 k3 k5 "ValueError.__new__")
  ga : PySem.W.findIn K (.ref (cls k)) "__getattribute__" = some (some (.builtin "BaseException.__getattribute__"))
  gg : PySem.W.findIn K (.ref (cls k)) "__getattr__" = some none
  ha : PySem.W.findIn K (.ref (cls k)) "__class__" = some (some (.builtin "object.__class__"))
  kC : PySem.W.keepIn K (.ref (cls k)) = true
/-- all of them -/
structure Xcs (K : PySem.W.Frag) (cls : Nat → Addr) : Prop where
  x : ∀ k, 100 ≤ k → k ≤ 119 → XcF K cls k
  hn : PySem.W.specialIn K (.builtin "object.__class__") "__get__" = some (some (.builtin "getset_descriptor.__get__"))
  tk : PySem.W.takesIn K (.builtin "object.__class__") = some true
section
variable {K : PySem.W.Frag} {cls : Nat → Addr} {k j : Nat}
theorem XcF.cd (h : XcF K cls k) : ∃ cd, PySem.W.clsIn K (cls k) = some cd ∧ cd.mro = .ref (cls k) :: xmro cls k ∧ cd.name = xnm k := by
  obtain ⟨q, N, bs, hd, sn, sub, ab, col, dd, k0, k1, k2, k3, k5, e⟩ := h.ob
  exact ⟨_, by unfold PySem.W.clsIn; rw [e] <;> rfl, rfl, rfl⟩
theorem XcF.isC (h : XcF K cls k) : (PySem.W.clsIn K (cls k)).isSome = true := by
  obtain ⟨cd, e, _⟩ := h.cd
  rw [e]; rfl
theorem XcF.sub (h : XcF K cls k) (b : Value) : PySem.W.subIn K (.ref (cls k)) b = some ((Value.ref (cls k) :: xmro cls k).contains b) := by
  obtain ⟨cd, e, m, _⟩ := h.cd
  show PySem.W.mroIn K (cls k) b = _
  unfold PySem.W.mroIn
  rw [e, Option.bind_some, m]
  rfl
theorem XcF.ty (h : XcF K cls k) : PySem.W.typeIn K (.ref (cls k)) = some (.type "type") := by
  obtain ⟨q, N, bs, hd, sn, sub, ab, col, dd, k0, k1, k2, k3, k5, e⟩ := h.ob
  show (K.lookup (cls k)).map (·.cls) = _
  rw [e]; rfl
theorem xmro_ty (T : String) : (Value.ref (cls k) :: xmro cls k).contains (.type T) = veT.contains (.type T) := by
  unfold xmro
  by_cases h : k = 100
  · rw [if_pos h, List.contains_cons]; rfl
  · rw [if_neg h, List.contains_cons, List.contains_cons]; rfl
theorem XcF.exC (h : XcF K cls k) : PySem.W.subIn K (.ref (cls k)) (.type "BaseException") = some true := by
  rw [h.sub, xmro_ty]; decide
theorem xnm_ne : ∀ k j, 100 ≤ k → k ≤ 119 → 100 ≤ j → j ≤ 119 → k ≠ j → xnm k ≠ xnm j := by
  have e : ∀ k : Fin 20, ∀ j : Fin 20, k ≠ j → xnms.getD k.1 "" ≠ xnms.getD j.1 "" := by decide +kernel
  intro k j h1 h2 h3 h4 hk
  exact e ⟨k - 100, by omega⟩ ⟨j - 100, by omega⟩ (fun z => hk (by have := congrArg Fin.val z; simp at this; omega))
theorem Xcs.ne (h : Xcs K cls) (h1 : 100 ≤ k) (h2 : k ≤ 119) (h3 : 100 ≤ j) (h4 : j ≤ 119) (hk : k ≠ j) : cls k ≠ cls j := fun z => by
  obtain ⟨cd, e, _, n⟩ := (h.x k h1 h2).cd
  obtain ⟨cd', e', _, n'⟩ := (h.x j h3 h4).cd
  rw [z, e'] at e
  cases e
  exact xnm_ne k j h1 h2 h3 h4 hk (n.symm.trans n')
/-- is an exception of the one class one of the other -/
def xsub (k j : Nat) : Bool := k == j || j == 100
theorem Xcs.has (h : Xcs K cls) (h1 : 100 ≤ k) (h2 : k ≤ 119) (h3 : 100 ≤ j) (h4 : j ≤ 119) : (Value.ref (cls k) :: xmro cls k).contains (.ref (cls j)) = xsub k j := by
  have vt : veT.contains (Value.ref (cls j)) = false := by
    unfold veT; simp
  have eq : ∀ a b, 100 ≤ a → a ≤ 119 → 100 ≤ b → b ≤ 119 → (Value.ref (cls a) == Value.ref (cls b)) = (a == b) := fun a b x1 x2 x3 x4 => by
    by_cases q : a = b
    · subst q; simp
    · have n1 : cls a ≠ cls b := h.ne x1 x2 x3 x4 q
      have : (Value.ref (cls a) == Value.ref (cls b)) = false := by
        refine Bool.eq_false_iff.mpr fun z => n1 (Value.ref.inj (beq_iff_eq.mp z))
      rw [this]; simp [q]
  unfold xsub xmro
  by_cases q : k = 100
  · rw [if_pos q, List.contains_cons, vt, Bool.or_false, eq j k h3 h4 h1 h2]
    subst q
    by_cases w : j = 100
    · subst w; rfl
    · simp [w, Ne.symm w]
  · rw [if_neg q, List.contains_cons, List.contains_cons, vt, Bool.or_false, eq j k h3 h4 h1 h2, eq j 100 h3 h4 (by omega) (by omega)]
    by_cases w : j = k
    · subst w; simp
    · have w1 : (j == k) = false := by simpa using w
      have w2 : (k == j) = false := by simpa using Ne.symm w
      rw [w1, w2]
end
/-! ### raise -/
/-- raise C(text), C the class k -/
def sRaise (k : Nat) : M Fl := raiseX ⟨k, .non⟩
section
variable {X : Cx} {c : Cg} {W : WX} {e a : Expr} {f : M R} {p pos pos2 : Pos} {k : Nat} {t : Str}
theorem ss_raise (nm : Str) (hc : X.calm = true) (hK : X.K = c.K) (tk : Takes X W) (xc : XcF c.K c.cls k) (h1 : 108 ≤ k) (h2 : k ≤ 119) (xi : PySem.W.excIn c.K (c.cls k) veT "ValueError.__new__" = true) (gC : X.mg nm = some (.ref (c.cls k)))
    (he : PE X a (rdE c W (cs t))) (hg : Gl X nm := by rfl) (hs : starEach [a] X.env = (false, eval a X.env) :: starEach [] X.env := by rfl) (hdb : (nm == ("__debug__" : Str)) = false := by decide) :
    PS X (.Raise (some (.Call (.Name nm p) [a] [] pos)) none pos2) (rdS c W (sRaise k)) := by
  refine ss_of (ps_raise hc tk (SkE.pmk_own1 (bmB := veT) PySem.F.excBase_ValueError (by rw [hK]; exact xi) gC (by rw [hK]; exact xc.kC) (raises_own (by rw [hK]; exact xc.exC) (by rw [hK]; exact xc.ty)) hg he hs hdb)) fun E σ H q => ?_
  obtain ⟨Γ, S, F, P⟩ := q
  exact ⟨Γ, S, F, fun Γ' H' le F' v hv => P Γ' σ H' _ none le F' ⟨rfl, .inl ⟨rfl, rfl, .inr h1⟩⟩⟩
end
/-! ### try -/
section
variable {X : Cx} {c : Cg} {W : WX} {n : Str} {i : Nat} {body suite : List Stmt} {b₀ : Stmt} {np pos pos' : Pos} {h g : M Fl}
theorem FrOk.out {Γ : Gh} {S : Sg} {σ : L2.St} {H : Hp} (i : Nat) (F : FrOk c Γ S σ H) : FrOk c Γ { S with sl := S.sl.set i none } (σ.set i none) H := by
  refine ⟨F.s, by simp [F.len], fun j x e => ?_⟩
  simp only at e
  by_cases hj : j = i
  · subst hj
    by_cases hl : j < S.sl.length
    · rw [List.getElem?_set_self hl] at e; cases e
    · rw [List.getElem?_eq_none (by simpa using hl)] at e; cases e
  · rw [List.getElem?_set_ne (Ne.symm hj)] at e ⊢
    exact F.sl j x e
end
/-! ### isinstance of an own exception -/
section
variable {X : Cx} {c : Cg} {W : WX}
variable {a b : Expr} {f : M R} {p pos : Pos}
end
end Dd

set_option Elab.async false
set_option linter.all false
set_option maxRecDepth 100000
set_option maxHeartbeats 2000000
/-! own exceptions with an attribute: made by their own __init__, read by its name (printed by mkzn.py) -/
namespace Dd
open PySem PySem.W PySem.Calls PyProof.Rows PySem.HandSPX
def xA (f : Str) (p1 p2 : Pos) : Arguments := { posonlyargs := [], args := [{ arg := "self", annotation := none, pos := p1 }, { arg := f, annotation := none, pos := p2 }], vararg := none, kwonlyargs := [], kw_defaults := [], kwarg := none, defaults := [] }
def xB (f : Str) (q1 q2 q3 q4 : Pos) : List Stmt := [.Assign [.Attribute (.Name "self" q1) f q2] (.Name f q3) q4]
def xS (f : Str) : Scope := { kind := .function, names := [(PySem.Str.ofString "self", .local), (f, .local)], isGenerator := false, isCoroutine := false, more := [] }
theorem xsz (v : Value) : [v].length ≤ sizeLine := by
  rw [sizeLine_eq]
  exact (by decide : 1 ≤ 16777216)
theorem xld {M : Model} {s : Shared} {name : Str} {scope : Scope} {L a : Addr} {cd : Value} {m : Str → Option Value} {x : Str} {pos : Pos} {v : Value} {Q : Value → Shared → Prop} {A : Around} {E : Value → Shared → Prop} (hn : s.heap.Ns L m) (hv : m x = some v) (h : Q v s)
    (hk : scope.kind = .function := by rfl) (hl : (envOfC name scope L a cd).kindOf x = some .local := by rfl) (hd : (x == ("__debug__" : Str)) = false := by decide) : wpAny M A (eval (.Name x pos) (envOfC name scope L a cd)) Q E s :=
  wpAny_Name (wpAny_loadName_local hk hl hn hv h) hd
/-- behind __init__ of a new exception at x -/
structure XEnd (f : Str) (h h' : Heap) (x C dx t1 : Addr) (v : Value) : Prop where
  keep : ∀ b o, b ≠ x → h.get? b = some o → h'.get? b = some o
  obj : h'.get? x = some { cls := .ref C, dict := some dx, data := .fields #[.ref t1, .none, .none, .none, .bool false, .none] }
  dbig : h.objs.size ≤ dx
  dne : dx ≠ x
  ns : h'.Ns1 dx (fun y => if y = f then some v else none)
/-- behind the making -/
structure XMade (f : Str) (h h' : Heap) (e C d : Addr) (v : Value) : Prop where
  keep : ∀ b o, h.get? b = some o → h'.get? b = some o
  new : h.objs.size ≤ e
  obj : ∃ oe vs, h'.get? e = some oe ∧ oe.cls = .ref C ∧ oe.dict = some d ∧ oe.data = .fields vs ∧ vs[1]? = some .none
  dbig : h.objs.size ≤ d
  dne : d ≠ e
  ns : h'.Ns1 d (fun y => if y = f then some v else none)
def XInit (K : Frag) (C fI : Addr) (f : Str) : Prop := ∀ (prog : Program) (w : World) (A : Around) (R : Result → Shared → Prop) (s : Shared) (x t0 : Addr) (v : Value), K.In s.heap → s.heap.NoLimit → s.heap.get? x = some (excO C t0) → K.lookup x = none → A.depth < recursionLimit →
  (∀ h' tk dx, XEnd f s.heap h' x C dx t0 v → R (.ok (.ret .none)) { s with heap := h', toks := tk }) → codeAny (model prog w) A (.call (.ref fI) ⟨[.ref x, v], []⟩) R s
/-- what the written part says of such a class -/
structure XfF (K : Frag) (cls : Nat → Addr) (k : Nat) : Prop where
  sa : findIn K (.ref (cls k)) "__setattr__" = some (some (.builtin "object.__setattr__"))
  no : findIn K (.ref (cls k)) (fldN k) = some none
  hd : hasDictIn K (cls k) = true
  ini : ∃ fI, findIn K (.ref (cls k)) "__init__" = some (some (.ref fI)) ∧ typeIn K (.ref fI) = some (.type "function") ∧ XInit K (cls k) fI (fldN k)
theorem xinit_level {K : Frag} {C fI : Addr} {q : Str} {oc : Value} {od : Option Addr} {doc pm : Value} {an : Option Addr} {cdv ct : Value} {osl : Array (Option Value)} {p1 p2 q1 q2 q3 q4 : Pos}
    (cl : ∃ nm qq N bs bm sn sub ab col dd k0 k1 k2 k3 k5, K.lookup C = some (excClassObj nm qq C N bs bm true sn sub ab col dd k0 k1 k2 k3 k5 "ValueError.__new__") ∧ refsVE bm = true)
    (sa : findIn K (.ref C) "__setattr__" = some (some (.builtin "object.__setattr__"))) (no : findIn K (.ref C) "level" = some none)
    (ho : K.lookup fI = some ⟨oc, od, .func (fnOf "__init__" q (xA "level" p1 p2) (xB "level" q1 q2 q3 q4) (xS "level") .none .none doc pm an cdv ct), osl⟩) (hcd : codeIn K cdv q = true) : XInit K C fI "level" := by
  intro prog w A R s x t0 v X hlim hx hnx hroom hq
  obtain ⟨nm, qq, N, bs, bm, sn, sub, ab, col, dd, k0, k1, k2, k3, k5, hC, hbm⟩ := cl
  have hcl : clsIn K C = some { name := nm, bases := bs, mro := .ref C :: bm, ns := N, qualname := qq, hasDict := true, slotNames := sn, subclasses := sub, abstract := ab, collection := col, hasDel := false } := by unfold clsIn; rw [hC] <;> rfl
  refine Att.call_fn (binds := [("self", .ref x), ("level", v)]) X hlim ho hcd hroom (BindsTo.of_eq (by first | rfl | with_unfolding_all rfl)) (by first | rfl | decide | with_unfolding_all rfl) (fun s₁ IC => ?_) rfl rfl rfl
  obtain ⟨h₁, tk₁, rfl⟩ := IC.toInCall.same
  have k : ∀ b o, s.heap.get? b = some o → h₁.get? b = some o := IC.toInCall.keep
  have hn := IC.toInCall.ns
  have X₁ : K.In h₁ := X.keeps k
  have hx₁ := k _ _ hx
  show wpAny _ _ (execs _ _) _ _ _
  refine wpAny_execs_cons (plainObj_wpAny_Assign_Attribute ?_)
  refine xld (v := v) hn (by first | rfl | with_unfolding_all rfl | kernel_rfl) (xld (v := .ref x) hn (by first | rfl | with_unfolding_all rfl | kernel_rfl) ?_)
  refine set_plain X₁ (ox := excO C t0) (od := none) ⟨hx₁, rfl, rfl, trivial⟩ sa ?_
  refine exc_osa X₁ hx₁ hcl (show refsVE (.ref C :: bm) = true from hbm) rfl no (fun h₃ tk₃ dx k₃ dn dne hx₃ hn₃ => ?_)
  show wpAny _ _ (execs _ _) _ _ _
  have z : s.heap.objs.size < h₁.objs.size := hn.lt
  exact wpAny_execs_nil (hq h₃ tk₃ dx ⟨fun b o hb e => k₃ b o hb (k b o e), hx₃, Nat.le_of_lt (Nat.lt_of_lt_of_le z dn), dne, hn₃⟩)
/-- the class called -/
theorem xmade {prog : Program} {w : World} {A : Around} {R : Result → Shared → Prop} {s : Shared} {K : Frag} {cls : Nat → Addr} {k : Nat} (xc : XcF K cls k) (T : XfF K cls k) {v : Value} (X : K.In s.heap) (hlim : s.heap.NoLimit) (hroom : A.depth + 1 < recursionLimit)
    (hq : ∀ h' tk e d, XMade (fldN k) s.heap h' e (cls k) d v → R (.ok (.ret (.ref e))) { s with heap := h', toks := tk }) : codeAny (model prog w) A (.call (.ref (cls k)) ⟨[v], []⟩) R s := by
  obtain ⟨q, N, bs, hd, sn, sub, ab, col, dd, k0, k1, k2, k3, k5, hC⟩ := xc.ob
  obtain ⟨fI, iC, tC, ini⟩ := T.ini
  have hbm : refsVE (xmro cls k) = true := by
    unfold xmro
    by_cases h : k = 100
    · rw [if_pos h]; decide +kernel
    · rw [if_neg h]; show refsVE veT = true; decide +kernel
  obtain ⟨hp, g, dr, tk, os⟩ := s
  have kp : ∀ b o, hp.get? b = some o → ((hp.push (kdv_tup [v])).push (excO (cls k) hp.objs.size)).get? b = some o := fun b o e => Heap.get?_push_of_some _ (Heap.get?_push_of_some _ e)
  have hget : ((hp.push (kdv_tup [v])).push (excO (cls k) hp.objs.size)).get? (hp.objs.size + 1) = some (excO (cls k) hp.objs.size) := by heap_get
  have hnx : K.lookup (hp.objs.size + 1) = none := by
    cases e : K.lookup (hp.objs.size + 1) with
    | none => rfl
    | some o =>
      have z : hp.get? (hp.objs.size + 1) = some o := X _ _ e
      exact absurd (Nat.lt_of_succ_lt (Heap.lt_size z)) (Nat.lt_irrefl _)
  refine call_own F.excBase_ValueError (fun X => refsVE_contains X _ hbm) (X _ _ hC) (looks_findIn X iC) (fun self => bind_fn X self tC) (xsz v) ?_
  refine ini prog w _ _ ⟨(hp.push (kdv_tup [v])).push (excO (cls k) hp.objs.size), g, dr, tk, os⟩ _ _ v (X.keeps kp) (hlim.keeps kp) hget hnx ?_ fun h' tk' dx ⟨k', hx, dn, dne, hns⟩ => ?_
  · show A.depth + 1 < recursionLimit
    exact hroom
  · have old : ∀ b o, hp.get? b = some o → h'.get? b = some o := fun b o e => k' b o (Nat.ne_of_lt (Nat.lt_succ_of_lt (Heap.lt_size e))) (kp b o e)
    have z : hp.objs.size + 1 + 1 ≤ dx := by
      first
        | (simpa only [Heap.size_push] using dn)
        | exact dn
        | (have q := dn; rw [Heap.size_push, Heap.size_push] at q; exact q)
    exact ⟨rfl, hq h' tk' (hp.objs.size + 1) dx ⟨old, Nat.le_succ _, ⟨_, _, hx, rfl, rfl, rfl, rfl⟩, Nat.le_trans (Nat.le_trans (Nat.le_succ _) (Nat.le_succ _)) z, dne, hns⟩⟩
end Dd
namespace Dd
open PySem PySem.Spec PyProof.Rows L2
theorem relO_one {v : V} {v' : Value} {n : Str} (r : RelV v v') (f : Str) : RelO (List.lookup f [(n, v)]) (if f = n then some v' else none) := by
  by_cases hw : f = n
  · subst hw
    rw [if_pos rfl]
    have q : List.lookup f [(f, v)] = some v := by simp [List.lookup]
    rw [q]
    exact r
  · rw [if_neg hw]
    have qw : (f == n) = false := by simpa using hw
    have q2 : List.lookup f [(n, v)] = none := by simp [List.lookup, qw]
    rw [q2]
    trivial
section
variable {X : Cx} {c : Cg} {W : WX}
/-- C(e), C of the number k -/
def tMkF (C : Addr) (f : Str) (ta : TA) : L2.St → Hp → XK → Prop := fun σ H Q => ta σ H fun vs H1 => ∃ v, vs = [v] ∧ ∀ d, H1 d = none → Q (.ref C) (some d) (upd H1 d (.xd [(f, v)]))
theorem pmk_fld {cls : Nat → Addr} {k kr : Nat} {nm : Str} {a : Expr} {ta : TA} {p pos : Pos} (xc : XcF X.K cls k) (T : XfF X.K cls k) (gC : X.mg nm = some (.ref (cls k))) (hr : Room (kr + 1) X.A) (ha : PA X [a] ta) (hg : Gl X nm) (hdb : (nm == ("__debug__" : Str)) = false)
    (he : starEach (a :: []) X.env = (false, eval a X.env) :: starEach [] X.env := by rfl) (hpl : (backTo pos (starEach [] X.env)).any (·.1) = false := by rfl) :
    PMk X (.Call (.Name nm p) [a] [] pos) (tMkF (cls k) (fldN k) ta) := by
  intro pins s σ H Q I h
  refine wpAny_Call_Name_kw (ld_glob I hg gC ?_ hdb)
  refine PySem.W.callWith_K (h₀ := X.base) I.ok.mod.kin xc.kC (thn (ha.run pos pins s σ H _ I h) fun us s1 hh => ?_) he hpl
  obtain ⟨vs, H1, I1, r1, v, ev, q1⟩ := hh
  subst ev
  refine ⟨I1.kIn, ?_⟩
  cases r1 with
  | cons rv rn =>
    rename_i v' us'
    cases rn
    show wpAny _ _ (call (.ref (cls k)) [v']) _ _ _
    have hlim := I1.nolimit
    obtain ⟨hp, g, dr, tk, os⟩ := s1
    refine wpAny_call (xmade xc T I1.kIn hlim (by have := hr.dp; omega) fun h' tk' e d M => ?_)
    show MkP X pins σ Q (.ref e) ⟨h', g, dr, tk', os⟩
    obtain ⟨oe, fv, hoe, hc, hd, hdat, h1⟩ := M.obj
    have hns := M.ns
    obtain ⟨G', g1, g2⟩ := restrict h' fun b => decide (b ≠ e)
    have gk : ∀ b, b ≠ e → G'.get? b = h'.get? b := fun b hb => g1 b (decide_eq_true hb)
    have ge : G'.get? e = none := g2 e (by simp)
    have old : ∀ b o, hp.get? b = some o → G'.get? b = some o := fun b o q => (gk b (Nat.ne_of_lt (Nat.lt_of_lt_of_le (Heap.lt_size q) M.new))).trans (M.keep b o q)
    have ob : ObjOk X.prog X.w (upd H1 d (.xd [(fldN k, v)])) G' d (.xd [(fldN k, v)]) :=
      ⟨_, hns.at (fun o q => (gk d M.dne).trans q), fun f => relO_one rv f⟩
    have J : L2.Inv X pins σ (upd H1 d (.xd [(fldN k, v)])) ⟨G', g, dr, tk', os⟩ := I1.laid (t' := tk') old M.dbig ob
    refine ⟨e, oe, fv, ⟨G', g, dr, tk', os⟩, _, .ref (cls k), some d, rfl, J, fun b o q => ?_, ge, hoe, ⟨hc, hd⟩, hdat, h1, ?_, rfl, I1.bare, raises_own xc.exC xc.ty, q1 d (I1.hok.fresh M.dbig)⟩
    · by_cases hb : b = e
      · have q' : G'.get? b = some o := q
        rw [hb, ge] at q'; cases q'
      · exact (gk b hb).symm.trans q
    · rw [upd_ne (Ne.symm M.dne)]
      exact I1.hok.fresh M.new
/-- raise C(e), C the class k, whose attribute e is -/
def sRaiseF (k : Nat) (f : M R) : M Fl := do
  let x ← f
  let d ← pure1 x
  raiseX ⟨k, d⟩
variable {e a : Expr} {f : M R} {p pos pos2 : Pos} {k kr : Nat}
theorem ss_raiseF (nm : Str) (hc : X.calm = true) (hK : X.K = c.K) (tk : Takes X W) (xc : XcF c.K c.cls k) (h1 : 100 ≤ k) (h2 : k ≤ 119) (T : XfF c.K c.cls k) (hr : Room (kr + 1) X.A) (gC : X.mg nm = some (.ref (c.cls k)))
    (he : PE X a (rdE c W f)) (hg : Gl X nm := by rfl) (hs : starEach [a] X.env = (false, eval a X.env) :: starEach [] X.env := by rfl) (hpl : (backTo pos (starEach [] X.env)).any (·.1) = false := by rfl) (hdb : (nm == ("__debug__" : Str)) = false := by decide) :
    PS X (.Raise (some (.Call (.Name nm p) [a] [] pos)) none pos2) (rdS c W (sRaiseF k f)) := by
  refine ss_of (ps_raise hc tk (pmk_fld (cls := c.cls) (k := k) (by rw [hK]; exact xc) (by rw [hK]; exact T) gC hr (pa_cons he pa_nil hs) hg hdb hs hpl)) fun E σ H q => ?_
  obtain ⟨Γ, S, F, P⟩ := q
  refine ⟨Γ, S, F, (PostS.bindE P).imp fun x S1 Γ1 H1 e1 F1 ⟨_, P1⟩ v hv => ?_⟩
  obtain ⟨d, Γ2, S2, e2, F2, hd, _, P2⟩ := pure1_ok F1 hv (PostS.bindE P1)
  refine ⟨v, rfl, fun dx hdx => ?_⟩
  have hG : Γ2.G dx = none := Ext.none F2.s.g hdx
  have ex : Ext Γ2.G (upd Γ2.G dx (.xd [(fldN k, v)])) := Ext.upd hG
  have le : Γ2.le { Γ2 with G := upd Γ2.G dx (.xd [(fldN k, v)]) } := ⟨ex, rfl, [], by simp⟩
  have F3 := F2.of le (F2.s.newG (o := .xd [(fldN k, v)]) hdx)
  exact P2 _ σ _ _ (some dx) le F3 ⟨rfl, .inr ⟨dx, v, rfl, by show upd Γ2.G dx _ dx = _; rw [upd_same], hd.mono ex⟩⟩
/-! the script and a list put together -/
/-! an own exception as a value -/
/-! repr of what may be the empty dict or a text, too -/
/-! repr of a list display of data, among it the empty dict -/
inductive AtE (H : Hp) : V → PyData → Prop where
  | non : AtE H .non .none
  | bl (b : Bool) : AtE H (.bl b) (.bool b)
  | int (i : Int) : AtE H (.int i) (.int i)
  | str (z : Str) : AtE H (.str z) (.str z)
  | ed {a : Addr} : H a = some (.dK []) → AtE H (.ref a) (.dict [])
end
end Dd

set_option Elab.async false
set_option linter.all false
set_option maxRecDepth 100000
namespace Dd
open PySem PySem.Spec PyProof.Rows L2
/-! ### lists that objects own -/
section
variable {X : Cx} {c : Cg} {W : WX} {Γ : Gh} {S : Sg} {σ : L2.St} {H : Hp} {x : R} {v : V} {k n : Nat} {fs : List (Str × D)} {l : List D} {f : Str}
section
variable {e o : Expr} {s m : Str} {i : Nat} {pos pos' p1 p2 apos lpos : Pos}
end
/-! how they work out -/
end
end Dd

set_option Elab.async false
set_option linter.all false
set_option maxRecDepth 100000
set_option maxHeartbeats 4000000
/-! methods with one name for all further arguments; written dicts with text keys -/
namespace Dd
open PySem PySem.Spec PyProof.Rows L2

/-! ### `def m(self, *rest)` -/
structure FnV (P : Program) (w : World) (K : PySem.W.Frag) (mg : Str → Option Value) (base : Heap) (k : Nat) (f : Addr) (fd : FuncData) (ps : List Str) (sp : Sp) : Prop where
  len : ∀ vs H Q E, sp vs H Q E → vs.length = ps.length
  run : ∀ (A : Around) (outer : List Env) (s s1 : Shared) (H : Hp) (args : Args) (us : List Value) (vs : List V) (Q : VK) (E : XK), A.guards = some [] → Room k A → K.In s.heap → Env0 P w K mg base A outer s1 H →
    (∀ (M : Model) (A : Around) (E : Value → Shared → Prop) (Q : List (Str × Value) → Shared → Prop), Q (ps.zip us) s1 → wpAny M A (bindArgs fd args) Q E s) → Vals vs us → sp vs H Q E →
    codeAny (model P w) A (.call (.ref f) args) (CR (L2.CX P w) outer P w H s1 Q E) s
section
variable {P : Program} {w : World} {K : PySem.W.Frag} {mg : Str → Option Value} {base : Heap} {c : Cg}
end
section
variable {X : Cx} {k : Nat} {f C : Addr} {fd : FuncData} {ps : List Str} {sp : Sp} {E : L2.St → XK} {x m : Str} {p pos apos : Pos} {e o : Expr} {es : List Expr} {ta : TE} {t : TA}
end
section
variable {X : Cx} {c : Cg} {W : WX} {e o : Expr} {es : List Expr} {f : M R} {g : M (List R)} {pos p apos : Pos} {F : Fn} {k K' : Nat} {fA : Addr} {fd : FuncData} {ps : List Str} {m : Str}
end

/-! ### a written dict with text keys and ints -/
theorem find_none {w : World} {z : Str} : ∀ (l : List DictEntry) (ks : List Str), l.map He.keyOf = He.keysIn w.params ks → z ∉ ks → l.find? (fun d => d.key.isStr z) = none ∧ l.any (fun d => d.refKey) = false
  | [], _, _, _ => ⟨rfl, rfl⟩
  | d :: r, [], h, _ => by cases h
  | d :: r, k :: ks, h, hz => by
    have h1 : He.keyOf d :: r.map He.keyOf = some (k, PyData.keyHash w.params k) :: He.keysIn w.params ks := h
    injection h1 with h2 h3
    have hk : z ≠ k := fun e => hz (by rw [e]; exact List.mem_cons_self)
    obtain ⟨r1, r2⟩ := find_none r ks h3 (fun m => hz (List.mem_cons_of_mem _ m))
    obtain ⟨t, q⟩ : ∃ t, d.key = .str k t := by
      unfold He.keyOf at h2
      split at h2
      · rename_i x t q
        have h4 := Option.some.inj h2
        obtain ⟨h5, h6⟩ := Prod.mk.inj h4
        exact ⟨t, by rw [q, h5]⟩
      · cases h2
    have d0 : d.key.isStr z = false := by
      rw [q, PySem.W.isStr_of]
      unfold Value.isStrOf
      simp only [beq_eq_false_iff_ne, ne_eq]
      exact fun e => hk e.symm
    have d1 : d.refKey = false := by
      unfold DictEntry.refKey
      rw [q]
    refine ⟨?_, ?_⟩
    · rw [List.find?_cons, d0]
      exact r1
    · rw [List.any_cons, d1, r2]
      rfl
theorem nsIn_none {K : PySem.W.Frag} {w : World} {a : Addr} {ks : List Str} (h : He.dicW K a = some (He.keysIn w.params ks)) {z : Str} (hz : z ∉ ks) : PySem.W.nsIn K a z = some none := by
  unfold He.dicW at h
  split at h
  · rename_i c es n sl e
    split at h
    · have h := Option.some.inj h
      obtain ⟨r1, r2⟩ := find_none (w := w) (z := z) es.toList ks h hz
      unfold PySem.W.nsIn
      rw [e]
      simp only [r1, r2]
      rfl
    · cases h
  · cases h
/-- the module's name x is a dict with these items -/
structure DctS (K : PySem.W.Frag) (w : World) (mg : Str → Option Value) (x : Str) (kvs : List (Str × Int)) : Prop where
  ex : ∃ a es n, mg x = some (.ref a) ∧ KDict K w a es n ∧ (∀ z : Str, z ∉ kvs.map (·.1) → PySem.W.nsIn K a z = some none) ∧ ∀ p ∈ kvs, ∃ t, PySem.W.nsIn K a p.1 = some (some (.int p.2 t))
theorem DctS.of {K : PySem.W.Frag} {w : World} {mg : Str → Option Value} {x : Str} {kvs : List (Str × Int)} {a : Addr} (h1 : mg x = some (.ref a)) (h2 : He.dicW K a = some (He.keysIn w.params (kvs.map (·.1)))) (h3 : ∀ p ∈ kvs, ∃ t, PySem.W.nsIn K a p.1 = some (some (.int p.2 t))) : DctS K w mg x kvs := by
  obtain ⟨es, n, k⟩ := He.dicW_ok h2
  exact ⟨a, es, n, h1, k, fun z hz => nsIn_none h2 hz, h3⟩
section
variable {X : Cx} {c : Cg} {W : WX} {e f : Expr} {fk fx : M R} {pos apos cpos : Pos} {x : Str} {kvs : List (Str × Int)} {ty tx : TE}
end
/-! ### two names in parallel, some of them cells -/
section
variable {X : Cx} {c : Cg} {W : WX} {x y : Str} {a b : Expr} {g : M (List R)} {px py pt pos : Pos} {k2 pt2} {kt : Nat} {i j : Nat}
end
end Dd

set_option Elab.async false
set_option linter.all false
set_option maxRecDepth 100000
set_option maxHeartbeats 4000000
/-! isinstance where objects of several own classes stand -/
namespace Dd
open PySem PySem.Spec PyProof.Rows L2
section
variable {X : Cx} {c : Cg} {W : WX} {a b : Expr} {f : M R} {pos p : Pos}
end
theorem kit_of {K : PySem.W.Frag} {C D : Addr} {b : Bool} (cf : ClsF K C) (ty : PySem.W.typeIn K (.ref C) = some (.type "type")) (ne : (Value.ref D == Value.ref C) = false) (s : PySem.W.subIn K (.ref D) (.ref C) = some b) : PySem.W.kitOne K (.ref D) (.ref C) = some b := by
  have hc : (PySem.W.clsIn K C).isSome = true := by
    obtain ⟨cd, hc, _⟩ := PySem.W.any_some cf.cl.hd
    rw [hc]
    rfl
  unfold PySem.W.kitOne
  rw [ne, if_neg (by decide)]
  show (if ((PySem.W.clsIn K C).isSome && PySem.W.typeIn K (.ref C) == some (.type "type")) = true then PySem.W.subIn K (.ref D) (.ref C) else none) = _
  rw [hc, ty, if_pos (by rfl)]
  exact s
/-! ### == of an own class, against objects of other own classes -/
section
variable {X : Cx} {c : Cg} {W : WX} {a b e o : Expr} {f fa fb : M R} {g : M (List R)} {pos p apos : Pos} {k n : Nat} {F : Fn} {fA : Addr} {fd : FuncData} {ps : List Str} {js : List Nat}
end
end Dd

set_option Elab.async false
set_option linter.all false
set_option maxRecDepth 100000
set_option maxHeartbeats 4000000
/-! own functions as values, called by a local name -/
namespace Dd
open PySem PySem.Spec PyProof.Rows L2
section
variable {X : Cx} {c : Cg} {W : WX} {e : Expr} {es : List Expr} {f : M R} {g : M (List R)} {pos p : Pos} {x : Str} {K' : Nat} {tbl : List (Nat × Nat × Fn)} {ta : TE} {t : TA}
end
end Dd

set_option Elab.async false
set_option linter.all false
set_option maxRecDepth 100000
set_option maxHeartbeats 4000000
/-! sorted(set(list of ints)) -/
namespace Dd
open PySem PySem.Spec PyProof.Rows L2
section
variable {prog : Program} {w : World} {B : Around} {E : Value → Shared → Prop} {t : Shared}
end
section
variable {X : Cx} {c : Cg} {W : WX} {a : Expr} {f : M R} {p p2 pos pos2 : Pos}
end
end Dd

set_option Elab.async false
set_option linter.all false
set_option maxRecDepth 100000
set_option maxHeartbeats 4000000
/-! slices of texts, a text within a text -/
namespace Dd
open PySem PySem.Spec PyProof.Rows L2
section
variable {X : Cx} {c : Cg} {W : WX} {e a b : Expr} {f fa fb : M R} {l h : M (Option Int)} {lo hi : Option Expr} {p2 pos : Pos}
end
end Dd

set_option Elab.async false
set_option linter.all false
set_option maxRecDepth 100000
set_option maxHeartbeats 4000000
/-! a call of what stands at a place of a list: own functions -/
namespace Dd
open PySem PySem.Spec PyProof.Rows L2
section
variable {X : Cx} {c : Cg} {W : WX} {o i e : Expr} {es : List Expr} {f : M R} {g : M (List R)} {pos p : Pos} {K' : Nat} {tbl : List (Nat × Nat × Fn)} {ta : TE} {t : TA}
end
end Dd

set_option Elab.async false
set_option linter.all false
set_option maxRecDepth 100000
set_option maxHeartbeats 4000000
/-! min and max of four whole numbers -/
namespace Dd
open PySem PySem.Spec PyProof.Rows L2
section
variable {prog : Program} {w : World} {A : Around} {E : Value → Shared → Prop} {s : Shared}

end
section
variable {X : Cx} {c : Cg} {W : WX} {a b d e : Expr} {fa fb fd fe : M R} {p pos : Pos}

end
end Dd

set_option Elab.async false
set_option linter.all false
set_option maxRecDepth 100000
set_option maxHeartbeats 4000000
/-! list.index of whole numbers -/
namespace Dd
open PySem PySem.Spec PyProof.Rows L2
section
variable {X : Cx} {c : Cg} {W : WX} {o a : Expr} {f fa : M R} {apos : Pos}
end
end Dd

set_option Elab.async false
set_option linter.all false
set_option maxRecDepth 100000
set_option maxHeartbeats 4000000
/-! range(0, j, k) of a positive step that divides j -/
namespace Dd
open PySem PySem.Spec PyProof.Rows L2
section
variable {X : Cx} {c : Cg} {W : WX} {tg a b : Expr} {g : M (List R)} {pos p : Pos}
end
end Dd

set_option Elab.async false
set_option linter.all false
set_option maxRecDepth 100000
set_option maxHeartbeats 4000000
/-! a def that ends in the return of a pair: an object of its own, and data -/
namespace Dd
open PySem PySem.Spec PyProof.Rows L2
inductive FRes2 where
  | ok (o : Con) (d : D) (st : Store) | exc (x : Xn) (st : Store) | bad
abbrev Fn2 := List R → Store → FRes2
/-! ### bodies -/
inductive Fl2 where
  | rt (x y : R)
def PostS2 (c : Cg) (W : WX) (Γ : Gh) (r : Res Fl2) (E : Ends) : Prop := match r with
  | .ok (.rt x y) S' => ∀ Γ' σ' H' v u p ob, Γ.le Γ' → FrOk c Γ' S' σ' H' → RepR c Γ' x v → RepR c Γ' y u → H' p = some (.frz ob (.tup [v, u])) → E.rt (.ref p) H'
  | .exc x S' => ∀ Γ' σ' H' cls dd, Γ.le Γ' → FrOk c Γ' S' σ' H' → XRep c Γ' H' x cls dd → W cls dd σ' H'
  | .bad => False
section
variable {X : Cx} {c : Cg} {W : WX} {st : Stmt} {sts : List Stmt} {h1 : M Fl} {h2 : M Fl2} {fa fb : M R} {e1 e2 : Expr} {pos tp : Pos}
theorem PostS2.le {Γ Γ1 : Gh} {r : Res Fl2} {E : Ends} (h : PostS2 c W Γ r E) (e : Γ.le Γ1) : PostS2 c W Γ1 r E := by
  cases r with
  | ok a S =>
    cases a with
    | rt x y => exact fun Γ' σ' H' v u p ob e' => h Γ' σ' H' v u p ob (e.trans e')
  | exc x S => exact fun Γ' σ' H' cls dd e' => h Γ' σ' H' cls dd (e.trans e')
  | bad => exact h
end
/-! ### a def of this kind -/
section
variable {P : Program} {w : World} {K : PySem.W.Frag} {mg : Str → Option Value} {base : Heap} {c : Cg}
end
/-! ### x, y = f(..) -/
section
variable {X : Cx} {c : Cg} {W : WX} {e : Expr} {es : List Expr} {g : M (List R)} {pos p cpos : Pos} {F : Fn2} {n k i j q : Nat} {fA : Addr} {fd : FuncData} {ps : List Str} {x a b : Str} {pa pb tpos : Pos}
end
end Dd

set_option Elab.async false
set_option linter.all false
set_option maxRecDepth 100000
set_option maxHeartbeats 4000000
/-! repr of a list display of any data, the empty dict among it at any depth -/
namespace Dd
open PySem PySem.Spec PyProof.Rows L2
mutual
/-- reads as data; its dicts are not the modules' -/
inductive SfR (hp : Heap) : Value → PyData → Prop
  | none : SfR hp .none .none
  | bool (b : Bool) : SfR hp (.bool b) (.bool b)
  | int (i : Int) (t : Tok) : SfR hp (.int i t) (.int i)
  | str (z : Str) (t : Tok) : SfR hp (.str z t) (.str z)
  | ed {b : Addr} : Reads hp (.ref b) (.dict []) [b] → (b == sysModules) = false → SfR hp (.ref b) (.dict [])
  | list {b : Addr} {ob : Obj} {its : Array Value} {m : Nat} {ds : List PyData} : hp.get? b = some ob → ob.cls = .type "list" → ob.data = .seq its m → SfA hp its.toList ds → SfR hp (.ref b) (.list ds)
  | tuple {b : Addr} {ob : Obj} {its : Array Value} {m : Nat} {ds : List PyData} : hp.get? b = some ob → ob.cls = .type "tuple" → ob.data = .seq its m → SfA hp its.toList ds → SfR hp (.ref b) (.tuple ds)
inductive SfA (hp : Heap) : List Value → List PyData → Prop
  | nil : SfA hp [] []
  | cons {v : Value} {vs : List Value} {d : PyData} {ds : List PyData} : SfR hp v d → SfA hp vs ds → SfA hp (v :: vs) (d :: ds)
end
mutual
theorem SfR.rd {hp : Heap} : ∀ {v : Value} {d : PyData}, SfR hp v d → ∃ bs, Reads hp v d bs
  | _, _, .none => ⟨_, Reads.none⟩
  | _, _, .bool b => ⟨_, Reads.bool b⟩
  | _, _, .int i t => ⟨_, Reads.int i t⟩
  | _, _, .str z t => ⟨_, Reads.str z t⟩
  | _, _, .ed r _ => ⟨_, r⟩
  | _, _, .list q1 q2 q3 q4 => let ⟨_, r⟩ := SfA.rd q4; ⟨_, Reads.list q1 q2 q3 r⟩
  | _, _, .tuple q1 q2 q3 q4 => let ⟨_, r⟩ := SfA.rd q4; ⟨_, Reads.tuple q1 q2 q3 r⟩
theorem SfA.rd {hp : Heap} : ∀ {vs : List Value} {ds : List PyData}, SfA hp vs ds → ∃ bs, ReadsAll hp vs ds bs
  | _, _, .nil => ⟨_, ReadsAll.nil⟩
  | _, _, .cons q1 q2 => let ⟨_, r1⟩ := SfR.rd q1; let ⟨_, r2⟩ := SfA.rd q2; ⟨_, ReadsAll.cons r1 r2⟩
end
section
variable {P : Program} {w : World} {hp : Heap}
theorem sf_flat {v : Value} {d : PyData} {bs : List Addr} (r : Reads hp v d bs) (h1 : d.showable = true) (h2 : d.hasDict = true → sysModules ∉ bs) (h3 : d.shown.length ≤ sizeLine) : ∃ cs, ReadAtMost hp d.depth cs ∧ ReprK P w cs hp d.depth v d.shown := ReprK.of_reads r h1 h2 h3
mutual
theorem SfR.rep : ∀ {v : Value} {d : PyData}, SfR hp v d → d.showable = true → d.shown.length ≤ sizeLine → ∃ cs, ReadAtMost hp d.depth cs ∧ ReprK P w cs hp d.depth v d.shown
  | _, _, .none, a, b => sf_flat Reads.none a (fun h => by simp [PyData.hasDict] at h) b
  | _, _, .bool k, a, b => sf_flat (Reads.bool k) a (fun h => by simp [PyData.hasDict] at h) b
  | _, _, .int i t, a, b => sf_flat (Reads.int i t) a (fun h => by simp [PyData.hasDict] at h) b
  | _, _, .str z t, a, b => sf_flat (Reads.str z t) a (fun h => by simp [PyData.hasDict] at h) b
  | _, _, .ed r hne, a, b => sf_flat r a (fun _ hm => by rw [List.mem_singleton.mp hm] at hne; simp at hne) b
  | _, _, .list (b := b) (its := its) (ds := ds) q1 q2 q3 q4, sa, sz => by
    have sz' : (listText (PyData.shownAll ds)).length ≤ sizeLine := by rw [PyData.shown] at sz; exact sz
    obtain ⟨cs, m1, m2⟩ := SfA.rep q4 (by rw [PyData.showable] at sa; exact sa) fun y hy => Nat.le_trans (listText_mem_le hy) sz'
    obtain ⟨_, full⟩ := SfR.rd (SfR.list q1 q2 q3 q4)
    have far : b ∉ cs := not_mem_of_deeper full (by rw [PyData.depth]; omega) m1
    refine ⟨b :: cs, ReadAtMost.cons full (by rw [PyData.depth]; omega) m1, ?_⟩
    rw [PyData.depth, PyData.shown]
    obtain ⟨li⟩ := its
    cases li with
    | nil =>
      cases q4
      rw [PyData.shownAll, listText_nil]
      exact ReprK.listEmpty q1 q2 q3
    | cons y r => exact ReprK.list q1 q2 q3 far (by rw [m2.length_eq]; rfl) fun i z e => m2.item i z (by rw [List.getElem?_toArray] at e; exact e)
  | _, _, .tuple (b := b) (its := its) (ds := ds) q1 q2 q3 q4, sa, sz => by
    have sz' : (tupleText (PyData.shownAll ds)).length ≤ sizeLine := by rw [PyData.shown] at sz; exact sz
    obtain ⟨cs, m1, m2⟩ := SfA.rep q4 (by rw [PyData.showable] at sa; exact sa) fun y hy => Nat.le_trans (tupleText_mem_le hy) sz'
    obtain ⟨_, full⟩ := SfR.rd (SfR.tuple q1 q2 q3 q4)
    have far : b ∉ cs := not_mem_of_deeper full (by rw [PyData.depth]; omega) m1
    refine ⟨b :: cs, ReadAtMost.cons full (by rw [PyData.depth]; omega) m1, ?_⟩
    rw [PyData.depth, PyData.shown]
    exact ReprK.tuple q1 q2 q3 far m2
theorem SfA.rep : ∀ {vs : List Value} {ds : List PyData}, SfA hp vs ds → PyData.showableAll ds = true → (∀ t ∈ PyData.shownAll ds, t.length ≤ sizeLine) → ∃ cs, ReadAtMost hp (PyData.depthAll ds) cs ∧ ReprAllK P w cs hp (PyData.depthAll ds) vs (PyData.shownAll ds)
  | _, _, .nil, _, _ => ⟨[], (fun _ h => nomatch h), by rw [PyData.shownAll]; exact .nil⟩
  | _, _, .cons (d := d) (ds := ds) q1 q2, sa, sz => by
    rw [PyData.showableAll, Bool.and_eq_true] at sa
    obtain ⟨b1, m1, k1⟩ := SfR.rep q1 sa.1 (sz _ (by rw [PyData.shownAll]; exact List.mem_cons_self ..))
    obtain ⟨b2, m2, k2⟩ := SfA.rep q2 sa.2 fun t ht => sz t (by rw [PyData.shownAll]; exact List.mem_cons_of_mem _ ht)
    rw [PyData.depthAll, PyData.shownAll]
    exact ⟨b1 ++ b2, (m1.mono (Nat.le_max_left ..)).append (m2.mono (Nat.le_max_right ..)),
      .cons ((k1.more fun b hb => List.mem_append_left _ hb).level_le (Nat.le_max_left ..)) (k2.more_le (fun b hb => List.mem_append_right _ hb) (Nat.le_max_right ..))⟩
end
end
/-! ### data with empty dicts -/
section
variable {X : Cx} {c : Cg} {pins : List (Addr × Obj)} {σ : L2.St} {G H : Hp} {s : Shared}
end
section
variable {X : Cx} {c : Cg} {W : WX} {k : Nat} {p pos : Pos}
end
end Dd

set_option Elab.async false
set_option linter.all false
set_option maxRecDepth 100000
set_option maxHeartbeats 4000000
/-! a dict with tuples as keys that is written no more, as pure data: d[k], d.get(k), for k in d -/
namespace Dd
open PySem PySem.Spec PyProof.Rows L2
def dfindF (k : NestedKey) : List D → Option D
  | kk :: v :: r => if nkD kk = some k then some v else dfindF k r
  | _ => none
def keysF : List D → List D
  | k :: _ :: r => k :: keysF r
  | _ => []
section
variable {c : Cg} {G : Hp}
theorem Lnk.find {k : NestedKey} : ∀ {l : List D} {ws : List V} {xs : List (NestedKey × Addr × Value)}, RepL c G l ws → Lnk l ws xs → (dfindF k l = none ∧ atKey xs k = none) ∨ ∃ d b u vv, dfindF k l = some d ∧ atKey xs k = some (b, u) ∧ Rep c G d vv ∧ RelV vv u
  | [], _, _, _, h => by
    obtain ⟨_, rfl⟩ := h
    exact .inl ⟨rfl, rfl⟩
  | [_], _, _, _, h => h.elim
  | kk :: v :: r, _, _, hr, h => by
    obtain ⟨b, vv, nk, u, ws', xs', rfl, rfl, h1, h2, h3, h4, h5⟩ := h
    obtain ⟨_, _, e, r1, r2⟩ := RepL.cons_iff.mp hr
    cases e
    obtain ⟨_, _, e, r3, r4⟩ := RepL.cons_iff.mp r2
    cases e
    by_cases e : nk = k
    · subst e
      exact .inr ⟨v, b, u, vv, by unfold dfindF; rw [if_pos h1], by simp [atKey], r3, h4⟩
    · have e1 : dfindF k (kk :: v :: r) = dfindF k r := by
        show (if nkD kk = some k then some v else dfindF k r) = _
        rw [if_neg (by rw [h1]; intro z; exact e (Option.some.inj z))]
      have e2 : atKey ((nk, b, u) :: xs') k = atKey xs' k := by simp [atKey, List.find?_cons, e]
      rw [e1, e2]
      exact Lnk.find r4 h5
theorem Lnk.keys {X : Cx} {pins : List (Addr × Obj)} {σ : L2.St} {H : Hp} {s : Shared} (hK : X.K = c.K) (I : Inv X pins σ H s) (hG : Ext G H) : ∀ {l : List D} {ws : List V} {xs : List (NestedKey × Addr × Value)}, RepL c G l ws → Lnk l ws xs → KeysOk s.heap xs
  | [], _, _, _, h => by
    obtain ⟨_, rfl⟩ := h
    intro x hx; simp at hx
  | [_], _, _, _, h => h.elim
  | kk :: v :: r, _, _, hr, h => by
    obtain ⟨b, vv, nk, u, ws', xs', rfl, rfl, h1, h2, h3, h4, h5⟩ := h
    obtain ⟨_, _, e, r1, r2⟩ := RepL.cons_iff.mp hr
    cases e
    obtain ⟨_, _, e, r3, r4⟩ := RepL.cons_iff.mp r2
    cases e
    intro x hx
    rcases List.mem_cons.mp hx with e | e
    · subst e
      exact ⟨h3, nested_of hK I hG _ _ _ _ r1 h1 rfl, h2⟩
    · exact Lnk.keys hK I hG r4 h5 x e
theorem Lnk.get : ∀ {l : List D} {ws : List V} {xs : List (NestedKey × Addr × Value)} {i : Nat}, RepL c G l ws → Lnk l ws xs → (keysF l).length = xs.length ∧ ∀ {d : D}, (keysF l)[i]? = some d → ∃ nk b u, xs[i]? = some (nk, b, u) ∧ Rep c G d (.ref b)
  | [], _, _, i, _, h => by
    obtain ⟨_, rfl⟩ := h
    exact ⟨rfl, fun e => by simp [keysF] at e⟩
  | [_], _, _, _, _, h => h.elim
  | kk :: v :: r, _, _, i, hr, h => by
    obtain ⟨b, vv, nk, u, ws', xs', rfl, rfl, h1, h2, h3, h4, h5⟩ := h
    obtain ⟨_, _, e, r1, r2⟩ := RepL.cons_iff.mp hr
    cases e
    obtain ⟨_, _, e, r3, r4⟩ := RepL.cons_iff.mp r2
    cases e
    have hl := (Lnk.get (i := 0) r4 h5).1
    refine ⟨by show (keysF r).length + 1 = xs'.length + 1; rw [hl], fun {d} e => ?_⟩
    have e : (kk :: keysF r)[i]? = some d := e
    cases i with
    | zero => simp at e; subst e; exact ⟨nk, b, u, rfl, r1⟩
    | succ i => exact (Lnk.get (i := i) r4 h5).2 (by simpa using e)
end
/-! ### d[k] -/
def opDix : R → R → M R := fun x y S => match x, y with
  | .p (.dd l), .p k => (match keyN k with
    | some nk => (match dfindF nk l with
      | some d => .ok (.p d) S
      | none => .bad)
    | none => .bad)
  | _, _ => .bad
section
variable {X : Cx} {c : Cg} {W : WX} {o i e : Expr} {fo fk : M R} {pos apos cpos : Pos} {td ty : TE}
theorem pe_dixN (hu : X.A.in1.units + 8 < cLine) (ho : PE X o td) (hi : PE X i ty) (hs : NoSl i) : PE X (.Subscript o i pos) (fun σ H Q => td σ H fun x H1 => ty σ H1 fun y H2 => ∃ a b w0 xs ep k q v, x = .ref a ∧ y = .ref b ∧ GetN X H2 w0 a b xs ep k ∧ atKey xs k = some q ∧ RelV v q.2 ∧ Q v H2) := by
  refine ⟨fun pins s σ H Q I h => ?_⟩
  refine subD_of PySem.F.slot_dict_getitem.lookup hs (thn (ho.run pins s σ H _ I h) fun u s1 ⟨x, H1, I1, rx, q1⟩ => thn (hi.run pins s1 σ H1 _ I1 q1) fun iv s2 ⟨y, H2, I2, ry, a, b, w0, xs, ep, k, q, v, ex, ey, g, hq, rv, q2⟩ => ?_)
  subst ex ey
  obtain rfl : u = Value.ref a := rx
  obtain rfl : iv = Value.ref b := ry
  obtain ⟨g1, g2, g3, g4⟩ := g
  obtain ⟨k1, k2⟩ := g4 pins σ s2 I2
  have dd := (raw_held I2 g1).dict (prog := X.prog) (w := X.w) k1
  exact ⟨(raw_at I2 g1).1, wpAny_getItem_heap (knd := nestedKind X.prog X.w) hu ⟨k2, g2⟩ dd hq ⟨v, H2, I2.tok _, rv, q2⟩⟩
theorem od_dix (hK : X.K = c.K) {Γ : Gh} {S : Sg} {σ : L2.St} {H : Hp} {x y : R} {v w : V} {Q : VK} (F : FrOk c Γ S σ H) (hx : RepR c Γ x v) (hy : RepR c Γ y w) (P : Post c W σ Γ (opDix x y S) fun z S' Γ' H' => ∀ u, RepR c Γ' z u → Q u H') :
    ∃ a b w0 xs ep k q z, v = .ref a ∧ w = .ref b ∧ GetN X H w0 a b xs ep k ∧ atKey xs k = some q ∧ RelV z q.2 ∧ Q z H := by
  unfold opDix at P
  split at P
  · rename_i l kd
    cases q3 : keyN kd with
    | none => rw [q3] at P; exact P.elim
    | some nk =>
      rw [q3] at P
      simp only at P
      cases q4 : dfindF nk l with
      | none => rw [q4] at P; exact P.elim
      | some d =>
        rw [q4] at P
        obtain ⟨a, w0, xs, ep, ws, rfl, g1, g2, g3⟩ := Rep.dd_iff.mp (RepR.pure.mp hx)
        obtain ⟨k1, k2, k3, k4⟩ := keyN_some (c := c) (G := Γ.G) q3
        have hk := RepR.pure.mp hy
        obtain ⟨b, rfl⟩ := k4 _ hk
        rcases Lnk.find (k := nk) g2 g3 with ⟨r1, _⟩ | ⟨d', b', u, vv, r1, r2, r3, r4⟩
        · rw [r1] at q4; cases q4
        · rw [r1] at q4; cases q4
          exact ⟨a, b, w0, xs, ep, nk, (b', u), vv, rfl, rfl, ⟨F.s.g _ _ g1, k2, k3, fun pins σ' s I => ⟨Lnk.keys hK I F.s.g g2 g3, nested_of hK I F.s.g _ _ _ _ hk k1 rfl⟩⟩, r2, r4, Post.ok (c := c) (W := W) P Gh.le.refl F _ (RepR.pure.mpr r3)⟩
  · exact P.elim
theorem se_dix {k : Nat} (hr : Room k X.A) (hK : X.K = c.K) (ho : PE X o (rdE c W fo)) (hi : PE X i (rdE c W fk)) (hs : NoSl i := by exact fun _ _ => rfl) : PE X (.Subscript o i pos) (rdE c W (bin opDix fo fk)) :=
  se_of (pe_dixN (by have := hu66 hr; have e : X.A.in1.units = X.A.units + 1 := rfl; omega) ho hi hs) fun σ H Q q => by
    obtain ⟨Γ, S, F, P⟩ := q
    refine ⟨Γ, S, F, (Post.bind P).imp fun x S1 Γ1 H1 e1 F1 ⟨_, P1⟩ v hv => ?_⟩
    refine ⟨Γ1, S1, F1, (Post.bind P1).imp fun y S2 Γ2 H2 e2 F2 ⟨_, P2⟩ w hw => ?_⟩
    exact od_dix hK F2 (hv.mono e2) hw P2
/-! ### d.get(k) -/
def isDD : R → Sg → Bool := fun x _ => match x with
  | .p (.dd _) => true
  | _ => false
def opDget1 : R → List R → M R := fun x xs S => match x, xs with
  | .p (.dd l), [.p k] => (match keyN k with
    | some nk => .ok (.p ((dfindF nk l).getD .non)) S
    | none => .bad)
  | _, _ => .bad
def rGet1 (X : Cx) : V → List V → Hp → VK → Prop := fun v xs H Q => ∃ a b w0 ys ep k, v = .ref a ∧ xs = [.ref b] ∧ GetN X H w0 a b ys ep k ∧ (∀ q, atKey ys k = some q → ∃ z, RelV z q.2 ∧ Q z H) ∧ (atKey ys k = none → Q .non H)
theorem mt_get1 (hu : X.A.in1.units + 8 < cLine) : MtR X "dict.get" (rGet1 X) := by
  intro pins s σ H x xs v us Q I r rs h
  obtain ⟨a, b, w0, ys, ep, k, rfl, rfl, g, q1, q2⟩ := h
  obtain rfl : v = Value.ref a := r
  obtain ⟨u, rfl, ru⟩ := vals1 rs
  obtain rfl : u = Value.ref b := ru
  obtain ⟨g1, g2, g3, g4⟩ := g
  obtain ⟨k1, k2⟩ := g4 pins σ s I
  have rw1 := raw_held I g1
  have dd := rw1.dict (prog := X.prog) (w := X.w) k1
  refine call_meetsIn PySem.F.slot_dict_get dd.typeIs PySem.F.entry_dict_get (PySem.F.args_dict_get_2 _ _) (meetsH_dict_get (knd := nestedKind X.prog X.w) (d := a) (a := b) rw1.2.1) ⟨hu, k, ys, ⟨k2, g2⟩, dd, ?_⟩
  cases q : atKey ys k with
  | none => exact ⟨.non, H, I.tok _, rfl, q2 q⟩
  | some p =>
    obtain ⟨z, rz, qz⟩ := q1 p q
    exact ⟨z, H, I.tok _, rz, qz⟩
theorem tyOk_raw : TyOk X "dict" (fun v H => ∃ a w0 xs ep, v = .ref a ∧ H a = some (rawD w0 a xs ep)) := ⟨fun pins σ H s x v I r ⟨a, w0, xs, ep, e, h⟩ => by
  subst e
  obtain rfl : v = Value.ref a := r
  exact raw_at I h⟩
theorem ty_dd : TyD c isDD (fun v H => ∃ a w0 xs ep, v = .ref a ∧ H a = some (rawD w0 a xs ep)) := by
  intro Γ S σ H x v F hx h
  unfold isDD at h
  split at h
  · obtain ⟨a, w0, xs, ep, ws, rfl, g1, _⟩ := Rep.dd_iff.mp (RepR.pure.mp hx)
    exact ⟨a, w0, xs, ep, rfl, F.s.g _ _ g1⟩
  · cases h
theorem md_get1 (hK : X.K = c.K) : MtD c W opDget1 (rGet1 X) := by
  intro Γ S σ H x v ks vs Q F hx hxs P
  unfold opDget1 at P
  split at P
  · rename_i l kd
    obtain ⟨w, r, rfl, hw, hr⟩ := hxs
    obtain rfl : r = [] := hr
    cases q3 : keyN kd with
    | none => rw [q3] at P; exact P.elim
    | some nk =>
      rw [q3] at P
      simp only at P
      obtain ⟨a, w0, xs, ep, ws, rfl, g1, g2, g3⟩ := Rep.dd_iff.mp (RepR.pure.mp hx)
      obtain ⟨k1, k2, k3, k4⟩ := keyN_some (c := c) (G := Γ.G) q3
      have hk := RepR.pure.mp hw
      obtain ⟨b, rfl⟩ := k4 _ hk
      refine ⟨a, b, w0, xs, ep, nk, rfl, rfl, ⟨F.s.g _ _ g1, k2, k3, fun pins σ' s I => ⟨Lnk.keys hK I F.s.g g2 g3, nested_of hK I F.s.g _ _ _ _ hk k1 rfl⟩⟩, fun q hq => ?_, fun hq => ?_⟩
      · rcases Lnk.find (k := nk) g2 g3 with ⟨_, r2⟩ | ⟨d', b', u, vv, r1, r2, r3, r4⟩
        · rw [r2] at hq; cases hq
        · rw [r2] at hq; cases hq
          rw [r1] at P
          exact ⟨vv, r4, Post.ok (c := c) (W := W) P Gh.le.refl F _ (RepR.pure.mpr r3)⟩
      · rcases Lnk.find (k := nk) g2 g3 with ⟨r1, _⟩ | ⟨d', b', u, vv, r1, r2, r3, r4⟩
        · rw [r1] at P
          exact Post.ok (c := c) (W := W) P Gh.le.refl F _ (RepR.pure.mpr (Rep.non_iff.mpr rfl))
        · rw [r2] at hq; cases hq
  · exact P.elim
theorem e_dget1 {k : Nat} (hr : Room k X.A) (hK : X.K = c.K) (ho : PE X o (rdE c W fo)) (ha : PE X e (rdE c W fk)) (hbase : attributeBase o "get" X.env (eval o X.env) = eval o X.env := by rfl)
    (hfew : ((backTo cpos (starEach [e] X.env)).all (fun x => !x.1) && (backToKw cpos (keywordEach [] X.env)).all (fun x => x.1.isSome) && decide (([e] : List Expr).length + ([] : List Keyword).length + (if ([] : List Keyword).isEmpty then 0 else 1) < 30)) = true := by rfl)
    (hline : (apos.endLine == cpos.line) = true := by rfl) (hs : starEach [e] X.env = (false, eval e X.env) :: starEach [] X.env := by rfl) (hplain : (backTo cpos (starEach [] X.env)).any (·.1) = false := by rfl) :
    PE X (.Call (.Attribute o "get" apos) [e] [] cpos) (rdE c W (methM isDD opDget1 fo (aC fk aN))) := se_bm PySem.F.plainAttrs_dict PySem.F.slot_dict_get PySem.F.type_dict_get tyOk_raw (mt_get1 (by have := hu66 hr; have e : X.A.in1.units = X.A.units + 1 := rfl; omega)) ty_dd (md_get1 hK) ho (sa_cons ha sa_nil hs) hbase hfew hline hs hplain
end
/-! ### for k in d -/
/-- the keys of the dict at d -/
def ItK0 (w0 : World) (d : Addr) (xs : List (NestedKey × Addr × Value)) (ep : Nat) : L2.It :=
  ⟨fun j H => H d = some (rawD w0 d xs ep) ∧ j < xs.length, fun j H v H' => H' = H ∧ ∃ x, xs[j]? = some x ∧ v = .ref x.2.1, fun j H => H d = some (rawD w0 d xs ep) ∧ xs.length ≤ j⟩
theorem turn_keysN {P : Program} {w w0 : World} {K : PySem.W.Frag} {tg : Expr} {d : Addr} {xs : List (NestedKey × Addr × Value)} {ep : Nat} (q : Addr) : Turn P w K tg (ItK0 w0 d xs ep) [q] q (fun j hp => hp.IsKeyIter q d j xs.length ep) where
  mem := by simp
  obj := fun j hp st b hb => by
    obtain rfl : b = q := by simpa using hb
    obtain ⟨ob, z1, z2, z3⟩ := st
    exact ⟨ob, z1, fun v z => by rw [z3] at z; cases z⟩
  keep := fun j hp hp' st kp => st.at fun ob z => kp q (by simp) ob z
  item := by
    intro X hP hw hK hc j pins s σ H E I hf st hg
    subst hP hw hK
    obtain ⟨hd, hlt⟩ := hg
    obtain ⟨f0, f1, f2, f3, f4, f5⟩ := hf q (by simp)
    obtain ⟨z, m, o, es, h1, h2, h3, h4, h5⟩ := raw_held I hd
    have hsz : es.size = xs.length := by rw [← Array.length_toList, h4, List.length_map]
    have hi : j < es.size := by rw [hsz]; exact hlt
    have hxs : xs[j]? = some xs[j] := List.getElem?_eq_getElem hlt
    have hent : es[j] = entry0 w0 xs[j] := by
      have e1 : es.toList[j]? = (xs.map (entry0 w0))[j]? := by rw [h4]
      rw [List.getElem?_map, hxs, Array.getElem?_toList, Array.getElem?_eq_getElem hi] at e1
      exact Option.some.inj e1
    rw [← hsz] at st
    refine wpAny_pyNext_keys_item_raw st ⟨o, h1, h2, h3⟩ hi fun hp st' sb => ?_
    rw [hent]
    have I1 : Inv X pins σ H { s with heap := hp } := I.turned (t' := s.toks) (fun c oc hb z => (sb.2 c hb).trans z) f0 f1 f3 f4 f5
    obtain ⟨oi, z1, z2, z3⟩ := id st'
    refine ⟨.ref xs[j].2.1, rfl, go_of (s := { s with heap := hp }) z1 z2 z3 (by decide) ⟨.ref xs[j].2.1, H, I1, rfl, ⟨rfl, xs[j], hxs, rfl⟩, ?_, fun c hb => (hf c hb).1⟩⟩
    show hp.IsKeyIter q d (j + 1) xs.length ep
    rw [← hsz]
    exact st'
  done := by
    intro X hP hw hK hc j pins s σ H E I hf st hg
    subst hP hw hK
    obtain ⟨hd, hle⟩ := hg
    obtain ⟨f0, f1, f2, f3, f4, f5⟩ := hf q (by simp)
    obtain ⟨z, m, o, es, h1, h2, h3, h4, h5⟩ := raw_held I hd
    have hsz : es.size = xs.length := by rw [← Array.length_toList, h4, List.length_map]
    exact next_key_end (I.ok.hd hc) st h1 h3 hsz hle fun hp eb => ⟨rfl, I.turned (t' := s.toks) (fun c oc hb z => eb c oc hb z) f0 f1 f3 f4 f5⟩
  self := fun A j s Q E st hq => wpAny_pyIter_keyiter st hq
section
variable {X : Cx} {c : Cg} {W : WX} {tg e : Expr} {td : TE} {f : M R}
theorem pi_keysN (he : PE X e td) : PI X tg e (fun σ H R => td σ H fun x H1 => ∃ d w0 xs ep, x = .ref d ∧ H1 d = some (rawD w0 d xs ep) ∧ R (ItK0 w0 d xs ep) H1) := by
  refine ⟨fun pins s σ H R I h => ?_⟩
  refine thn (he.run pins s σ H _ I h) fun u s1 ⟨x, H1, I1, rx, d, w0, xs, ep, ex, hd, q⟩ => ?_
  subst ex
  obtain rfl : u = Value.ref d := rx
  obtain ⟨z, m, o, es, h1, h2, h3, h4, h5⟩ := raw_held I1 hd
  have hsz : es.size = xs.length := by rw [← Array.length_toList, h4, List.length_map]
  refine iter_keys m h1 h2 h3 (pi_one (tk := s1.toks) I1 _ (turn_keysN _) ⟨_, Heap.get?_push_size _ rfl, rfl, ?_⟩ q)
  rw [hsz] <;> rfl
def ddkK (x : R) (S : Sg) : Res (Itm D) := match x with
  | .p (.dd l) => .ok ⟨fun _ => True, keysF l⟩ S
  | _ => .bad
def itDD (f : M R) : M (Itm D) := do
  let x ← f
  ddkK x
theorem si_dd (h : PE X e (rdE c W f)) : PI X tg e (rdI c W (itDD f)) := si_of (pi_keysN h) fun σ H R q => by
  obtain ⟨Γ, S, F, P⟩ := q
  refine ⟨Γ, S, F, (Post.bind P).imp fun x S1 Γ1 H1 e1 F1 ⟨_, P1⟩ v hv => ?_⟩
  unfold ddkK at P1
  split at P1
  · rename_i l
    obtain ⟨a, w0, xs, ep, ws, rfl, g1, g2, g3⟩ := Rep.dd_iff.mp (RepR.pure.mp hv)
    have P2 := fun J hJ => Post.ok (c := c) (W := W) P1 Gh.le.refl F1 J hJ
    refine ⟨a, w0, xs, ep, rfl, F1.s.g _ _ g1, P2 _ ?_⟩
    intro Γ' S' σ' H' j sb F' _
    have hH : H' a = some (rawD w0 a xs ep) := F'.s.g _ _ (sb.g _ _ g1)
    obtain ⟨hl, hg⟩ := Lnk.get (i := j) (RepL.mono sb.g g2) g3
    refine ⟨fun d hd => ?_, fun hj => ⟨hH, by show xs.length ≤ j; rw [← hl]; exact Nat.le_of_eq hj⟩⟩
    obtain ⟨nk, b, u, hx, hr⟩ := hg hd
    have hlt := (List.getElem?_eq_some_iff.mp hx).1
    refine ⟨⟨hH, hlt⟩, fun y H2 hy => ?_⟩
    obtain ⟨rfl, x', hx', rfl⟩ := hy
    rw [hx] at hx'
    cases hx'
    exact ⟨Γ', Gh.le.refl, F', hr⟩
  · exact P1.elim
theorem itDD_ap (f : M R) (S : Sg) : itDD f S = (f S).bnd ddkK := by unfold itDD; rw [bind_bnd]
end
end Dd

set_option Elab.async false
set_option linter.all false
set_option maxRecDepth 100000
set_option maxHeartbeats 4000000
namespace Lib
open PySem PySem.Spec PyProof.Rows L2 Dd
noncomputable def b_is_int : M Fl :=
    (sRt (eAnd (isB "int" (vr 0)) (eNot (isB "bool" (vr 0)))))
noncomputable def s_is_int : Fn := runF 1 b_is_int

noncomputable def b_is_level : M Fl :=
    (sSq (sIf (mOr (mNot (tst (isB "tuple" (vr 0)))) (mOr (tst (bin opNeD (opA (op1 opLen) (aC (vr 0) aN)) (ci 4))) (mNot (tst (opA (op1 opAll) (aC (lcE [1] [1] unp1 (itL (vr 0)) tYesM (callM s_is_int 1 (aC (vr 1) aN))) aN)))))) (sRt (cb false)) sNx)
    (sRt (bin opEqD (opA (op1 opSort) (aC (vr 0) aN)) (lstE (aC (ci 0) (aC (ci 1) (aC (ci 2) (aC (ci 3) aN))))))))
noncomputable def s_is_level : Fn := runF 2 b_is_level

noncomputable def b_Screen___init : M Fl :=
    (sSq (sIf (mOr (mNot (tst (isB "list" (vr 1)))) (mNot (tst (eChain opLe opLe (ci 1) (opA (op1 opLen) (aC (vr 1) aN)) (cd (.int 50)))))) (sRaiseF 101 cn) sNx)
    (sSq (sFor (itE (vr 1)) (gsC (gN 2) (gsC (gN 3) gsN)) (sIf (mNot (tst (callM s_is_level 1 (aC (vr 3) aN)))) (sRaiseF 101 (vr 2)) sNx))
    (sFld 0 "own_levels" (vr 0) (opA (op1 opTuple) (aC (vr 1) aN)))))
noncomputable def s_Screen___init : Fn := runF 4 b_Screen___init

noncomputable def b_is_whole : M Fl :=
    (sRt (eAnd (callM s_is_int 1 (aC (vr 0) aN)) (eChain opLe opLe (vr 1) (vr 0) (vr 2))))
noncomputable def s_is_whole : Fn := runF 3 b_is_whole

noncomputable def b_z_law_bag : M Fl :=
    (sRt (lstE (aC (opA opMax2 (aC (ci 0) (aC (bin opSub (vr 0) (bin opPow (ci 10) (ci 18))) aN))) (aC (vr 0) (aC (ci 0) aN)))))
noncomputable def s_z_law_bag : Fn := runF 1 b_z_law_bag

noncomputable def b_place_of : M Fl :=
    (sSq (sAsg (tupE (aC (ci 0) (aC (ci 0) aN))) (gT 2 (gsC (gN 2) (gsC (gN 3) gsN))))
    (sSq (sFor (itE (vr 0)) (gsC (gN 4) (gsC (gN 5) gsN)) (sSq (sSet 6 (bin opBand (bin opShr (vr 1) (bin opMul (ci 2) (bin opSub (bin opSub (opA (op1 opLen) (aC (vr 0) aN)) (ci 1)) (vr 4)))) (ci 3)))
    (sSq (sSet 7 (methM isTup opTIdx (vr 5) (aC (vr 6) aN)))
    (sPar 2 3 (aC (bin opAdd (vr 2) (bin opShl (bin opBand (vr 7) (ci 1)) (vr 4))) (aC (bin opAdd (vr 3) (bin opShl (bin opShr (vr 7) (ci 1)) (vr 4))) aN))))))
    (sRt (tupE (aC (vr 2) (aC (vr 3) aN))))))
noncomputable def s_place_of : Fn := runF 8 b_place_of

noncomputable def b_Screen_place : M Fl :=
    (sSq (sIf (mNot (tst (callM s_is_whole 3 (aC (vr 1) (aC (ci 0) (aC (bin opSub (bin opShl (ci 1) (bin opMul (ci 2) (opA (op1 opLen) (aC (attrU 0 "own_levels" (vr 0)) aN)))) (ci 1)) aN)))))) (sRaise 114) sNx)
    (sRt (callM s_place_of 2 (aC (attrU 0 "own_levels" (vr 0)) (aC (vr 1) aN)))))
noncomputable def s_Screen_place : Fn := runF 2 b_Screen_place

noncomputable def b_z_law_pick : M Fl :=
    (sSq (sSub (bin opAdd (bin opIx (vr 0) (ci 2)) (ci 1)) (vr 0) (ci 2))
    (sSq (sIf (tst (bin opGt (bin opIx (vr 0) (ci 0)) (ci 0))) (sSq (sSet 2 (bin opMod (opA (op1 opInt) (aC (bin opIx (vr 0) (ci 0)) aN)) (vr 1)))
    (sSq (sSub (bin opDiv (opA (op1 opInt) (aC (bin opIx (vr 0) (ci 0)) aN)) (vr 1)) (vr 0) (ci 0))
    (sRt (vr 2)))) sNx)
    (sSq (sPar 3 4 (aC (opA (op1 opInt) (aC (bin opIx (vr 0) (ci 1)) aN)) (aC (opA (op1 opInt) (aC (bin opIx (vr 0) (ci 2)) aN)) aN)))
    (sSq (sSet 5 (bin opMod (opA (op1 opInt) (aC (bin opAdd (bin opAdd (bin opMul (bin opMod (vr 3) (ci 2147483629)) (ci 48271)) (bin opMul (vr 4) (ci 69621))) (ci 12345)) aN)) (ci 2147483647)))
    (sSq (sSet 6 (bin opMod (opA (op1 opInt) (aC (bin opAdd (bin opMul (vr 5) (vr 5)) (bin opMul (vr 4) (ci 40692))) aN)) (ci 2147483587)))
    (sSq (sSet 7 (bin opDiv (opA (op1 opInt) (aC (bin opAdd (bin opMul (vr 5) (ci 2147483587)) (vr 6)) aN)) (ci 32)))
    (sSq (sIf (tst (bin opGt (vr 1) (bin opPow (ci 10) (ci 15)))) (sSet 7 (bin opAdd (bin opPow (vr 7) (ci 8)) (vr 6))) sNx)
    (sRt (bin opMod (opA (op1 opInt) (aC (vr 7) aN)) (vr 1))))))))))
noncomputable def s_z_law_pick : Fn := runF 8 b_z_law_pick

noncomputable def b_require_coordinate : M Fl :=
    (sIf (mNot (tst (callM s_is_whole 3 (aC (vr 0) (aC (bin opSub (ci 0) (cd (.int 1000000000000000000000000000000))) (aC (cd (.int 1000000000000000000000000000000)) aN)))))) (sRaise 111) sNx)
noncomputable def s_require_coordinate : Fn := runF 1 b_require_coordinate

noncomputable def b_require_place : M Fl :=
    (sSq (sEx (callM s_require_coordinate 1 (aC (vr 0) aN)))
    (sEx (callM s_require_coordinate 1 (aC (vr 1) aN))))
noncomputable def s_require_place : Fn := runF 2 b_require_place

noncomputable def b_threshold_at : M Fl :=
    (sSq (sSet 3 (ci 0))
    (sSq (sFor (itE (attrU 0 "own_levels" (vr 0))) (gsC (gN 4) (gsC (gN 5) gsN)) (sSet 3 (bin opAdd (bin opMul (ci 4) (vr 3)) (bin opIx (vr 5) (bin opAdd (bin opBand (bin opShr (vr 1) (vr 4)) (ci 1)) (bin opMul (ci 2) (bin opBand (bin opShr (vr 2) (vr 4)) (ci 1))))))))
    (sRt (vr 3))))
noncomputable def s_threshold_at : Fn := runF 6 b_threshold_at

noncomputable def b_Screen_threshold : M Fl :=
    (sSq (sEx (callM s_require_place 2 (aC (vr 1) (aC (vr 2) aN))))
    (sRt (callM s_threshold_at 3 (aC (vr 0) (aC (vr 1) (aC (vr 2) aN))))))
noncomputable def s_Screen_threshold : Fn := runF 3 b_Screen_threshold

noncomputable def b_Screen_levels : M Fl :=
    (sRt (opA (op1 opList) (aC (attrU 0 "own_levels" (vr 0)) aN)))
noncomputable def s_Screen_levels : Fn := runF 1 b_Screen_levels

noncomputable def b_z_law_near : M Fl :=
    (sSq (sSet 2 (lstE (aC (bin opSub (callM s_z_law_pick 2 (aC (vr 0) (aC (ci 40) aN))) (ci 20)) (aC (bin opSub (bin opAdd (bin opMul (vr 1) (bin opSub (callM s_z_law_pick 2 (aC (vr 0) (aC (ci 9) aN))) (ci 4))) (callM s_z_law_pick 2 (aC (vr 0) (aC (ci 5) aN)))) (ci 2)) aN))))
    (sSq (sEx (methM isLst opApp (vr 2) (aC (bin opSub (callM s_z_law_pick 2 (aC (vr 0) (aC (bin opAdd (bin opMul (ci 2) (bin opPow (ci 10) (ci 30))) (ci 1)) aN))) (bin opPow (ci 10) (ci 30))) aN)))
    (sRt (opA opMin2 (aC (bin opPow (ci 10) (ci 30)) (aC (opA opMax2 (aC (bin opSub (ci 0) (bin opPow (ci 10) (ci 30))) (aC (bin opIx (vr 2) (callM s_z_law_pick 2 (aC (vr 0) (aC (ci 3) aN)))) aN))) aN))))))
noncomputable def s_z_law_near : Fn := runF 3 b_z_law_near

noncomputable def b_Screen___eq : M Fl :=
    (sRt (eAnd (isC 0 (vr 1)) (bin opEqD (attrU 0 "own_levels" (vr 0)) (attrU 0 "own_levels" (vr 1)))))
noncomputable def s_Screen___eq : Fn := runF 2 b_Screen___eq

noncomputable def b_Screen_depth : M Fl :=
    (sRt (opA (op1 opLen) (aC (attrU 0 "own_levels" (vr 0)) aN)))
noncomputable def s_Screen_depth : Fn := runF 1 b_Screen_depth

noncomputable def b_Screen_period : M Fl :=
    (sRt (bin opShl (ci 1) (opA (op1 opLen) (aC (attrU 0 "own_levels" (vr 0)) aN))))
noncomputable def s_Screen_period : Fn := runF 1 b_Screen_period

noncomputable def b_Screen_shades : M Fl :=
    (sRt (bin opShl (ci 1) (bin opMul (ci 2) (opA (op1 opLen) (aC (attrU 0 "own_levels" (vr 0)) aN)))))
noncomputable def s_Screen_shades : Fn := runF 1 b_Screen_shades

noncomputable def b_require_screen : M Fl :=
    (sIf (mNot (tst (isC 0 (vr 0)))) (sRaise 108) sNx)
noncomputable def s_require_screen : Fn := runF 1 b_require_screen

noncomputable def b_z_law_small : M Fl :=
    (sRt (tupE (aC (callM s_z_law_near 2 (aC (vr 0) (aC (vr 1) aN))) (aC (callM s_z_law_near 2 (aC (vr 0) (aC (vr 1) aN))) (aC (bin opAdd (ci 1) (callM s_z_law_pick 2 (aC (vr 0) (aC (vr 2) aN)))) (aC (bin opAdd (ci 1) (callM s_z_law_pick 2 (aC (vr 0) (aC (vr 2) aN)))) aN))))))
noncomputable def s_z_law_small : Fn := runF 3 b_z_law_small

noncomputable def b_z_law_levels_v1 : M Fl :=
    (sSq (sSet 2 (lstE aN))
    (sSq (sFor (itR1 (aC (bin opAdd (ci 1) (callM s_z_law_pick 2 (aC (vr 0) (aC (vr 1) aN)))) aN)) (gN 3) (sSq (sPar 4 5 (aC (lstE (aC (ci 0) (aC (ci 1) (aC (ci 2) (aC (ci 3) aN))))) (aC (lstE aN) aN)))
    (sSq (sWhile (tst (bin opNeD (vr 4) (lstE aN))) (sEx (methM isLst opApp (vr 5) (aC (methM isLst opPopAt (vr 4) (aC (callM s_z_law_pick 2 (aC (vr 0) (aC (opA (op1 opLen) (aC (vr 4) aN)) aN))) aN)) aN))))
    (sEx (methM isLst opApp (vr 2) (aC (opA (op1 opTuple) (aC (vr 5) aN)) aN))))))
    (sRt (vr 2))))
noncomputable def s_z_law_levels_v1 : Fn := runF 6 b_z_law_levels_v1

noncomputable def b_z_law_threshold_v1 : M Fl :=
    (sSq (sSet 3 (ci 0))
    (sSq (sFor (itE (vr 0)) (gsC (gN 4) (gsC (gN 5) gsN)) (sSet 3 (bin opAdd (bin opMul (ci 4) (vr 3)) (bin opIx (vr 5) (bin opAdd (bin opBand (bin opShr (vr 1) (vr 4)) (ci 1)) (bin opMul (ci 2) (bin opBand (bin opShr (vr 2) (vr 4)) (ci 1))))))))
    (sRt (vr 3))))
noncomputable def s_z_law_threshold_v1 : Fn := runF 6 b_z_law_threshold_v1

noncomputable def b_moved_levels : M Fl :=
    (sSq (sSet 3 (bin opIx (vr 0) (uNeg (ci 1))))
    (sRt (lstE (aS (slE (vr 0) opt0 (opt1 (uNeg (ci 1)))) (aC (opA (op1 opTuple) (aC (lcE [4] [4] unp1 (itR1 (aC (ci 4) aN)) tYesM (bin opIx (vr 3) (bin opBxor (vr 4) (bin opAdd (vr 1) (bin opMul (ci 2) (vr 2)))))) aN)) aN)))))
noncomputable def s_moved_levels : Fn := runF 5 b_moved_levels

noncomputable def b_shift_between : M Fl :=
    (sSq (sEx (callM s_require_screen 1 (aC (vr 0) aN)))
    (sSq (sEx (callM s_require_screen 1 (aC (vr 1) aN)))
    (sSq (sFor (itL (tupE (aC (ci 0) (aC (ci 1) aN)))) (gN 2) (sFor (itL (tupE (aC (ci 0) (aC (ci 1) aN)))) (gN 3) (sIf (tst (bin opEqD (callM s_moved_levels 3 (aC (attrU 0 "own_levels" (vr 0)) (aC (vr 2) (aC (vr 3) aN)))) (propU 0 s_Screen_levels (vr 1)))) (sRt (tupE (aC (bin opShl (vr 2) (bin opSub (propU 0 s_Screen_depth (vr 0)) (ci 1))) (aC (bin opShl (vr 3) (bin opSub (propU 0 s_Screen_depth (vr 0)) (ci 1))) aN)))) sNx)))
    (sRt cn))))
noncomputable def s_shift_between : Fn := runF 4 b_shift_between

end Lib

set_option Elab.async false
set_option linter.all false
set_option maxRecDepth 100000
set_option maxHeartbeats 4000000
namespace Lib
open PySem PySem.Spec PyProof.Rows L2 Dd
noncomputable def b_z_law_made : M Fl :=
    (sSq (sPar 1 2 (aC (lstE aN) (aC (lstE aN) aN)))
    (sSq (sFor (itL (vr 0)) (gT 4 (gsC (gN 3) (gsC (gN 4) (gsC (gN 5) (gsC (gN 6) gsN))))) (sSq (sSq (sSet 7 (lcE [8] [8] unp1 (itL (vr 2)) (tst (bin opEqD (propU 0 s_Screen_levels (vr 8)) (vr 3))) (vr 8))) (sPur 7))
    (sSq (sSet 8 (pur (eIf (tst (bin opNeE (vr 7) (lstE aN))) (bin opIx (vr 7) (ci 0)) (makeU 0 s_Screen___init 2 (aC (vr 3) aN)))))
    (sSq (sEx (methM isLst opApp (vr 2) (aC (vr 8) aN)))
    (sEx (methM isLst opApp (vr 1) (aC (tupE (aC (vr 8) (aC (vr 4) (aC (vr 5) (aC (vr 6) aN))))) aN)))))))
    (sRt (vr 1))))
noncomputable def s_z_law_made : Fn := runF 9 b_z_law_made

noncomputable def b_moved : M Fl :=
    (sSq (sEx (callM s_require_screen 1 (aC (vr 0) aN)))
    (sSq (sEx (callM s_require_place 2 (aC (vr 1) (aC (vr 2) aN))))
    (sSq (sSet 3 (bin opSub (propU 0 s_Screen_depth (vr 0)) (ci 1)))
    (sSq (sIf (mOr (tstI (bin opBand (vr 1) (bin opSub (bin opShl (ci 1) (vr 3)) (ci 1)))) (tstI (bin opBand (vr 2) (bin opSub (bin opShl (ci 1) (vr 3)) (ci 1))))) (sRt cn) sNx)
    (sRt (makeU 0 s_Screen___init 2 (aC (pur (callM s_moved_levels 3 (aC (attrU 0 "own_levels" (vr 0)) (aC (bin opBand (bin opShr (vr 1) (vr 3)) (ci 1)) (aC (bin opBand (bin opShr (vr 2) (vr 3)) (ci 1)) aN))))) aN)))))))
noncomputable def s_moved : Fn := runF 4 b_moved

end Lib

set_option Elab.async false
set_option linter.all false
set_option maxRecDepth 100000
namespace Lib
open PySem PySem.Spec PyProof.Rows L2 Dd
theorem is_int_i (i : Int) (st : Store) : s_is_int [.p (.int i)] st = .ok (.val (.bl true)) st := by
  unfold s_is_int b_is_int
  simp! []
theorem is_whole_i (i a b : Int) (st : Store) : s_is_whole [.p (.int i), .p (.int a), .p (.int b)] st = .ok (.val (.bl (decide (a ≤ i ∧ i ≤ b)))) st := by
  unfold s_is_whole b_is_whole
  simp! [is_int_i]
  by_cases h : a ≤ i <;> simp [h]
/-- a level: the four digits in some order -/
def Lv (d : D) : Prop := ∃ a b c e : Int, d = .tup [.int a, .int b, .int c, .int e] ∧ sortI [a, b, c, e] = [0, 1, 2, 3]
theorem is_level_ok {d : D} (st : Store) (h : Lv d) : s_is_level [.p d] st = .ok (.val (.bl true)) st := by
  obtain ⟨a, b, c, e, rfl, h⟩ := h
  unfold s_is_level b_is_level
  simp! []
  rw [lcL_map (g := fun _ => D.bl true) trivial _ _ (fun d hd => by
    simp only [List.mem_cons, List.not_mem_nil, or_false] at hd
    rcases hd with rfl | rfl | rfl | rfl <;> simp! [is_int_i]) (by simp)]
  simp! [lcFin_ok, allK, blsOf, List.all_cons, List.all_nil, id]
  have hs : intsOf [D.int a, D.int b, D.int c, D.int e] = some [a, b, c, e] := rfl
  simp! [sortK, hs, h]
  rw [opEqD_li (ns := [0, 1, 2, 3]) (ms := [0, 1, 2, 3]) (by rw [dataR_r]; simp! []; rfl) (by rw [dataR_r]; simp! []; rfl)]
  simp! []
theorem lv_of {l : List Int} (h : l.Perm [0, 1, 2, 3]) : Lv (.tup (l.map .int)) := by
  have hl := h.length_eq
  match l, hl with
  | [a, b, c, e], _ => exact ⟨a, b, c, e, rfl, (sortI_eq h.symm (by decide)).symm⟩
/-- levels as data -/
def lvD (ls : List (List Int)) : List D := ls.map fun l => .tup (l.map .int)
def LvOk (ls : List (List Int)) : Prop := 1 ≤ ls.length ∧ ls.length ≤ 50 ∧ ∀ l ∈ ls, l.Perm [0, 1, 2, 3]
theorem screen_init (ls : List (List Int)) (h : LvOk ls) (st : Store) :
    s_Screen___init [.r st.length, .p (.lst (lvD ls))] (st ++ [.mu (.obj 0 [])]) = .ok (.val .non) (st ++ [.mu (.obj 0 [("own_levels", .tup (lvD ls))])]) := by
  obtain ⟨h1, h2, h3⟩ := h
  have hl : (lvD ls).length = ls.length := List.length_map ..
  unfold s_Screen___init b_Screen___init
  have e1 : decide (1 ≤ ((ls.length : Nat) : Int)) = true := by simp; omega
  have e2 : decide (((ls.length : Nat) : Int) ≤ 50) = true := by simp; omega
  simp! [hl, e1, e2]
  obtain ⟨S', e, x, y, rfl⟩ := loop_inv (ok := fun _ => True) (body := fun d => (gsC (gN 2) (gsC (gN 3) gsN) d >>= fun _ => sIf (mNot (tst (callM s_is_level 1 (aC (vr 3) aN)))) (sRaiseF 101 (vr 2)) sNx : M Fl))
    (I := fun _ S => ∃ x y, S = ⟨[some (R.r st.length), some (R.p (D.lst (lvD ls))), x, y], st ++ [Cell.mu (Con.obj 0 [])]⟩) (numbered 0 (lvD ls)) 0 _ ⟨none, none, rfl⟩ (fun _ _ _ => trivial) (fun j d S hj ⟨x, y, hS⟩ => by
      subst hS
      obtain ⟨d', rfl, hd⟩ := numbered_at hj
      obtain ⟨l, hl, rfl⟩ := List.mem_map.mp (List.mem_of_getElem? hd)
      refine ⟨_, .inl (by rw [bind_bnd]; simp! [is_level_ok _ (lv_of (h3 l hl))]; rfl), _, _, rfl⟩)
  rw [e]
  simp! [fldK, putD]
theorem screen_make (ls : List (List Int)) (h : LvOk ls) (S : Sg) : makeK 0 s_Screen___init 2 [.p (.lst (lvD ls))] S = .ok (.r S.st.length) ⟨S.sl, S.st ++ [.mu (.obj 0 [("own_levels", .tup (lvD ls))])]⟩ := by
  unfold makeK
  simp only [List.length_cons, List.length_nil]
  rw [if_pos trivial, screen_init ls h]
theorem objD_scr {l : List D} : objD 0 [("own_levels", .tup l)] = some (.scr l) := rfl
theorem require_screen_ok (l : List D) (st : Store) : s_require_screen [.p (.scr l)] st = .ok (.val .non) st := by
  unfold s_require_screen b_require_screen
  simp! []
theorem two_len {n : Nat} (h : n ≤ 50) : CMulW 2 (n : Int) := cmulw (n := 2) (m := 10) (Bt.of (by omega)) (Bt.of (by omega))
theorem shl_four (n : Nat) : (1 : Int) * 2 ^ (2 * (n : Int)).toNat = 4 ^ n := by
  rw [Int.one_mul, show (2 * (n : Int)).toNat = 2 * n by omega, Int.pow_mul]; rfl
/-- a window -/
def WinOk (l t w h : Int) : Prop := -(1000000000000000000000000000000 : Int) ≤ l ∧ l ≤ (1000000000000000000000000000000 : Int) ∧ -(1000000000000000000000000000000 : Int) ≤ t ∧ t ≤ (1000000000000000000000000000000 : Int) ∧ 1 ≤ w ∧ w ≤ (1000000000000000000000000000000 : Int) ∧ 1 ≤ h ∧ h ≤ (1000000000000000000000000000000 : Int)
def winD (l t w h : Int) : D := .tup [.int l, .int t, .int w, .int h]
/-- how many of the coordinates leave the residue -/
def resi (f m r : Int) (s : Nat) : Int := (f + m - 1 - r) / 2 ^ s - (f - 1 - r) / 2 ^ s
end Lib

set_option Elab.async false
set_option linter.all false
set_option maxRecDepth 100000
namespace Lib
open PySem PySem.Spec PyProof.Rows L2 Dd
theorem band1 (i : Int) : Builtin.bitAnd i 1 = i % 2 := PySem.W.kbt_mask i 1
theorem band3 (i : Int) : Builtin.bitAnd i 3 = i % 4 := PySem.W.kbt_mask i 2
theorem cshl_sm {i j : Int} (h : Bt 1000 i) (h0 : 0 ≤ j) (h1 : j ≤ 1000000) : CShl i j := ⟨h0, by
  have b : Builtin.Int.intBits i ≤ i.natAbs.log2 + 1 := by unfold Builtin.Int.intBits; split <;> omega
  have := h.log2
  omega⟩
/-- the cells below a shade: left of the digit at each level -/
def pl (c : Nat) (x y : Int) (s : Nat) : Int × Int := (x + ((c : Int) % 2) * 2 ^ s, y + ((c : Int) / 2) * 2 ^ s)
def below (g x y : Int) (s : Nat) : Nat → List Int → List (Int × Int × Nat)
  | _, [] => []
  | c, n :: r => if n < g then ((pl c x y s).1, (pl c x y s).2, s + 1) :: below g x y s (c + 1) r else below g x y s (c + 1) r
def furth (g x y : Int) (s : Nat) : Nat → List Int → Option (Int × Int) → Option (Int × Int)
  | _, [], o => o
  | c, n :: r, o => furth g x y s (c + 1) r (if n = g then some (pl c x y s) else o)
def cells (k : Int) : List (List Int) → Int → Int → Nat → List (Int × Int × Nat)
  | [], _, _, _ => []
  | lv :: r, x, y, s => below (k / 4 ^ r.length % 4) x y s 0 lv ++ match furth (k / 4 ^ r.length % 4) x y s 0 lv none with
    | some p => cells k r p.1 p.2 (s + 1)
    | none => []
theorem shr_four (k : Int) (n : Nat) : k / 2 ^ (2 * (n : Int)).toNat = k / 4 ^ n := by
  rw [show (2 * (n : Int)).toNat = 2 * n by omega, Int.pow_mul]; rfl
def cellsOf (k : Int) (ls : List (List Int)) : List (Int × Int × Nat) := if k = 4 ^ ls.length then [(0, 0, 0)] else cells k ls 0 0 0
/-- how many places of a window a cell holds -/
def pwi (l t w h : Int) (c : Int × Int × Nat) : Int := resi l w c.1 c.2.2 * resi t h c.2.1 c.2.2
end Lib

set_option Elab.async false
set_option linter.all false
set_option maxRecDepth 100000
set_option exponentiation.threshold 2000
namespace Lib
open PySem PySem.Spec PyProof.Rows L2 Dd
theorem pow_bd {s n : Nat} (h : s ≤ n) : (2 : Int) ^ s ≤ 2 ^ n := by
  have : (2 : Nat) ^ s ≤ 2 ^ n := Nat.pow_le_pow_right (by decide) h
  exact_mod_cast this
def CellOk' (n : Nat) (c : Int × Int × Nat) : Prop := 0 ≤ c.1 ∧ c.1 < 2 ^ n ∧ 0 ≤ c.2.1 ∧ c.2.1 < 2 ^ n ∧ c.2.2 ≤ n
theorem pl_bd {c : Nat} {x y : Int} {s : Nat} (hc : c < 4) (hx : 0 ≤ x) (hx' : x < 2 ^ s) (hy : 0 ≤ y) (hy' : y < 2 ^ s) : 0 ≤ (pl c x y s).1 ∧ (pl c x y s).1 < 2 ^ (s + 1) ∧ 0 ≤ (pl c x y s).2 ∧ (pl c x y s).2 < 2 ^ (s + 1) := by
  have e : (2 : Int) ^ (s + 1) = 2 * 2 ^ s := by rw [Int.pow_succ]; omega
  have c1 : (c : Int) % 2 = 0 ∨ (c : Int) % 2 = 1 := by omega
  have c2 : (c : Int) / 2 = 0 ∨ (c : Int) / 2 = 1 := by omega
  unfold pl
  simp only
  rw [e]
  rcases c1 with c1 | c1 <;> rcases c2 with c2 | c2 <;> rw [c1, c2] <;> simp only [Int.zero_mul, Int.one_mul] <;> omega
theorem CellOk'.mono {n m : Nat} {c : Int × Int × Nat} (h : CellOk' n c) (hm : n ≤ m) : CellOk' m c := by
  obtain ⟨h1, h2, h3, h4, h5⟩ := h
  have := pow_bd hm
  exact ⟨h1, by omega, h3, by omega, by omega⟩
/-- THE COUNT -/
def cnt (ls : List (List Int)) (k l t w h : Int) : Int := ((cellsOf k ls).map (pwi l t w h)).sum
end Lib


set_option Elab.async false
set_option linter.all false
set_option maxRecDepth 100000
set_option exponentiation.threshold 2000
namespace Lib
open PySem PySem.Spec PyProof.Rows L2 Dd
/-- the bag of a script's cell: at n, no more than C draws out of it -/
def Bag (st : Store) (n C : Nat) : Prop := ∃ a b c : Int, st[n]? = some (.mu (.lst [.int a, .int b, .int c])) ∧ 0 ≤ c ∧ c ≤ C
theorem Bag.lt {st : Store} {n C : Nat} (h : Bag st n C) : n < st.length := by obtain ⟨a, b, c, e, _⟩ := h; exact (List.getElem?_eq_some_iff.mp e).1
theorem Bag.app {st l : Store} {n C : Nat} (h : Bag st n C) : Bag (st ++ l) n C := by obtain ⟨a, b, c, e, k⟩ := h; exact ⟨a, b, c, get_old e, k⟩
theorem Bag.mono {st : Store} {n C C' : Nat} (h : Bag st n C) (k : C ≤ C') : Bag st n C' := by obtain ⟨a, b, c, e, k1, k2⟩ := h; exact ⟨a, b, c, e, k1, by omega⟩
theorem bag_i (i : Int) (st : Store) : s_z_law_bag [.p (.int i)] st = .ok (.new (.lst [.int (max 0 (i - 1000000000000000000)), .int i, .int 0])) st := by
  unfold s_z_law_bag b_z_law_bag
  simp! [opPow_i (i := 10) (j := 18) (by decide)]
  rw [finishR_mu (o := .lst [.int (max 0 (i - 1000000000000000000)), .int i, .int 0]) get_app0 (Nat.le_refl _), take_app]
theorem pick_ok {st : Store} {n C : Nat} {m : Int} (hb : Bag st n C) (hC : C ≤ 1000000) (h0 : 0 < m) (h1 : m < 2 ^ 200) :
    ∃ v cell, s_z_law_pick [.r n, .p (.int m)] st = .ok (.val (.int v)) (st.set n cell) ∧ 0 ≤ v ∧ v < m ∧ Bag (st.set n cell) n (C + 1) := by
  obtain ⟨a, b, c, e, c0, c1⟩ := hb
  have hn := (List.getElem?_eq_some_iff.mp e).1
  have hs : ∀ x : Cell, (st.set n x)[n]? = some x := fun x => List.getElem?_set_self hn
  have dm : CDivW a m := cdivw h0 (Int.lt_of_lt_of_le h1 (by decide))
  by_cases ha : 0 < a
  · refine ⟨a % m, .mu (.lst [.int (a / m), .int b, .int (c + 1)]), ?_, Int.emod_nonneg _ (by omega), Int.emod_lt_of_pos _ h0, ⟨a / m, b, c + 1, hs _, by omega, by omega⟩⟩
    unfold s_z_law_pick b_z_law_pick
    simp! [e, hs, ha, opMod_i h0, opDiv_i dm, List.set_set]
  · have f1 : 0 < (2147483629 : Int) := by decide
    have x0 := Int.emod_nonneg b (b := 2147483629) (by decide)
    have x1 := Int.emod_lt_of_pos b f1
    have m1 : CMulW (b % 2147483629) 48271 := cmulw (Bt.of (n := 40) (by omega)) (Bt.of (n := 40) (by omega))
    have m2 : CMulW (c + 1) 69621 := cmulw (Bt.of (n := 40) (by omega)) (Bt.of (n := 40) (by omega))
    generalize hf : (b % 2147483629 * 48271 + (c + 1) * 69621 + 12345) % 2147483647 = f
    have f0 : 0 ≤ f := hf ▸ Int.emod_nonneg _ (by decide)
    have f2 : f < 2147483647 := hf ▸ Int.emod_lt_of_pos _ (by decide)
    have m3 : CMulW f f := cmulw (Bt.of (n := 40) (by omega)) (Bt.of (n := 40) (by omega))
    have m4 : CMulW (c + 1) 40692 := cmulw (Bt.of (n := 40) (by omega)) (Bt.of (n := 40) (by omega))
    generalize hg : (f * f + (c + 1) * 40692) % 2147483587 = g
    have g0 : 0 ≤ g := hg ▸ Int.emod_nonneg _ (by decide)
    have g1 : g < 2147483587 := hg ▸ Int.emod_lt_of_pos _ (by decide)
    have m5 : CMulW f 2147483587 := cmulw (Bt.of (n := 40) (by omega)) (Bt.of (n := 40) (by omega))
    generalize hd : (f * 2147483587 + g) / 32 = d
    have d0 : 0 ≤ d ∧ d < 2 ^ 60 := by omega
    have m6 : CPowW d 8 := cpoww (Bt.of (n := 60) (by omega)) (by decide) (by decide)
    refine ⟨(if 1000000000000000 < m then d ^ 8 + g else d) % m, .mu (.lst [.int a, .int b, .int (c + 1)]), ?_, Int.emod_nonneg _ (by omega), Int.emod_lt_of_pos _ h0, ⟨a, b, c + 1, hs _, by omega, by omega⟩⟩
    unfold s_z_law_pick b_z_law_pick
    simp! [e, hs, ha, opMod_i h0, opMul_i m1, opMul_i m2, opMul_i m3, opMul_i m4, opMul_i m5, hf, hg, hd, opDiv_i (cdivw (i := f * 2147483587 + g) (j := 32) (by decide) (by decide)), opPow_i (i := 10) (j := 15) (by decide), opPow_i m6]
    split <;> rfl
/-- a bag's cell -/
def BagC (c : Cell) (C : Nat) : Prop := ∃ a b k : Int, c = .mu (.lst [.int a, .int b, .int k]) ∧ 0 ≤ k ∧ k ≤ C
/-- F draws from the bag at n and answers a value of P -/
def Dr (B : Cell → Nat → Prop) (F : Fn) (xs : Nat → List R) (P : D → Prop) (k : Nat) : Prop := ∀ (st : Store) (n : Nat) (c : Cell) (C : Nat), n < st.length → B c C → C + k ≤ 1000000 → ∃ v c', F (xs n) (st.set n c) = .ok (.val v) (st.set n c') ∧ P v ∧ B c' (C + k)
def DrL (B : Cell → Nat → Prop) (F : Fn) (xs : Nat → List R) (P : List D → Prop) (k : Nat) : Prop := ∀ (st : Store) (n : Nat) (c : Cell) (C : Nat), n < st.length → B c C → C + k ≤ 1000000 → ∃ v c', F (xs n) (st.set n c) = .ok (.new (.lst v)) (st.set n c') ∧ P v ∧ B c' (C + k)
abbrev Draws := Dr BagC
abbrev DrawsL := DrL BagC
theorem Dr.a {BagC : Cell → Nat → Prop} {F : Fn} {xs : Nat → List R} {P : D → Prop} {k : Nat} (h : Dr BagC F xs P k) (l : Store) {st : Store} {n : Nat} {c : Cell} {C : Nat} (hn : n < st.length) (hb : BagC c C) (hC : C + k ≤ 1000000) :
    ∃ v c', F (xs n) (st.set n c ++ l) = .ok (.val v) (st.set n c' ++ l) ∧ P v ∧ BagC c' (C + k) := by
  obtain ⟨v, c', e, p, b⟩ := h (st ++ l) n c C (by rw [List.length_append]; omega) hb hC
  rw [set_old hn, set_old hn] at e
  exact ⟨v, c', e, p, b⟩
theorem DrL.a {BagC : Cell → Nat → Prop} {F : Fn} {xs : Nat → List R} {P : List D → Prop} {k : Nat} (h : DrL BagC F xs P k) (l : Store) {st : Store} {n : Nat} {c : Cell} {C : Nat} (hn : n < st.length) (hb : BagC c C) (hC : C + k ≤ 1000000) :
    ∃ v c', F (xs n) (st.set n c ++ l) = .ok (.new (.lst v)) (st.set n c' ++ l) ∧ P v ∧ BagC c' (C + k) := by
  obtain ⟨v, c', e, p, b⟩ := h (st ++ l) n c C (by rw [List.length_append]; omega) hb hC
  rw [set_old hn, set_old hn] at e
  exact ⟨v, c', e, p, b⟩
theorem Dr.mono {B : Cell → Nat → Prop} {F : Fn} {xs : Nat → List R} {P Q : D → Prop} {k k' : Nat} (h : Dr B F xs P k) (hB : ∀ c n m, n ≤ m → B c n → B c m) (hk : k ≤ k') (hP : ∀ v, P v → Q v) : Dr B F xs Q k' := by
  intro st n c C hn hb hC
  obtain ⟨v, c', e, p, b⟩ := h st n c C hn hb (by omega)
  exact ⟨v, c', e, hP v p, hB _ _ _ (by omega) b⟩
/-- a draw, behind it -/
theorem wp_draw {B : Cell → Nat → Prop} {F : Fn} {xs : Nat → List R} {P : D → Prop} {k : Nat} (h : Dr B F xs P k) {sl : List (Option R)} {st l : Store} {n : Nat} {c : Cell} {C : Nat} {Q : R → Sg → Prop} (hn : n < st.length) (hb : B c C) (hC : C + k ≤ 1000000)
    (q : ∀ v c', P v → B c' (C + k) → Q (.p v) ⟨sl, st.set n c' ++ l⟩) : Wp (applyF ⟨sl, st.set n c ++ l⟩ (F (xs n) (st.set n c ++ l))) Q := by
  obtain ⟨v, c', e, p, b⟩ := h.a l hn hb hC
  rw [e]; exact ⟨_, _, rfl, q v c' p b⟩
theorem wp_draw0 {B : Cell → Nat → Prop} {F : Fn} {xs : Nat → List R} {P : D → Prop} {k : Nat} (h : Dr B F xs P k) {sl : List (Option R)} {st : Store} {n : Nat} {c : Cell} {C : Nat} {Q : R → Sg → Prop} (hn : n < st.length) (hb : B c C) (hC : C + k ≤ 1000000)
    (q : ∀ v c', P v → B c' (C + k) → Q (.p v) ⟨sl, st.set n c'⟩) : Wp (applyF ⟨sl, st.set n c⟩ (F (xs n) (st.set n c))) Q := by
  obtain ⟨v, c', e, p, b⟩ := h st n c C hn hb hC
  rw [e]; exact ⟨_, _, rfl, q v c' p b⟩
theorem wp_drawL {B : Cell → Nat → Prop} {F : Fn} {xs : Nat → List R} {P : List D → Prop} {k : Nat} (h : DrL B F xs P k) {sl : List (Option R)} {st l : Store} {n : Nat} {c : Cell} {C : Nat} {Q : R → Sg → Prop} (hn : n < st.length) (hb : B c C) (hC : C + k ≤ 1000000)
    (q : ∀ v c', P v → B c' (C + k) → Q (.r (st.length + l.length)) ⟨sl, st.set n c' ++ (l ++ [.mu (.lst v)])⟩) : Wp (applyF ⟨sl, st.set n c ++ l⟩ (F (xs n) (st.set n c ++ l))) Q := by
  obtain ⟨v, c', e, p, b⟩ := h.a l hn hb hC
  rw [e]
  refine ⟨_, _, rfl, ?_⟩
  have := q v c' p b
  rw [show (st.set n c' ++ l).length = st.length + l.length by simp, List.append_assoc]
  exact this
theorem wp_drawL0 {B : Cell → Nat → Prop} {F : Fn} {xs : Nat → List R} {P : List D → Prop} {k : Nat} (h : DrL B F xs P k) {sl : List (Option R)} {st : Store} {n : Nat} {c : Cell} {C : Nat} {Q : R → Sg → Prop} (hn : n < st.length) (hb : B c C) (hC : C + k ≤ 1000000)
    (q : ∀ v c', P v → B c' (C + k) → Q (.r st.length) ⟨sl, st.set n c' ++ [.mu (.lst v)]⟩) : Wp (applyF ⟨sl, st.set n c⟩ (F (xs n) (st.set n c))) Q := by
  obtain ⟨v, c', e, p, b⟩ := h st n c C hn hb hC
  rw [e]
  refine ⟨_, _, rfl, ?_⟩
  have := q v c' p b
  rw [show (st.set n c').length = st.length by simp]
  exact this
theorem dr_of {B : Cell → Nat → Prop} {F : Fn} {xs : Nat → List R} {P : D → Prop} {k : Nat} (h : ∀ (st : Store) (n : Nat) (c : Cell) (C : Nat), n < st.length → B c C → C + k ≤ 1000000 → WpF (F (xs n) (st.set n c)) fun a st' => ∃ v c', a = .val v ∧ st' = st.set n c' ∧ P v ∧ B c' (C + k)) : Dr B F xs P k := by
  intro st n c C hn hb hC
  obtain ⟨_, _, e, v, c', rfl, rfl, p, b⟩ := h st n c C hn hb hC
  exact ⟨v, c', e, p, b⟩
theorem drL_of {B : Cell → Nat → Prop} {F : Fn} {xs : Nat → List R} {P : List D → Prop} {k : Nat} (h : ∀ (st : Store) (n : Nat) (c : Cell) (C : Nat), n < st.length → B c C → C + k ≤ 1000000 → WpF (F (xs n) (st.set n c)) fun a st' => ∃ v c', a = .new (.lst v) ∧ st' = st.set n c' ∧ P v ∧ B c' (C + k)) : DrL B F xs P k := by
  intro st n c C hn hb hC
  obtain ⟨_, _, e, v, c', rfl, rfl, p, b⟩ := h st n c C hn hb hC
  exact ⟨v, c', e, p, b⟩
def InR (lo hi : Int) : D → Prop := fun v => ∃ z, v = .int z ∧ lo ≤ z ∧ z < hi
theorem pick_d {m : Int} (h0 : 0 < m) (h1 : m < 2 ^ 200) : Draws s_z_law_pick (fun n => [.r n, .p (.int m)]) (InR 0 m) 1 := by
  intro st n c C hn hb hC
  obtain ⟨a, b, k, rfl, k0, k1⟩ := hb
  obtain ⟨v, cell, e, v0, v1, a', b', k', e', q0, q1⟩ := pick_ok (st := st.set n (.mu (.lst [.int a, .int b, .int k]))) (n := n) (C := C) (m := m) ⟨a, b, k, List.getElem?_set_self hn, k0, k1⟩ (by omega) h0 h1
  rw [List.set_set] at e e'
  rw [List.getElem?_set_self hn] at e'
  cases e'
  exact ⟨_, _, e, ⟨v, rfl, v0, v1⟩, a', b', k', rfl, q0, q1⟩
theorem near_d {p : Int} (h0 : 1 ≤ p) (h1 : p ≤ 2 ^ 50) : Draws s_z_law_near (fun n => [.r n, .p (.int p)]) (InR (-(1000000000000000000000000000000 : Int)) ((1000000000000000000000000000000 : Int) + 1)) 5 := by
  intro st n c C hn hb hC
  obtain ⟨_, c1, e1, ⟨v1, rfl, a1, b1⟩, B1⟩ := pick_d (m := 40) (by decide) (by decide) st n c C hn hb (by omega)
  obtain ⟨_, c2, e2, ⟨v2, rfl, a2, b2⟩, B2⟩ := pick_d (m := 9) (by decide) (by decide) st n c1 _ hn B1 (by omega)
  obtain ⟨_, c3, e3, ⟨v3, rfl, a3, b3⟩, B3⟩ := pick_d (m := 5) (by decide) (by decide) st n c2 _ hn B2 (by omega)
  have m1 : CMulW p (v2 - 4) := cmulw (Bt.of (n := 60) (by omega)) (Bt.of (n := 60) (by omega))
  obtain ⟨_, c4, e4, ⟨v4, rfl, a4, b4⟩, B4⟩ := (pick_d (m := 2000000000000000000000000000001) (by decide) (by decide)).a [.mu (.lst [.int (v1 - 20), .int (p * (v2 - 4) + v3 - 2)])] hn B3 (by omega)
  obtain ⟨_, c5, e5, ⟨v5, rfl, a5, b5⟩, B5⟩ := (pick_d (m := 3) (by decide) (by decide)).a [.mu (.lst [.int (v1 - 20), .int (p * (v2 - 4) + v3 - 2), .int (v4 - (1000000000000000000000000000000 : Int))])] hn B4 (by omega)
  have p30 : CPowW 10 30 := by decide
  have m2 : CMulW 2 1000000000000000000000000000000 := by decide
  have h3 : v5 = 0 ∨ v5 = 1 ∨ v5 = 2 := by omega
  rcases h3 with rfl | rfl | rfl
  · refine ⟨.int (min (1000000000000000000000000000000 : Int) (max (-(1000000000000000000000000000000 : Int)) (v1 - 20))), c5, ?_, ⟨_, rfl, by omega, by omega⟩, B5⟩
    unfold s_z_law_near b_z_law_near
    simp! [e1, e2, e3, opMul_i m1, opPow_i p30, opMul_i m2, e4, e5]
  · refine ⟨.int (min (1000000000000000000000000000000 : Int) (max (-(1000000000000000000000000000000 : Int)) (p * (v2 - 4) + v3 - 2))), c5, ?_, ⟨_, rfl, by omega, by omega⟩, B5⟩
    unfold s_z_law_near b_z_law_near
    simp! [e1, e2, e3, opMul_i m1, opPow_i p30, opMul_i m2, e4, e5]
  · refine ⟨.int (min (1000000000000000000000000000000 : Int) (max (-(1000000000000000000000000000000 : Int)) (v4 - (1000000000000000000000000000000 : Int)))), c5, ?_, ⟨_, rfl, by omega, by omega⟩, B5⟩
    unfold s_z_law_near b_z_law_near
    simp! [e1, e2, e3, opMul_i m1, opPow_i p30, opMul_i m2, e4, e5]
theorem ix2 {a b i : Int} (h0 : 0 ≤ i) (h1 : i < 2) : ∃ z, (∀ S, ixK [.int a, .int b] i S = .ok (.p (.int z)) S) ∧ (z = a ∨ z = b) := by
  have h : i = 0 ∨ i = 1 := by omega
  rcases h with rfl | rfl
  · exact ⟨a, fun S => ixK_0, .inl rfl⟩
  · exact ⟨b, fun S => ixK_1, .inr rfl⟩
theorem ix3 {a b c i : Int} (h0 : 0 ≤ i) (h1 : i < 3) : ∃ z, (∀ S, ixK [.int a, .int b, .int c] i S = .ok (.p (.int z)) S) ∧ (z = a ∨ z = b ∨ z = c) := by
  have h : i = 0 ∨ i = 1 ∨ i = 2 := by omega
  rcases h with rfl | rfl | rfl
  · exact ⟨a, fun S => ixK_0, .inl rfl⟩
  · exact ⟨b, fun S => ixK_1, .inr (.inl rfl)⟩
  · exact ⟨c, fun S => ixK_2, .inr (.inr rfl)⟩
theorem four_bd {d : Nat} (h : d ≤ 50) : 1 ≤ (4 : Int) ^ d ∧ (4 : Int) ^ d ≤ 2 ^ 100 := by
  refine ⟨Int.pow_pos (by decide), ?_⟩
  have : (4 : Nat) ^ d ≤ 4 ^ 50 := Nat.pow_le_pow_right (by decide) h
  exact_mod_cast this
theorem map_erase {l : List Int} {k : Nat} : (l.map D.int).eraseIdx k = (l.eraseIdx k).map D.int := by
  induction l generalizing k with
  | nil => rfl
  | cons a l ih => cases k with
    | zero => rfl
    | succ k => simp only [List.map_cons, List.eraseIdx_cons_succ, ih]
theorem perm_getE : ∀ {l : List Int} {k : Nat} (h : k < l.length), (l[k] :: l.eraseIdx k).Perm l
  | [], k, h => absurd h (by simp)
  | a :: l, 0, h => List.Perm.refl _
  | a :: l, k + 1, h => by
    have h' : k < l.length := by simpa using h
    show (l[k] :: a :: l.eraseIdx k).Perm (a :: l)
    exact (List.Perm.swap _ _ _).trans ((perm_getE h').cons a)
end Lib

set_option Elab.async false
set_option linter.all false
set_option maxRecDepth 100000
namespace Lib
open PySem PySem.Spec PyProof.Rows L2 Dd
def fs (g x y : Int) (s : Nat) (F : Int × Int → Int) : Nat → List Int → Int
  | _, [] => 0
  | c, n :: r => (if n = g then F (pl c x y s) else 0) + fs g x y s F (c + 1) r
def bs (g x y : Int) (s : Nat) (F : Int × Int → Int) : Nat → List Int → Int
  | _, [] => 0
  | c, n :: r => (if n < g then F (pl c x y s) else 0) + bs g x y s F (c + 1) r
theorem nodup4 {l : List Int} (h : l.Perm [0, 1, 2, 3]) : l.Nodup := h.nodup_iff.mpr (by decide)
theorem four_pos (n : Nat) : (0 : Int) < 4 ^ n := Int.pow_pos (by decide)
theorem digit_mod {k : Int} {n j : Nat} (hj : j < n) : (k - k / 4 ^ n * 4 ^ n) / 4 ^ j % 4 = k / 4 ^ j % 4 := by
  obtain ⟨m, rfl⟩ : ∃ m, n = j + (m + 1) := ⟨n - j - 1, by omega⟩
  have e : k / 4 ^ (j + (m + 1)) * 4 ^ (j + (m + 1)) = (4 * (k / 4 ^ (j + (m + 1)) * 4 ^ m)) * 4 ^ j := by
    rw [show (4 : Int) ^ (j + (m + 1)) = 4 ^ j * (4 * 4 ^ m) by rw [Int.pow_add, Int.pow_succ, Int.mul_comm 4]]
    generalize k / (4 ^ j * (4 * 4 ^ m)) = q
    simp only [Int.mul_comm, Int.mul_left_comm]
  rw [e, Int.sub_mul_ediv_right _ _ (Int.ne_of_gt (four_pos j))]
  omega
/-! one bit further -/
def LO (f r : Int) (s : Nat) : Int := (f - 1 - r) / 2 ^ s + 1
theorem two_pos (s : Nat) : (0 : Int) < 2 ^ s := Int.pow_pos (by decide)
end Lib

set_option Elab.async false
set_option linter.all false
set_option maxRecDepth 100000
set_option exponentiation.threshold 2000
namespace Lib
open PySem PySem.Spec PyProof.Rows L2 Dd
def lo (f b : Int) : Int := 0 - (b - f) / 2
def ct (f m b : Int) : Int := (f + m - 1 - b) / 2 - lo f b + 1
theorem slE_ap (f : M R) (l h : M (Option Int)) (S : Sg) : slE f l h S = (f S).bnd fun x S => (l S).bnd fun lo S => (h S).bnd fun hi S => opSl x lo hi S := by unfold slE; simp only [bind_bnd]; rfl
theorem opt0_ap (S : Sg) : opt0 S = .ok none S := Eq.trans rfl rfl
theorem opt1_ci (i : Int) (S : Sg) : opt1 (ci i) S = .ok (some i) S := Eq.trans rfl rfl
theorem d2 (i : Int) : CDivW i 2 := cdivw (by decide) (by decide)
def lvP (ls : List (List Int)) : List PyData := ls.map fun l => .tuple (l.map .int)
theorem toPyL_lv : ∀ ls : List (List Int), toPyL (lvD ls) = some (lvP ls)
  | [] => rfl
  | l :: ls => by
    show toPyL (D.tup (l.map D.int) :: lvD ls) = _
    unfold toPyL
    rw [toPyL_lv ls]
    simp only [toPy, toPyL_ints]
    rfl
theorem canLay_lv : ∀ ls : List (List Int), PyData.canLayAll0 (lvP ls) = true
  | [] => rfl
  | l :: ls => by
    show (PyData.canLayAll0 (l.map PyData.int) && PyData.canLayAll0 (lvP ls)) = true
    rw [canLay_ints, canLay_lv ls]; rfl
theorem depth_lv : ∀ ls : List (List Int), PyData.depthAll (lvP ls) ≤ 1
  | [] => Nat.zero_le _
  | l :: ls => by
    show max (PyData.depthAll (l.map PyData.int) + 1) (PyData.depthAll (lvP ls)) ≤ 1
    rw [depth_ints]
    have := depth_lv ls
    omega
theorem shaped_lv (ls : List (List Int)) : SeqAt.shaped (.list (lvP ls)) = true := by
  show (PyData.canLayAll0 (lvP ls) && decide (PyData.depthAll (lvP ls) + 1 ≤ 64)) = true
  rw [canLay_lv, decide_eq_true (by have := depth_lv ls; omega)]; rfl
end Lib

set_option Elab.async false
set_option linter.all false
set_option maxRecDepth 100000
namespace Lib
open PySem PySem.Spec PyProof.Rows L2 Dd
/-- the count, without ways out ahead of time -/
def rs (F : Int → Int → Int → Int → Int) (g l t w h : Int) : Nat → List Int → Int
  | _, [] => 0
  | c, n :: r => (if n < g then resi l w ((c : Int) % 2) 1 * resi t h ((c : Int) / 2) 1 else 0)
      + (if n = g then F (LO l ((c : Int) % 2) 1) (LO t ((c : Int) / 2) 1) (resi l w ((c : Int) % 2) 1) (resi t h ((c : Int) / 2) 1) else 0) + rs F g l t w h (c + 1) r
/-! the count of parts, of moved windows, of whole periods -/
/-- how many places of a period a cell holds -/
def par (n : Nat) (c : Int × Int × Nat) : Int := 2 ^ (n - c.2.2) * 2 ^ (n - c.2.2)
end Lib

set_option Elab.async false
set_option linter.all false
set_option maxRecDepth 100000
set_option exponentiation.threshold 2000
namespace Lib
open PySem PySem.Spec PyProof.Rows L2 Dd
theorem eqv_str (a b : Str) : PyData.eqv (.str a) (.str b) = decide (a = b) := by
  first | rfl | (show (a == b) = _; exact Bool.eq_iff_iff.mpr (by simp))
theorem period_i (ls : List (List Int)) (h : ls.length ≤ 50) (st : Store) : s_Screen_period [.p (.scr (lvD ls))] st = .ok (.val (.int (2 ^ ls.length))) st := by
  have hl : (lvD ls).length = ls.length := List.length_map ..
  unfold s_Screen_period b_Screen_period
  simp! [hl, opShl_i (cshl1 (j := (ls.length : Int)) (by omega) (by omega)), Int.toNat_natCast, Int.one_mul]
theorem period_p (ls : List (List Int)) (h : ls.length ≤ 50) (S : Sg) : propK 0 s_Screen_period (.p (.scr (lvD ls))) S = .ok (.p (.int (2 ^ ls.length))) S := propK_scr (period_i ls h S.st)
theorem two_bd {d : Nat} (h : d ≤ 50) : 1 ≤ (2 : Int) ^ d ∧ (2 : Int) ^ d ≤ 2 ^ 50 := ⟨two_pos d, pow_bd h⟩
theorem shl_two (n : Nat) : (1 : Int) * 2 ^ ((n : Int)).toNat = 2 ^ n := by rw [Int.one_mul, Int.toNat_natCast]
theorem opSl_scp {l : List D} {lo hi : Option Int} {S : Sg} (h : l.length ≤ 1000) : opSl (.p (.scp l)) lo hi S = .ok (.r S.st.length) ⟨S.sl, S.st ++ [.mu (.lst (Dd.cutD l lo hi))]⟩ := if_pos (Nat.le_trans h (by rw [sizeLine_eq]; decide))
theorem cutD_to {α : Type} {l : List α} {n : Nat} : Dd.cutD l none (some (n : Int)) = l.take n := by
  unfold Dd.cutD HT.sIx
  simp only [List.drop_zero, Nat.sub_zero]
  rw [if_neg (show ¬ ((n : Int) < 0) by omega), Int.toNat_natCast]
  by_cases h : n ≤ l.length
  · rw [Nat.min_eq_left h]
  · rw [Nat.min_eq_right (show l.length ≤ n by omega), List.take_of_length_le (show l.length ≤ n by omega), List.take_of_length_le (show l.length ≤ l.length by omega)]
def catK : Option (List D) → Option (List D) → Sg → Res R
  | some a, some b, S => if a.length + b.length ≤ sizeLine then .ok (.r S.st.length) ⟨S.sl, S.st ++ [.mu (.lst (a ++ b))]⟩ else .bad
  | _, _, _ => .bad
theorem opAdd_rr {n m : Nat} {S : Sg} : opAdd (.r n) (.r m) S = catK (getLK S.st[n]?) (getLK S.st[m]?) S := by
  unfold opAdd
  simp only [asI, getM_r]
  cases getLK S.st[n]? <;> cases getLK S.st[m]? <;> rfl
theorem catK_ap {a b : List D} {S : Sg} (h : a.length + b.length ≤ 1000) : catK (some a) (some b) S = .ok (.r S.st.length) ⟨S.sl, S.st ++ [.mu (.lst (a ++ b))]⟩ := if_pos (Nat.le_trans h (by rw [sizeLine_eq]; decide))
def mulK (j : Int) (S : Sg) : Option (List D) → Res R
  | some l => if -(2 ^ 63) ≤ j ∧ j < 2 ^ 63 ∧ l.length * j.toNat ≤ sizeLine then .ok (.r S.st.length) ⟨S.sl, S.st ++ [.mu (.lst (List.replicate j.toNat l).flatten)]⟩ else .bad
  | none => .bad
theorem opMul_r {n : Nat} {j : Int} {S : Sg} : opMul (.r n) (.p (.int j)) S = mulK j S (getLK S.st[n]?) := by
  unfold opMul
  simp only [asI, getM_r]
  cases getLK S.st[n]? <;> rfl
theorem mulK_2 {l : List D} {S : Sg} (h : l.length ≤ 500) : mulK 2 S (some l) = .ok (.r S.st.length) ⟨S.sl, S.st ++ [.mu (.lst (l ++ l))]⟩ := by
  unfold mulK
  simp only
  rw [if_pos ⟨by decide, by decide, Nat.le_trans (show l.length * (2 : Int).toNat ≤ 1000 by show l.length * 2 ≤ 1000; omega) (by rw [sizeLine_eq]; decide)⟩]
  simp [List.replicate]
end Lib

set_option Elab.async false
set_option linter.all false
set_option maxRecDepth 100000
set_option exponentiation.threshold 2000
namespace Lib
open PySem PySem.Spec PyProof.Rows L2 Dd
/-- the digit of a level at a place -/
def dg (lv : List Int) (x y : Int) : Int := lv.getD (x % 2 + 2 * (y % 2)).toNat 0
def thr : List (List Int) → Int → Int → Int
  | [], _, _ => 0
  | lv :: r, x, y => dg lv x y * 4 ^ r.length + thr r (x / 2) (y / 2)
def Lvs (ls : List (List Int)) : Prop := ∀ l ∈ ls, l.Perm [0, 1, 2, 3]
theorem Lvs.tail {l : List Int} {ls : List (List Int)} (h : Lvs (l :: ls)) : Lvs ls := fun z hz => h z (List.mem_cons_of_mem _ hz)
theorem cellix (x y : Int) : 0 ≤ x % 2 + 2 * (y % 2) ∧ x % 2 + 2 * (y % 2) < 4 := by omega
theorem dg_get {lv : List Int} (h : lv.Perm [0, 1, 2, 3]) (x y : Int) : lv[(x % 2 + 2 * (y % 2)).toNat]? = some (dg lv x y) := by
  have := cellix x y
  have hl : lv.length = 4 := h.length_eq
  unfold dg
  rw [List.getD_eq_getElem?_getD, List.getElem?_eq_getElem (by omega)]
  rfl
theorem dg_bd {lv : List Int} (h : lv.Perm [0, 1, 2, 3]) (x y : Int) : 0 ≤ dg lv x y ∧ dg lv x y < 4 := by
  have hm := h.mem_iff.mp (List.mem_of_getElem? (dg_get h x y))
  simp only [List.mem_cons, List.not_mem_nil, or_false] at hm
  omega
theorem dg_ix {lv : List Int} (h : lv.Perm [0, 1, 2, 3]) (x y : Int) (S : Sg) : ixK (lv.map .int) (x % 2 + 2 * (y % 2)) S = .ok (.p (.int (dg lv x y))) S :=
  ixK_of (atI_of (cellix x y).1 (by rw [List.getElem?_map, dg_get h x y]; rfl))
theorem thr_bd : ∀ {ls : List (List Int)} (x y : Int), Lvs ls → 0 ≤ thr ls x y ∧ thr ls x y < 4 ^ ls.length
  | [], x, y, h => by simp [thr]
  | lv :: r, x, y, h => by
    obtain ⟨a, b⟩ := thr_bd (x / 2) (y / 2) h.tail
    obtain ⟨c, d⟩ := dg_bd (h lv List.mem_cons_self) x y
    unfold thr
    rw [List.length_cons, Int.pow_succ]
    have p := four_pos r.length
    have e : dg lv x y = 0 ∨ dg lv x y = 1 ∨ dg lv x y = 2 ∨ dg lv x y = 3 := by omega
    rcases e with e | e | e | e <;> rw [e] <;> omega
theorem thr_snoc : ∀ (ls : List (List Int)) (lv : List Int) (x y : Int), thr (ls ++ [lv]) x y = 4 * thr ls x y + dg lv (x / 2 ^ ls.length) (y / 2 ^ ls.length)
  | [], lv, x, y => by simp [thr]
  | l :: r, lv, x, y => by
    have ih := thr_snoc r lv (x / 2) (y / 2)
    show dg l x y * 4 ^ (r ++ [lv]).length + thr (r ++ [lv]) (x / 2) (y / 2) = 4 * (dg l x y * 4 ^ r.length + thr r (x / 2) (y / 2)) + _
    have e1 : ∀ z : Int, z / 2 / 2 ^ r.length = z / 2 ^ (l :: r).length := fun z => by
      rw [List.length_cons, Int.pow_succ, Int.mul_comm, Int.ediv_ediv_of_nonneg (by decide)]
    rw [ih, e1, e1, List.length_append, List.length_singleton, Int.pow_succ, ← Int.mul_assoc]
    generalize dg l x y * 4 ^ r.length = A
    omega
theorem thr_take {ls : List (List Int)} {i : Nat} {lv : List Int} (h : ls[i]? = some lv) (x y : Int) : thr (ls.take (i + 1)) x y = 4 * thr (ls.take i) x y + dg lv (x / 2 ^ i) (y / 2 ^ i) := by
  have hi := (List.getElem?_eq_some_iff.mp h).1
  rw [List.take_succ, h]
  show thr (ls.take i ++ [lv]) x y = _
  rw [thr_snoc, List.length_take, Nat.min_eq_left (by omega)]
theorem lvD_get {ls : List (List Int)} {i : Nat} {d : D} (h : (lvD ls)[i]? = some d) : ∃ lv, ls[i]? = some lv ∧ d = .tup (lv.map .int) ∧ lv ∈ ls := by
  unfold lvD at h
  rw [List.getElem?_map] at h
  cases q : ls[i]? with
  | none => rw [q] at h; cases h
  | some lv => rw [q] at h; cases h; exact ⟨lv, rfl, rfl, List.mem_of_getElem? q⟩
theorem lvD_len (ls : List (List Int)) : (lvD ls).length = ls.length := List.length_map ..
theorem fin_eq {r : FRes} {a : FR} {st : Store} (h : WpF r fun a' st' => a' = a ∧ st' = st) : r = .ok a st := by
  obtain ⟨_, _, e, rfl, rfl⟩ := h
  exact e
theorem thr_bt {ls : List (List Int)} (h : Lvs ls) (hl : ls.length ≤ 50) (x y : Int) : Bt 100 (thr ls x y) := by
  obtain ⟨a, b⟩ := thr_bd x y h
  obtain ⟨c, d⟩ := four_bd hl
  have e : ((2 ^ 100 : Nat) : Int) = 2 ^ 100 := rfl
  exact Bt.of ⟨by omega, by omega⟩
theorem Lvs.take {ls : List (List Int)} (h : Lvs ls) (i : Nat) : Lvs (ls.take i) := fun z hz => h z (List.mem_of_mem_take hz)
theorem thr_mul {ls : List (List Int)} (h : Lvs ls) (hl : ls.length ≤ 50) (i : Nat) (x y : Int) : CMulW 4 (thr (ls.take i) x y) :=
  cmulw (n := 3) (Bt.of (by decide)) (thr_bt (h.take i) (by rw [List.length_take]; omega) x y)
theorem two_mul_sm {z : Int} (h0 : 0 ≤ z) (h1 : z < 10) : CMulW 2 z := cmulw (n := 4) (m := 10) (Bt.of (by decide)) (Bt.of (by omega))
/-- the program's threshold -/
theorem threshold_at_i {ls : List (List Int)} (h : Lvs ls) (hl : ls.length ≤ 50) (x y : Int) (st : Store) : s_threshold_at [.p (.scr (lvD ls)), .p (.int x), .p (.int y)] st = .ok (.val (.int (thr ls x y))) st := by
  unfold s_threshold_at b_threshold_at
  simp! []
  refine fin_eq (wp_fin (wp_bnd (wp_loop (I := fun i S => ∃ z w, S = ⟨[some (.p (.scr (lvD ls))), some (.p (.int x)), some (.p (.int y)), some (.p (.int (thr (ls.take i) x y))), z, w], st⟩) ?_ ?_ ?_ ?_)))
  · exact ⟨none, none, rfl⟩
  · rintro j S ⟨z, w, rfl⟩; trivial
  · rintro j d S hj ⟨z, w, rfl⟩
    obtain ⟨d', rfl, hd⟩ := numbered_at hj
    obtain ⟨lv, hlv, rfl, hm⟩ := lvD_get hd
    rw [bind_bnd]
    have e0 : ((0 + j : Nat) : Int) = (j : Int) := by omega
    simp! [e0, opShr_i (i := x) (j := (j : Int)) (by omega), opShr_i (i := y) (j := (j : Int)) (by omega), Int.toNat_natCast, band1, opMul_i (thr_mul h hl j x y), opMul_i (two_mul_sm (z := y / 2 ^ j % 2) (by omega) (by omega)), dg_ix (h lv hm)]
    rw [← thr_take hlv]
    exact wp_ok ⟨_, _, rfl⟩
  · rintro S ⟨z, w, rfl⟩
    rw [numbered_len, lvD_len, List.take_length]
    simp! []
    refine wp_ok ?_
    simp! []
    exact wpf_ok ⟨rfl, rfl⟩
theorem require_coordinate_ok {x : Int} (h0 : -(1000000000000000000000000000000 : Int) ≤ x) (h1 : x ≤ (1000000000000000000000000000000 : Int)) (st : Store) : s_require_coordinate [.p (.int x)] st = .ok (.val .non) st := by
  unfold s_require_coordinate b_require_coordinate
  simp! [is_whole_i, h0, h1]
theorem require_place_ok {x y : Int} (h0 : -(1000000000000000000000000000000 : Int) ≤ x) (h1 : x ≤ (1000000000000000000000000000000 : Int)) (h2 : -(1000000000000000000000000000000 : Int) ≤ y) (h3 : y ≤ (1000000000000000000000000000000 : Int)) (st : Store) : s_require_place [.p (.int x), .p (.int y)] st = .ok (.val .non) st := by
  unfold s_require_place b_require_place
  simp! [require_coordinate_ok h0 h1, require_coordinate_ok h2 h3]
end Lib

set_option Elab.async false
set_option linter.all false
set_option maxRecDepth 100000
set_option exponentiation.threshold 2000
namespace Lib
open PySem PySem.Spec PyProof.Rows L2 Dd
theorem intsFrom_at {a : Int} {n j : Nat} {d : D} (h : (Dd.intsFrom a n)[j]? = some d) : d = .int (a + (j : Int)) ∧ j < n := intsFrom_get h
theorem BagC.mono {c : Cell} {C C' : Nat} (h : BagC c C) (k : C ≤ C') : BagC c C' := by
  obtain ⟨a, b, i, e, h0, h1⟩ := h
  exact ⟨a, b, i, e, h0, by omega⟩
theorem tint {p : Prop} [Decidable p] : (if decide p = true then (1 : Int) else 0) = if p then 1 else 0 := by by_cases h : p <;> simp [h]
theorem small_d {p most : Int} (h0 : 1 ≤ p) (h1 : p ≤ 2 ^ 50) (h2 : 1 ≤ most) (h3 : most ≤ (1000000000000000000000000000000 : Int)) : Draws s_z_law_small (fun n => [.r n, .p (.int p), .p (.int most)]) (fun v => ∃ l t w h, v = winD l t w h ∧ WinOk l t w h ∧ w ≤ most ∧ h ≤ most) 12 := by
  refine dr_of fun st n c C hn hb hC => ?_
  unfold s_z_law_small b_z_law_small
  simp! [bnd_bnd]
  refine wpf_bnd (wp_draw0 (near_d h0 h1) hn hb (by omega) fun v1 c1 ⟨l, e1, a1, b1⟩ B1 => ?_); subst e1
  simp! [bnd_bnd]
  refine wpf_bnd (wp_draw0 (near_d h0 h1) hn B1 (by omega) fun v2 c2 ⟨t, e2, a2, b2⟩ B2 => ?_); subst e2
  simp! [bnd_bnd]
  refine wpf_bnd (wp_draw0 (pick_d (m := most) (by omega) (Int.lt_of_le_of_lt h3 (by decide))) hn B2 (by omega) fun v3 c3 ⟨w, e3, a3, b3⟩ B3 => ?_); subst e3
  simp! [bnd_bnd]
  refine wpf_bnd (wp_draw0 (pick_d (m := most) (by omega) (Int.lt_of_le_of_lt h3 (by decide))) hn B3 (by omega) fun v4 c4 ⟨h, e4, a4, b4⟩ B4 => ?_); subst e4
  simp! [bnd_bnd]
  exact wpf_ok ⟨_, c4, rfl, rfl, ⟨l, t, 1 + w, 1 + h, rfl, ⟨by omega, by omega, by omega, by omega, by omega, by omega, by omega, by omega⟩, by omega, by omega⟩, B4⟩
/-- a draw, the bag the last but l -/
theorem wp_drawE {B : Cell → Nat → Prop} {F : Fn} {xs : Nat → List R} {P : D → Prop} {k : Nat} (h : Dr B F xs P k) {sl : List (Option R)} {X l : Store} {c : Cell} {C : Nat} {Q : R → Sg → Prop} (hb : B c C) (hC : C + k ≤ 1000000)
    (q : ∀ v c', P v → B c' (C + k) → Q (.p v) ⟨sl, X ++ (c' :: l)⟩) : Wp (applyF ⟨sl, X ++ (c :: l)⟩ (F (xs X.length) (X ++ (c :: l)))) Q := by
  have e : ∀ c', X ++ (c' :: l) = (X ++ [c]).set X.length c' ++ l := fun c' => by rw [set_app0]; simp
  rw [e c]
  refine wp_draw h (by simp) hb hC fun v c' p b => ?_
  rw [← e c']
  exact q v c' p b
theorem cutD_6 {ns : List Int} : Dd.cutD (ns.map D.int) none (some 6) = (ns.take 6).map D.int := by rw [List.map_take]; exact cutD_to (n := 6)
theorem bag0 (i : Int) : BagC (.mu (.lst [.int (max 0 (i - 1000000000000000000)), .int i, .int 0])) 0 := ⟨_, _, _, rfl, by decide, by decide⟩
/-- the well-known screen of two levels -/
def four : List (List Int) := [[0, 2, 3, 1], [0, 2, 3, 1]]
theorem sPur_ap (i : Nat) (S : Sg) : sPur i S = (getK S.sl[i]? S).bnd fun x S => (pure1 x S).bnd fun d S => .ok .nx ⟨S.sl.set i (some (.p d)), S.st⟩ := by
  unfold sPur
  rw [bind_bnd, vr_ap]
  refine bnd_ext fun x S1 => ?_
  rw [bind_bnd]
  rfl
end Lib

set_option Elab.async false
set_option linter.all false
set_option maxRecDepth 100000
set_option exponentiation.threshold 2000
namespace Lib
open PySem PySem.Spec PyProof.Rows L2 Dd
/-- where a digit stands in a level -/
def ci4 (lv : List Int) (d : Int) : Nat := (Dd.idxOf lv d).getD 0
theorem idxOf_mem {lv : List Int} {d : Int} (h : d ∈ lv) : ∃ j, Dd.idxOf lv d = some j := by
  cases q : Dd.idxOf lv d with
  | some j => exact ⟨j, rfl⟩
  | none =>
    unfold Dd.idxOf at q
    rw [List.findIdx?_eq_none_iff] at q
    have := q d h
    simp at this
theorem ci4_get {lv : List Int} (hp : lv.Perm [0, 1, 2, 3]) {d : Int} (h0 : 0 ≤ d) (h1 : d < 4) : Dd.idxOf lv d = some (ci4 lv d) ∧ lv[ci4 lv d]? = some d ∧ ci4 lv d < 4 := by
  have hm : d ∈ lv := by
    rw [hp.mem_iff]
    simp only [List.mem_cons, List.not_mem_nil, or_false]
    omega
  obtain ⟨j, hj⟩ := idxOf_mem hm
  have e : ci4 lv d = j := by unfold ci4; rw [hj]; rfl
  rw [e]
  obtain ⟨a, b⟩ := Dd.idxOf_spec hj
  have := (List.getElem?_eq_some_iff.mp a).1
  have hl : lv.length = 4 := hp.length_eq
  exact ⟨hj, a, by omega⟩
theorem opTIdx_i {lv : List Int} (hp : lv.Perm [0, 1, 2, 3]) {d : Int} (h0 : 0 ≤ d) (h1 : d < 4) {S : Sg} : opTIdx (.p (.tup (lv.map .int))) [.p (.int d)] S = .ok (.p (.int (ci4 lv d : Nat))) S := by
  show opIdx (.p (.tup (lv.map .int))) [.p (.int d)] S = _
  unfold opIdx
  simp only [asI1, asI, getL_tup, intsOf_map, (ci4_get hp h0 h1).1]
theorem isTup_t {l : List D} {S : Sg} : isTup (.p (.tup l)) S = true := rfl
section
variable {l t w h : Int}
/-- the place with a threshold -/
def plc : List (List Int) → Int → Int → Int → Nat → Int × Int
  | [], _, x, y, _ => (x, y)
  | lv :: r, k, x, y, s => plc r (k - k / 4 ^ r.length * 4 ^ r.length) (pl (ci4 lv (k / 4 ^ r.length)) x y s).1 (pl (ci4 lv (k / 4 ^ r.length)) x y s).2 (s + 1)
theorem k_parts {k : Int} {n : Nat} (k0 : 0 ≤ k) (k1 : k < 4 ^ (n + 1)) : 0 ≤ k / 4 ^ n ∧ k / 4 ^ n < 4 ∧ 0 ≤ k - k / 4 ^ n * 4 ^ n ∧ k - k / 4 ^ n * 4 ^ n < 4 ^ n := by
  have fp := four_pos n
  refine ⟨Int.ediv_nonneg k0 (Int.le_of_lt fp), Int.ediv_lt_of_lt_mul fp (by rw [Int.pow_succ] at k1; omega), ?_, ?_⟩
  · have := Int.emod_nonneg k (Int.ne_of_gt fp)
    rwa [Int.emod_def, Int.mul_comm] at this
  · have := Int.emod_lt_of_pos k fp
    rwa [Int.emod_def, Int.mul_comm] at this
end
end Lib

set_option Elab.async false
set_option linter.all false
set_option maxRecDepth 100000
set_option exponentiation.threshold 2000
namespace Lib
open PySem PySem.Spec PyProof.Rows L2 Dd
/-- the threshold with a number -/
def IsNth (ls : List (List Int)) (l t w h n T : Int) : Prop := 0 ≤ T ∧ T < 4 ^ ls.length ∧ cnt ls T l t w h ≤ n ∧ n < cnt ls (T + 1) l t w h
open Classical in
noncomputable def nthT (ls : List (List Int)) (l t w h n : Int) : Int := if q : ∃ T, IsNth ls l t w h n T then q.choose else 0
theorem shl_bit {c : Nat} (hc : c < 4) {s : Nat} (hs : s ≤ 100) : CShl ((c : Int) % 2) (s : Int) ∧ CShl ((c : Int) / 2) (s : Int) := ⟨cshl_sm (Bt.of (n := 1000) (by omega)) (by omega) (by omega), cshl_sm (Bt.of (n := 1000) (by omega)) (by omega) (by omega)⟩
theorem shr_one' (c : Nat) (S : Sg) : opShr (.p (.int (c : Int))) (.p (.int 1)) S = .ok (.p (.int ((c : Int) / 2))) S := by
  rw [opShr_i (by decide)]; rfl
end Lib

set_option Elab.async false
set_option linter.all false
set_option maxRecDepth 100000
set_option exponentiation.threshold 2000
namespace Lib
open PySem PySem.Spec PyProof.Rows L2 Dd
theorem shades_i (ls : List (List Int)) (h : ls.length ≤ 50) (st : Store) : s_Screen_shades [.p (.scr (lvD ls))] st = .ok (.val (.int (4 ^ ls.length))) st := by
  unfold s_Screen_shades b_Screen_shades
  simp! [lvD_len, opMul_i (two_len h), opShl_i (cshl1 (j := 2 * (ls.length : Int)) (by omega) (by omega)), shl_four]
theorem shades_p (ls : List (List Int)) (h : ls.length ≤ 50) (S : Sg) : propK 0 s_Screen_shades (.p (.scr (lvD ls))) S = .ok (.p (.int (4 ^ ls.length))) S := propK_scr (shades_i ls h S.st)
theorem depth_i (ls : List (List Int)) (st : Store) : s_Screen_depth [.p (.scr (lvD ls))] st = .ok (.val (.int (ls.length : Nat))) st := by
  unfold s_Screen_depth b_Screen_depth
  simp! [lvD_len]
theorem depth_p (ls : List (List Int)) (S : Sg) : propK 0 s_Screen_depth (.p (.scr (lvD ls))) S = .ok (.p (.int (ls.length : Nat))) S := propK_scr (depth_i ls S.st)
theorem shr_four' (k : Int) (n : Nat) (S : Sg) : opShr (.p (.int k)) (.p (.int (2 * (n : Int)))) S = .ok (.p (.int (k / 4 ^ n))) S := by
  rw [opShr_i (by omega), shr_four]
theorem dg4 (k : Int) : 0 ≤ k % 4 ∧ k % 4 < 4 := by omega
/-- the place with a threshold, told by the digits -/
def plcD : List (List Int) → Int → Int → Int → Nat → Int × Int
  | [], _, x, y, _ => (x, y)
  | lv :: r, k, x, y, s => plcD r k (pl (ci4 lv (k / 4 ^ r.length % 4)) x y s).1 (pl (ci4 lv (k / 4 ^ r.length % 4)) x y s).2 (s + 1)
theorem plcD_congr {k k' : Int} : ∀ {r : List (List Int)} {x y : Int} {s : Nat}, (∀ j, j < r.length → k / 4 ^ j % 4 = k' / 4 ^ j % 4) → plcD r k x y s = plcD r k' x y s
  | [], x, y, s, h => rfl
  | lv :: r, x, y, s, h => by
    simp only [plcD]
    rw [h r.length (by rw [List.length_cons]; omega)]
    exact plcD_congr fun j hj => h j (by rw [List.length_cons]; omega)
theorem plcD_plc : ∀ {ls : List (List Int)} {k x y : Int} {s : Nat}, 0 ≤ k → k < 4 ^ ls.length → plcD ls k x y s = plc ls k x y s
  | [], k, x, y, s, k0, k1 => rfl
  | lv :: r, k, x, y, s, k0, k1 => by
    obtain ⟨g0, g1, m0, m1⟩ := k_parts (n := r.length) k0 (by rwa [List.length_cons] at k1)
    simp only [plcD, plc]
    rw [Int.emod_eq_of_lt g0 g1, ← plcD_plc m0 m1]
    exact plcD_congr fun j hj => (digit_mod hj).symm
theorem plcD_bd : ∀ {ls : List (List Int)} {k x y : Int} {s : Nat}, Lvs ls → 0 ≤ x → x < 2 ^ s → 0 ≤ y → y < 2 ^ s → 0 ≤ (plcD ls k x y s).1 ∧ (plcD ls k x y s).1 < 2 ^ (s + ls.length) ∧ 0 ≤ (plcD ls k x y s).2 ∧ (plcD ls k x y s).2 < 2 ^ (s + ls.length)
  | [], k, x, y, s, hp, x0, x1, y0, y1 => ⟨x0, x1, y0, y1⟩
  | lv :: r, k, x, y, s, hp, x0, x1, y0, y1 => by
    obtain ⟨a, b⟩ := dg4 (k / 4 ^ r.length)
    obtain ⟨a1, a2, a3, a4⟩ := pl_bd (c := ci4 lv (k / 4 ^ r.length % 4)) (s := s) (ci4_get (hp lv List.mem_cons_self) a b).2.2 x0 x1 y0 y1
    have := plcD_bd (ls := r) (k := k) (s := s + 1) hp.tail a1 a2 a3 a4
    simp only [plcD]
    rw [List.length_cons, show s + (r.length + 1) = s + 1 + r.length by omega]
    exact this
theorem place_of_i {ls : List (List Int)} (h50 : ls.length ≤ 50) (hp : Lvs ls) (k : Int) (st : Store) :
    s_place_of [.p (.tup (lvD ls)), .p (.int k)] st = .ok (.val (.tup [.int (plcD ls k 0 0 0).1, .int (plcD ls k 0 0 0).2])) st := by
  unfold s_place_of b_place_of
  simp! [bnd_bnd]
  refine fin_eq (wpf_bnd (wp_loop (I := fun j S => ∃ x y s4 s5 s6 s7, S = ⟨[some (.p (.tup (lvD ls))), some (.p (.int k)), some (.p (.int x)), some (.p (.int y)), s4, s5, s6, s7], st⟩ ∧ plcD ls k 0 0 0 = plcD (ls.drop j) k x y j) ?_ ?_ ?_ ?_))
  · exact ⟨0, 0, none, none, none, none, rfl, rfl⟩
  · intros; trivial
  · rintro j d S hj ⟨x, y, s4, s5, s6, s7, rfl, hm⟩
    obtain ⟨d', rfl, hd⟩ := numbered_at hj
    obtain ⟨lv, hlv, rfl, hmem⟩ := lvD_get hd
    have hpl := hp lv hmem
    have hj' := (List.getElem?_eq_some_iff.mp hlv).1
    have edrop : ls.drop j = lv :: ls.drop (j + 1) := by
      rw [List.drop_eq_getElem_cons hj']
      congr 1
      exact (List.getElem?_eq_some_iff.mp hlv).2
    have e0 : ((0 + j : Nat) : Int) = (j : Int) := by omega
    have er : ((ls.length : Nat) : Int) - 1 - (j : Int) = ((ls.drop (j + 1)).length : Nat) := by rw [List.length_drop]; omega
    obtain ⟨a, b⟩ := dg4 (k / 4 ^ (ls.drop (j + 1)).length)
    obtain ⟨ix1, ix2, ix3⟩ := ci4_get hpl a b
    obtain ⟨sh1, sh2⟩ := shl_bit ix3 (s := j) (by omega)
    rw [bind_bnd]
    simp! [bnd_bnd, e0, lvD_len, er, opMul_i (two_len (n := (ls.drop (j + 1)).length) (by rw [List.length_drop]; omega)), shr_four', band3, isTup_t, opTIdx_i hpl a b, band1, opShl_i sh1, opShl_i sh2, shr_one', Int.toNat_natCast]
    refine wp_ok ⟨_, _, _, _, _, _, rfl, ?_⟩
    rw [hm, edrop]
    simp only [plcD, pl]
  · rintro S ⟨x, y, s4, s5, s6, s7, rfl, hm⟩
    rw [numbered_len, lvD_len, List.drop_length] at hm
    simp! []
    refine wpf_ok ⟨?_, rfl⟩
    rw [hm]; rfl
section
variable {ls : List (List Int)} {l t w h : Int}
/-- the least shade with so many dots -/
noncomputable def lst (ls : List (List Int)) (l t w h n : Int) : Int := if n = 0 then 0 else nthT ls l t w h (n - 1) + 1
end
end Lib

set_option Elab.async false
set_option linter.all false
set_option maxRecDepth 100000
set_option exponentiation.threshold 2000
namespace Lib
open PySem PySem.Spec PyProof.Rows L2 Dd
theorem plc_low : ∀ (r : List (List Int)) (k x y : Int) (s : Nat), ∃ a b : Int, (plc r k x y s).1 = x + a * 2 ^ s ∧ (plc r k x y s).2 = y + b * 2 ^ s
  | [], k, x, y, s => ⟨0, 0, by simp [plc], by simp [plc]⟩
  | lv :: r, k, x, y, s => by
    obtain ⟨a, b, e1, e2⟩ := plc_low r (k - k / 4 ^ r.length * 4 ^ r.length) (pl (ci4 lv (k / 4 ^ r.length)) x y s).1 (pl (ci4 lv (k / 4 ^ r.length)) x y s).2 (s + 1)
    refine ⟨(ci4 lv (k / 4 ^ r.length) : Int) % 2 + 2 * a, (ci4 lv (k / 4 ^ r.length) : Int) / 2 + 2 * b, ?_, ?_⟩
    · simp only [plc]
      rw [e1, Int.pow_succ]
      simp only [pl, Int.add_mul]
      have : a * (2 ^ s * 2) = 2 * a * 2 ^ s := by simp only [Int.mul_assoc, Int.mul_comm, Int.mul_left_comm]
      omega
    · simp only [plc]
      rw [e2, Int.pow_succ]
      simp only [pl, Int.add_mul]
      have : b * (2 ^ s * 2) = 2 * b * 2 ^ s := by simp only [Int.mul_assoc, Int.mul_comm, Int.mul_left_comm]
      omega
theorem div_low {x a : Int} {s : Nat} (h0 : 0 ≤ x) (h1 : x < 2 ^ s) : (x + a * 2 ^ s) / 2 ^ s = a := by
  rw [Int.add_mul_ediv_right _ _ (Int.ne_of_gt (two_pos s)), Int.ediv_eq_zero_of_lt h0 h1, Int.zero_add]
/-- the place of a threshold has it -/
theorem thr_plc : ∀ (r : List (List Int)) (k x y : Int) (s : Nat), Lvs r → 0 ≤ k → k < 4 ^ r.length → 0 ≤ x → x < 2 ^ s → 0 ≤ y → y < 2 ^ s → thr r ((plc r k x y s).1 / 2 ^ s) ((plc r k x y s).2 / 2 ^ s) = k
  | [], k, x, y, s, hp, k0, k1, _, _, _, _ => by
    have : k = 0 := by simp at k1; omega
    subst this; rfl
  | lv :: r, k, x, y, s, hp, k0, k1, x0, x1, y0, y1 => by
    obtain ⟨g0, g1, m0, m1⟩ := k_parts (n := r.length) k0 (by rwa [List.length_cons] at k1)
    have hlv := hp lv List.mem_cons_self
    obtain ⟨ix1, ix2, ix3⟩ := ci4_get hlv g0 g1
    obtain ⟨a1, a2, a3, a4⟩ := pl_bd (c := ci4 lv (k / 4 ^ r.length)) (s := s) ix3 x0 x1 y0 y1
    have ih := thr_plc r (k - k / 4 ^ r.length * 4 ^ r.length) (pl (ci4 lv (k / 4 ^ r.length)) x y s).1 (pl (ci4 lv (k / 4 ^ r.length)) x y s).2 (s + 1) hp.tail m0 m1 a1 a2 a3 a4
    obtain ⟨a, b, e1, e2⟩ := plc_low r (k - k / 4 ^ r.length * 4 ^ r.length) (pl (ci4 lv (k / 4 ^ r.length)) x y s).1 (pl (ci4 lv (k / 4 ^ r.length)) x y s).2 (s + 1)
    rw [e1, e2, div_low a1 a2, div_low a3 a4] at ih
    simp only [plc]
    rw [e1, e2]
    generalize ci4 lv (k / 4 ^ r.length) = c at *
    have f1 : (pl c x y s).1 + a * 2 ^ (s + 1) = x + ((c : Int) % 2 + 2 * a) * 2 ^ s := by
      rw [Int.pow_succ]
      simp only [pl, Int.add_mul]
      have : a * (2 ^ s * 2) = 2 * a * 2 ^ s := by simp only [Int.mul_assoc, Int.mul_comm, Int.mul_left_comm]
      omega
    have f2 : (pl c x y s).2 + b * 2 ^ (s + 1) = y + ((c : Int) / 2 + 2 * b) * 2 ^ s := by
      rw [Int.pow_succ]
      simp only [pl, Int.add_mul]
      have : b * (2 ^ s * 2) = 2 * b * 2 ^ s := by simp only [Int.mul_assoc, Int.mul_comm, Int.mul_left_comm]
      omega
    rw [f1, f2, div_low x0 x1, div_low y0 y1]
    show dg lv _ _ * 4 ^ r.length + thr r (_ / 2) (_ / 2) = k
    have hd : dg lv ((c : Int) % 2 + 2 * a) ((c : Int) / 2 + 2 * b) = k / 4 ^ r.length := by
      unfold dg
      have : ((c : Int) % 2 + 2 * a) % 2 + 2 * (((c : Int) / 2 + 2 * b) % 2) = c := by omega
      rw [this, Int.toNat_natCast, List.getD_eq_getElem?_getD, ix2]; rfl
    rw [hd, show ((c : Int) % 2 + 2 * a) / 2 = a by omega, show ((c : Int) / 2 + 2 * b) / 2 = b by omega, ih]
    omega
/-- whether the square at a place has a dot more -/
def full (ls : List (List Int)) (k : Int) (j : Nat) (x y : Int) : Prop := k % 4 ^ (ls.length - j) ≠ 0 ∧
  thr ls ((plcD (ls.take j) (k / 4 ^ (ls.length - j)) 0 0 0).1 + LO x (plcD (ls.take j) (k / 4 ^ (ls.length - j)) 0 0 0).1 j * 2 ^ j) ((plcD (ls.take j) (k / 4 ^ (ls.length - j)) 0 0 0).2 + LO y (plcD (ls.take j) (k / 4 ^ (ls.length - j)) 0 0 0).2 j * 2 ^ j) < k
instance (ls : List (List Int)) (k : Int) (j : Nat) (x y : Int) : Decidable (full ls k j x y) := inferInstanceAs (Decidable (_ ∧ _))
end Lib

set_option Elab.async false
set_option linter.all false
set_option maxRecDepth 100000
set_option exponentiation.threshold 2000
namespace Lib
open PySem PySem.Spec PyProof.Rows L2 Dd
/-- the other laws' bag -/
def ReelC (c : Cell) (C : Nat) : Prop := ∃ a b k : Int, c = .mu (.lst [.int a, .int b, .int k]) ∧ 0 ≤ b ∧ b < 2 ^ 150 ∧ 0 ≤ k ∧ k ≤ C
theorem ReelC.mono {c : Cell} {C C' : Nat} (h : ReelC c C) (k : C ≤ C') : ReelC c C' := by
  obtain ⟨a, b, i, e, h2, h3, h0, h1⟩ := h
  exact ⟨a, b, i, e, h2, h3, h0, by omega⟩
theorem opNeD_ints {k m : Nat} {S : Sg} {l : List Int} (hk : S.st[k]? = some (.mu (.lst (l.map .int)))) (hm : S.st[m]? = some (.mu (.lst []))) : opNeD (.r k) (.r m) S = .ok (.p (.bl (!decide (l = [])))) S := by
  rw [opNeD_of (d := .list (l.map .int)) (e := .list ([].map PyData.int)) (by rw [dataR_r, hk, dataK_ints]) (by rw [dataR_r, hm]; rfl) (shaped_li _) (shaped_li _)]
  show Res.ok (R.p (.bl (!PyData.eqvAll (l.map PyData.int) ([].map PyData.int)))) S = _
  rw [eqvAll_ints]
end Lib

set_option Elab.async false
set_option linter.all false
set_option maxRecDepth 100000
set_option exponentiation.threshold 2000
namespace Lib
open PySem PySem.Spec PyProof.Rows L2 Dd
def isNK : R → Sg → Res R := fun x S => match x with
  | .p .non => .ok (.p (.bl true)) S
  | _ => .ok (.p (.bl false)) S
def notNK : R → Sg → Res R := fun x S => match x with
  | .p .non => .ok (.p (.bl false)) S
  | _ => .ok (.p (.bl true)) S
theorem isN_ap (f : M R) (S : Sg) : isN f S = (f S).bnd isNK := by unfold isN; rw [bind_bnd]; rfl
theorem notN_ap (f : M R) (S : Sg) : notN f S = (f S).bnd notNK := by unfold notN; rw [bind_bnd]; rfl
section
variable {S : Sg}
theorem isNK_n : isNK (.p .non) S = .ok (.p (.bl true)) S := Eq.trans rfl rfl
theorem notNK_n : notNK (.p .non) S = .ok (.p (.bl false)) S := Eq.trans rfl rfl
theorem opNeD_b {a b : Bool} : opNeD (.p (.bl a)) (.p (.bl b)) S = .ok (.p (.bl (!decide (a = b)))) S := by
  rw [opNeD_of (d := .bool a) (e := .bool b) rfl rfl rfl rfl]
  cases a <;> cases b <;> rfl
end
section
variable {ls : List (List Int)} {l t w h : Int}
end
end Lib

set_option Elab.async false
set_option linter.all false
set_option maxRecDepth 100000
set_option exponentiation.threshold 2000
namespace Lib
open PySem PySem.Spec PyProof.Rows L2 Dd
section
variable {ls : List (List Int)} {k : Int} {j : Nat}
theorem lvD_take (ls : List (List Int)) (j : Nat) : (lvD ls).take j = lvD (ls.take j) := by unfold lvD; rw [List.map_take]
def opt1K : R → Sg → Res (Option Int) := fun x S => match asI x with
  | some i => .ok (some i) S
  | none => .bad
theorem opt1_ap (f : M R) (S : Sg) : opt1 f S = (f S).bnd opt1K := by unfold opt1; rw [bind_bnd]; rfl
theorem opt1K_i {i : Int} {S : Sg} : opt1K (.p (.int i)) S = .ok (some i) S := Eq.trans rfl rfl
end
/-! comprehensions with a test -/
def lcbK (own : List Nat) (f : M R) (b : Bool) (S : Sg) : Res (Option D) := if b = true then (f S).bnd fun x S => (pure1 x S).bnd fun y S => .ok (some y) (wipeS S own) else .ok none (wipeS S own)
theorem lcbK_t {own : List Nat} {f : M R} {S : Sg} : lcbK own f true S = (f S).bnd fun x S => (pure1 x S).bnd fun y S => .ok (some y) (wipeS S own) := Eq.trans rfl rfl
theorem lcbK_f {own : List Nat} {f : M R} {S : Sg} : lcbK own f false S = .ok none (wipeS S own) := Eq.trans rfl rfl
theorem lcB_body (own : List Nat) (tt : M Bool) (f : M R) (S : Sg) : (do
      let b ← tt
      if b = true then do
        let x ← f
        let y ← pure1 x
        fun S => .ok (some y) (wipeS S own)
      else fun S => .ok none (wipeS S own) : M (Option D)) S = (tt S).bnd (lcbK own f) := by
  rw [bind_bnd]
  refine bnd_ext fun b S1 => ?_
  cases b with
  | false => rfl
  | true =>
    show (f >>= fun x => pure1 x >>= fun y => fun S => .ok (some y) (wipeS S own)) S1 = _
    rw [bind_bnd]
    rfl
theorem lcB1_t {own : List Nat} {k : Nat} {tt : M Bool} {f : M R} {x : D} {S : Sg} : lcB own [k] unp1 tt f x S = (tt ⟨S.sl.set k (some (.p x)), S.st⟩).bnd (lcbK own f) := by
  exact lcB_body own tt f ⟨S.sl.set k (some (.p x)), S.st⟩
end Lib

set_option Elab.async false
set_option linter.all false
set_option maxRecDepth 100000
set_option exponentiation.threshold 2000
namespace Lib
open PySem PySem.Spec PyProof.Rows L2 Dd
/-- the thresholds of a row, of rows -/
def rowT (ls : List (List Int)) (y : Int) : Int → Nat → List Int
  | _, 0 => []
  | l, n + 1 => thr ls l y :: rowT ls y (l + 1) n
def listed (ls : List (List Int)) (l t : Int) (w : Nat) : Nat → List Int
  | 0 => []
  | n + 1 => listed ls l t w n ++ rowT ls (t + (n : Int)) l w
theorem opAdd_pr {a : List D} {m : Nat} {S : Sg} : opAdd (.p (.lst a)) (.r m) S = catK (some a) (getLK S.st[m]?) S := by
  unfold opAdd
  simp only [asI, getM_r, getM_lst]
  cases getLK S.st[m]? <;> rfl
end Lib

set_option Elab.async false
set_option linter.all false
set_option maxRecDepth 100000
set_option exponentiation.threshold 2000
namespace Lib
open PySem PySem.Spec PyProof.Rows L2 Dd
section
variable {ls : List (List Int)} {l t W H : Int}
end
end Lib

set_option Elab.async false
set_option linter.all false
set_option maxRecDepth 100000
set_option exponentiation.threshold 2000
namespace Lib
open PySem PySem.Spec PyProof.Rows L2 Dd
/-! texts of data of ints, truths and nothing -/
mutual
def sml : PyData → Bool
  | .none => true
  | .bool _ => true
  | .int i => decide (i.natAbs.log2 < 250)
  | .list xs => smlAll xs
  | .tuple xs => smlAll xs
  | .str _ => false
  | .dict _ => false
def smlAll : List PyData → Bool
  | [] => true
  | x :: xs => sml x && smlAll xs
end
mutual
theorem sml_showable : ∀ d : PyData, sml d = true → d.showable = true
  | .none, _ => by simp only [PyData.showable]
  | .bool _, _ => by simp only [PyData.showable]
  | .int i, h => by
    simp only [sml, decide_eq_true_eq] at h
    simp only [PyData.showable, decide_eq_true_eq]; omega
  | .list xs, h => by simp only [PyData.showable]; exact sml_showableAll xs (by simpa only [sml] using h)
  | .tuple xs, h => by simp only [PyData.showable]; exact sml_showableAll xs (by simpa only [sml] using h)
  | .str _, h => by simp [sml] at h
  | .dict _, h => by simp [sml] at h
theorem sml_showableAll : ∀ xs : List PyData, smlAll xs = true → PyData.showableAll xs = true
  | [], _ => by simp only [PyData.showableAll]
  | x :: xs, h => by
    have h' : sml x = true ∧ smlAll xs = true := by simpa only [smlAll, Bool.and_eq_true] using h
    simp only [PyData.showableAll, sml_showable x h'.1, sml_showableAll xs h'.2, Bool.and_self]
end
mutual
theorem sml_noDict : ∀ d : PyData, sml d = true → d.hasDict = false
  | .none, _ => by simp only [PyData.hasDict]
  | .bool _, _ => by simp only [PyData.hasDict]
  | .int i, h => by simp only [PyData.hasDict]
  | .list xs, h => by simp only [PyData.hasDict]; exact sml_noDictAll xs (by simpa only [sml] using h)
  | .tuple xs, h => by simp only [PyData.hasDict]; exact sml_noDictAll xs (by simpa only [sml] using h)
  | .str _, h => by simp [sml] at h
  | .dict _, h => by simp [sml] at h
theorem sml_noDictAll : ∀ xs : List PyData, smlAll xs = true → PyData.hasDictAll xs = false
  | [], _ => by simp only [PyData.hasDictAll]
  | x :: xs, h => by
    have h' : sml x = true ∧ smlAll xs = true := by simpa only [smlAll, Bool.and_eq_true] using h
    simp only [PyData.hasDictAll, sml_noDict x h'.1, sml_noDictAll xs h'.2, Bool.or_self]
end
theorem str_len (s : String) : (Str.ofString s).length = s.length := by
  show (Str.ofString s).cps.size = _
  have h := congrArg List.length (signs_ofString s)
  rw [List.length_map, String.length_toList] at h
  simpa using h
mutual
theorem sml_short : ∀ d : PyData, sml d = true → d.leavesShort 260 = true
  | .none, _ => by simp only [PyData.leavesShort]
  | .bool _, _ => by simp only [PyData.leavesShort]
  | .int i, h => by
    simp only [sml, decide_eq_true_eq] at h
    simp only [PyData.leavesShort, decide_eq_true_eq, PyData.shown_int]
    have := int_text_length_le (a := i) (k := 250) (by decide) h
    have e := str_len (toString i)
    have e' : ((toString i : String) : Str).length = (toString i).length := e
    omega
  | .list xs, h => by simp only [PyData.leavesShort]; exact sml_shortAll xs (by simpa only [sml] using h)
  | .tuple xs, h => by simp only [PyData.leavesShort]; exact sml_shortAll xs (by simpa only [sml] using h)
  | .str _, h => by simp [sml] at h
  | .dict _, h => by simp [sml] at h
theorem sml_shortAll : ∀ xs : List PyData, smlAll xs = true → PyData.leavesShortAll 260 xs = true
  | [], _ => by simp only [PyData.leavesShortAll]
  | x :: xs, h => by
    have h' : sml x = true ∧ smlAll xs = true := by simpa only [smlAll, Bool.and_eq_true] using h
    simp only [PyData.leavesShortAll, sml_short x h'.1, sml_shortAll xs h'.2, Bool.and_self]
end
mutual
theorem sml_free {k : Nat} (hk : 128 ≤ k) : ∀ d : PyData, sml d = true → k ∉ d.shown.cps.toList
  | .none, _ => by
    rw [PyData.shown_none]
    have e : (("None" : String) : Str).cps.toList = [78, 111, 110, 101] := by decide
    rw [e]; intro hm; simp only [List.mem_cons, List.not_mem_nil, or_false] at hm
    omega
  | .bool b, _ => by
    rw [PyData.shown_bool]
    cases b
    · show k ∉ (Str.ofString "False").cps.toList
      have e : (Str.ofString "False").cps.toList = [70, 97, 108, 115, 101] := by decide
      rw [e]; intro hm; simp only [List.mem_cons, List.not_mem_nil, or_false] at hm
      omega
    · show k ∉ (Str.ofString "True").cps.toList
      have e : (Str.ofString "True").cps.toList = [84, 114, 117, 101] := by decide
      rw [e]; intro hm; simp only [List.mem_cons, List.not_mem_nil, or_false] at hm
      omega
  | .int i, h => shown_int_free' ⟨by omega, by omega⟩ i
  | .list xs, h => by
    rw [PyData.shown_list, mem_cps_append, mem_cps_append, signs_lbrack, signs_rbrack, mem_join, signs_sep]
    have := sml_freeAll hk xs (by simpa only [sml] using h)
    rintro ((hm | (⟨t, ht, hc⟩ | ⟨_, hm⟩)) | hm)
    · simp only [List.mem_cons, List.not_mem_nil, or_false] at hm; omega
    · exact this t ht hc
    · simp only [List.mem_cons, List.not_mem_nil, or_false] at hm; omega
    · simp only [List.mem_cons, List.not_mem_nil, or_false] at hm; omega
  | .tuple xs, h => by
    rw [PyData.shown_tuple, mem_cps_append, mem_cps_append, signs_lparen, mem_join, signs_sep]
    have := sml_freeAll hk xs (by simpa only [sml] using h)
    rintro ((hm | (⟨t, ht, hc⟩ | ⟨_, hm⟩)) | hm)
    · simp only [List.mem_cons, List.not_mem_nil, or_false] at hm; omega
    · exact this t ht hc
    · simp only [List.mem_cons, List.not_mem_nil, or_false] at hm; omega
    · split at hm
      · have e : ((",)" : String) : Str).cps.toList = [44, 41] := by decide
        rw [e] at hm
        simp only [List.mem_cons, List.not_mem_nil, or_false] at hm; omega
      · have e : ((")" : String) : Str).cps.toList = [41] := by decide
        rw [e] at hm
        simp only [List.mem_cons, List.not_mem_nil, or_false] at hm; omega
  | .str _, h => by simp [sml] at h
  | .dict _, h => by simp [sml] at h
theorem sml_freeAll {k : Nat} (hk : 128 ≤ k) : ∀ xs : List PyData, smlAll xs = true → ∀ t ∈ PyData.shownAll xs, k ∉ t.cps.toList
  | [], _ => by intro t ht; rw [PyData.shownAll_nil] at ht; cases ht
  | x :: xs, h => by
    have h' : sml x = true ∧ smlAll xs = true := by simpa only [smlAll, Bool.and_eq_true] using h
    intro t ht
    rw [PyData.shownAll_cons, List.mem_cons] at ht
    rcases ht with e | ht
    · rw [e]; exact sml_free hk x h'.1
    · exact sml_freeAll hk xs h'.2 t ht
end
theorem sml_strOk {d : PyData} (h : sml d = true) : PyData.strOk d.shown = true := by
  unfold PyData.strOk
  rw [← Array.all_toList, List.all_eq_true]
  intro c hc
  have : c < 128 := by
    apply Classical.byContradiction
    intro hn
    exact sml_free (k := c) (by omega) d h hc
  simp only [decide_eq_true_eq]
  omega
theorem opNeD_t {a b : Str} {S : Sg} (ha : PyData.strOk a = true) (hb : PyData.strOk b = true) : opNeD (.p (.str a)) (.p (.str b)) S = .ok (.p (.bl (!decide (a = b)))) S := by
  have sh : ∀ {a : Str}, PyData.strOk a = true → SeqAt.shaped (.str a) = true := fun {a} h => by
    show (PyData.strOk a && decide (0 ≤ 64)) = true
    rw [h]; rfl
  rw [opNeD_of (d := .str a) (e := .str b) rfl rfl (sh ha) (sh hb), eqv_str]
/-- the text of data, as one word -/
def Sml (d : PyData) : Prop := sml d = true ∧ d.depth ≤ 64 ∧ d.weight ≤ 50000
theorem opRepr_t {x : R} {d : PyData} {S : Sg} (hx : dataR x S = some d) (h : Sml d) : opRepr x S = .ok (.p (.str d.shown)) S := by
  obtain ⟨h1, h2, h3⟩ := h
  have ln : d.shown.length ≤ sizeLine := by
    have := PyData.shown_le 260 (by decide) d (sml_short d h1)
    rw [sizeLine_eq]; omega
  unfold opRepr
  rw [hx]
  cases d with
  | int i =>
    simp only [sml, decide_eq_true_eq] at h1
    simp only
    rw [if_pos (by omega), PyData.shown_int]
  | list xs => exact if_pos ⟨sml_showable _ h1, sml_noDict _ h1, h2, ln⟩
  | tuple xs => exact if_pos ⟨sml_showable _ h1, sml_noDict _ h1, h2, ln⟩
  | bool b => simp only [PyData.shown_bool]
  | none => simp only [PyData.shown_none]
  | str z => simp [sml] at h1
  | dict z => simp [sml] at h1
theorem smlAll_ints : ∀ {ns : List Int}, (∀ n ∈ ns, Bt 240 n) → smlAll (ns.map .int) = true
  | [], _ => rfl
  | n :: ns, h => by
    have := (h n List.mem_cons_self).log2
    show (sml (.int n) && smlAll (ns.map .int)) = true
    rw [smlAll_ints fun m hm => h m (List.mem_cons_of_mem _ hm)]
    simp only [sml, Bool.and_true, decide_eq_true_eq]; omega
theorem weight_ints : ∀ {ns : List Int}, (∀ n ∈ ns, Bt 240 n) → PyData.weightAll (ns.map .int) ≤ 242 * ns.length
  | [], _ => Nat.zero_le _
  | n :: ns, h => by
    have := (h n List.mem_cons_self).log2
    have ih := weight_ints fun m hm => h m (List.mem_cons_of_mem n hm)
    show PyData.weight (.int n) + 1 + PyData.weightAll (ns.map .int) ≤ _
    have e : PyData.weight (.int n) ≤ 241 := by
      simp only [PyData.weight]; split <;> omega
    rw [List.length_cons]; omega
theorem depth_ints : ∀ {ns : List Int}, PyData.depthAll (ns.map .int) = 0
  | [] => rfl
  | n :: ns => by
    show max (PyData.depth (.int n)) (PyData.depthAll (ns.map .int)) = 0
    rw [depth_ints]; rfl
theorem Sml.ints {ns : List Int} (h : ∀ n ∈ ns, Bt 240 n) (hl : ns.length ≤ 200) : Sml (.list (ns.map .int)) := by
  refine ⟨by simpa only [sml] using smlAll_ints h, ?_, ?_⟩
  · simp only [PyData.depth, depth_ints]; omega
  · have := weight_ints h
    simp only [PyData.weight]; omega
theorem Sml.tint {ns : List Int} (h : ∀ n ∈ ns, Bt 240 n) (hl : ns.length ≤ 200) : Sml (.tuple (ns.map .int)) := by
  refine ⟨by simpa only [sml] using smlAll_ints h, ?_, ?_⟩
  · simp only [PyData.depth, depth_ints]; omega
  · have := weight_ints h
    simp only [PyData.weight]; omega
theorem Sml.int {n : Int} (h : Bt 240 n) : Sml (.int n) := by
  have := h.log2
  refine ⟨by simp only [sml, decide_eq_true_eq]; omega, by simp only [PyData.depth]; omega, ?_⟩
  simp only [PyData.weight]; split <;> omega
theorem Sml.none : Sml .none := ⟨rfl, by simp only [PyData.depth]; omega, by simp only [PyData.weight]; omega⟩
theorem Sml.bool {b : Bool} : Sml (.bool b) := ⟨rfl, by simp only [PyData.depth]; omega, by simp only [PyData.weight]; omega⟩
end Lib

set_option Elab.async false
set_option linter.all false
set_option maxRecDepth 100000
set_option exponentiation.threshold 2000
namespace Lib
open PySem PySem.Spec PyProof.Rows L2 Dd
/-! thresholds in ascending sequence -/
section
variable {ls : List (List Int)} {l t : Int} {w h : Nat}
end
/-! the texts of lists, the places of lists -/
theorem opRepr_t2 {a b : Int} {S : Sg} (ha : Bt 240 a) (hb : Bt 240 b) : opRepr (.p (.tup [.int a, .int b])) S = .ok (.p (.str (PyData.tuple [.int a, .int b]).shown)) S :=
  opRepr_t (by rw [dataR_p]; rfl) (Sml.tint (ns := [a, b]) (fun n hn => by
    simp only [List.mem_cons, List.not_mem_nil, or_false] at hn
    rcases hn with rfl | rfl <;> assumption) (by simp))
end Lib

set_option Elab.async false
set_option linter.all false
set_option maxRecDepth 100000
set_option exponentiation.threshold 2000
namespace Lib
open PySem PySem.Spec PyProof.Rows L2 Dd
section
variable {ls : List (List Int)} {l t w h j : Int}
end
end Lib

set_option Elab.async false
set_option linter.all false
set_option maxRecDepth 100000
set_option exponentiation.threshold 2000
namespace Lib
open PySem PySem.Spec PyProof.Rows L2 Dd
theorem thr4_i {ls : List (List Int)} (h : Lvs ls) (hl : ls.length ≤ 50) (x y : Int) (st : Store) : s_z_law_threshold_v1 [.p (.lst (lvD ls)), .p (.int x), .p (.int y)] st = .ok (.val (.int (thr ls x y))) st := by
  unfold s_z_law_threshold_v1 b_z_law_threshold_v1
  simp! []
  refine fin_eq (wp_fin (wp_bnd (wp_loop (I := fun i S => ∃ z w, S = ⟨[some (.p (.lst (lvD ls))), some (.p (.int x)), some (.p (.int y)), some (.p (.int (thr (ls.take i) x y))), z, w], st⟩) ?_ ?_ ?_ ?_)))
  · exact ⟨none, none, rfl⟩
  · rintro j S ⟨z, w, rfl⟩; trivial
  · rintro j d S hj ⟨z, w, rfl⟩
    obtain ⟨d', rfl, hd⟩ := numbered_at hj
    obtain ⟨lv, hlv, rfl, hm⟩ := lvD_get hd
    rw [bind_bnd]
    have e0 : ((0 + j : Nat) : Int) = (j : Int) := by omega
    simp! [e0, opShr_i (i := x) (j := (j : Int)) (by omega), opShr_i (i := y) (j := (j : Int)) (by omega), Int.toNat_natCast, band1, opMul_i (thr_mul h hl j x y), opMul_i (two_mul_sm (z := y / 2 ^ j % 2) (by omega) (by omega)), dg_ix (h lv hm)]
    rw [← thr_take hlv]
    exact wp_ok ⟨_, _, rfl⟩
  · rintro S ⟨z, w, rfl⟩
    rw [numbered_len, lvD_len, List.take_length]
    simp! []
    refine wp_ok ?_
    simp! []
    exact wpf_ok ⟨rfl, rfl⟩
theorem opNeD_rr0 {i k : Nat} {S : Sg} {l : List Int} (hk : S.st[i]? = some (.mu (.lst (l.map .int)))) (hm : S.st[k]? = some (.mu (.lst []))) : opNeD (.r i) (.r k) S = .ok (.p (.bl (!decide (l = [])))) S := opNeD_ints hk hm
/-- one level, drawn in place -/
theorem levels1_d {most : Int} (h0 : 0 < most) (h1 : most ≤ 50) : DrawsL s_z_law_levels_v1 (fun n => [.r n, .p (.int most)]) (fun v => ∃ ls, v = lvD ls ∧ LvOk ls ∧ (ls.length : Int) ≤ most) 250 := by
  apply drL_of
  intro st n c C hn hb hC
  unfold s_z_law_levels_v1 b_z_law_levels_v1
  simp! [bnd_bnd]
  refine wpf_bnd (wp_draw (pick_d (m := most) h0 (by omega)) hn hb (by omega) fun v2 c2 ⟨v, e2, a2, b2⟩ B2 => ?_)
  subst e2
  obtain ⟨d, hd⟩ : ∃ d : Nat, 1 + v = (d : Int) := ⟨(1 + v).toNat, by omega⟩
  simp! [bnd_bnd, hd, rngK1_n (show d ≤ 1000000 by omega)]
  refine wpf_bnd (wp_loop (I := fun i S => ∃ (c' : Cell) (ls : List (List Int)) (rest : Store) (s3 s4 s5 : Option R), S = ⟨[some (.r n), some (.p (.int most)), some (.r st.length), s3, s4, s5], st.set n c' ++ (.mu (.lst (lvD ls)) :: rest)⟩ ∧ ls.length = i ∧ Lvs ls ∧ i ≤ d ∧ BagC c' (C + 1 + 4 * i)) ?_ ?_ ?_ ?_)
  · exact ⟨c2, [], [], none, none, none, rfl, rfl, fun _ h => by simp at h, Nat.zero_le _, B2⟩
  · intros; trivial
  · rintro j q S hj ⟨c', ls, rest, s3, s4, s5, rfl, hl, hp, hi, B⟩
    obtain ⟨rfl, hj'⟩ := intsFrom_at hj
    rw [bind_bnd]
    simp! [bnd_bnd]
    refine wp_bnd (wp_while (I := fun m S => ∃ (c' : Cell) (left lev : List Int) (rest2 : Store), S = ⟨[some (.r n), some (.p (.int most)), some (.r st.length), some (.p (.int (0 + (j : Int)))), some (.r (st.length + (rest.length + 1))), some (.r (st.length + (rest.length + 1 + 1)))], st.set n c' ++ (.mu (.lst (lvD ls)) :: (rest ++ (.mu (.lst (left.map .int)) :: .mu (.lst (lev.map .int)) :: rest2)))⟩ ∧ left.length = m ∧ lev.length = 4 - m ∧ (lev ++ left).Perm [0, 1, 2, 3] ∧ BagC c' (C + 1 + 4 * j + lev.length)) 4 ?_ ?_)
    · exact ⟨c', [0, 1, 2, 3], [], [], by simp, rfl, rfl, List.Perm.refl _, B⟩
    · rintro m S ⟨c', left, lev, rest2, rfl, hm, hlen, hp2, B⟩
      have ne := fun (i k : Nat) (S : Sg) (h1 : S.st[i]? = some (.mu (.lst (left.map .int)))) (h2 : S.st[k]? = some (.mu (.lst []))) => opNeD_rr0 h1 h2
      simp! [bnd_bnd]
      rw [ne]
      rotate_left
      · show (List.set st n c' ++ _)[_]? = _
        rw [get_set_app]; simp
      · show (List.set st n c' ++ _)[_]? = _
        rw [get_set_app]; simp
      cases left with
      | nil =>
        simp! []
        refine wp_ok ?_
        rw [if_neg (by decide)]
        have h4 : lev.length = 4 := by simp at hm; omega
        rw [h4] at B
        rw [List.append_nil] at hp2
        simp! [bnd_bnd, appK_ap (show (lvD ls).length < 1000000 by rw [lvD_len]; omega)]
        rw [show lvD ls ++ [D.tup (lev.map D.int)] = lvD (ls ++ [lev]) by unfold lvD; rw [List.map_append]; rfl]
        refine wp_ok ⟨c', ls ++ [lev], rest ++ (.mu (.lst []) :: .mu (.lst (lev.map .int)) :: (rest2 ++ [.mu (.lst [])])), _, _, _, rfl, ?_, ?_, hj', BagC.mono B (by omega)⟩
        · rw [List.length_append, hl]; rfl
        · intro z hz
          rcases List.mem_append.mp hz with hz | hz
          · exact hp z hz
          · rw [List.mem_singleton.mp hz]; exact hp2
      | cons z left =>
        simp! [List.cons_ne_nil]
        refine wp_ok ?_
        rw [if_pos rfl]
        simp! [bnd_bnd, List.length_map]
        have hm' : left.length + 1 = m := by simpa using hm
        have hl5 : left.length + 1 ≤ 4 := by
          have := hp2.length_eq
          simp at this
          omega
        refine wp_bnd (wp_draw (pick_d (m := ((left.length + 1 : Nat) : Int)) (by omega) (Int.lt_of_le_of_lt (show ((left.length + 1 : Nat) : Int) ≤ 4 by omega) (by decide))) hn B (by omega) fun v2 c2 ⟨v, e2, a2, b2⟩ B2 => ?_)
        subst e2
        have hk : v.toNat < (z :: left).length := by rw [List.length_cons]; omega
        have hd : (D.int z :: left.map D.int)[v.toNat]? = some (.int (z :: left)[v.toNat]) := by
          show ((z :: left).map D.int)[v.toNat]? = _
          rw [List.getElem?_map, List.getElem?_eq_getElem hk]; rfl
        simp! [bnd_bnd, popC_of a2 hd (show (D.int z :: left.map D.int).length < 1000000 by rw [List.length_cons, List.length_map]; omega), appK_ap (show (lev.map D.int).length < 1000000 by rw [List.length_map]; omega)]
        refine wp_ok ⟨left.length, by simp at hm; omega, c2, (z :: left).eraseIdx v.toNat, lev ++ [(z :: left)[v.toNat]], rest2 ++ [.mu (.lst [])], ?_, ?_, ?_, ?_, ?_⟩
        · rw [List.map_append]
          show _ = (⟨_, st.set n c2 ++ (.mu (.lst (lvD ls)) :: (rest ++ (.mu (.lst (((z :: left).eraseIdx v.toNat).map D.int)) :: _)))⟩ : Sg)
          rw [← map_erase]; rfl
        · rw [List.length_eraseIdx_of_lt hk]; rfl
        · rw [List.length_append]; simp at hm ⊢; omega
        · refine List.Perm.trans ?_ hp2
          rw [List.append_assoc]
          exact (perm_getE hk).append_left lev
        · rw [List.length_append]; exact B2
  · rintro S ⟨c', ls, rest, s3, s4, s5, rfl, hl, hp, hi, B⟩
    rw [Dd.intsFrom_length] at hl B
    simp! []
    rw [finishR_mu (o := .lst (lvD ls)) (by show (List.set st n c' ++ _)[_]? = _; rw [get_set_app0]; rfl) (Nat.le_refl _), take_set_app]
    exact wpf_ok ⟨_, c', rfl, rfl, ⟨ls, rfl, ⟨by omega, by omega, hp⟩, by omega⟩, BagC.mono B (by omega)⟩
end Lib

set_option Elab.async false
set_option linter.all false
set_option maxRecDepth 100000
set_option exponentiation.threshold 2000
namespace Lib
open PySem PySem.Spec PyProof.Rows L2 Dd
/-- windows with numbers of dots -/
abbrev Wn := (Int × Int × Int × Int) × Int
section
variable {ls : List (List Int)} {L : List Wn}
end
/-- places that were seen -/
abbrev Sn := (Int × Int) × Bool
def SnOk (p : Sn) : Prop := -(1000000000000000000000000000000 : Int) ≤ p.1.1 ∧ p.1.1 ≤ (1000000000000000000000000000000 : Int) ∧ -(1000000000000000000000000000000 : Int) ≤ p.1.2 ∧ p.1.2 ≤ (1000000000000000000000000000000 : Int)
def stp (ls : List (List Int)) (ab : Int × Int) (p : Sn) : Int × Int := if p.2 = true then (max ab.1 (thr ls p.1.1 p.1.2 + 1), ab.2) else (ab.1, min ab.2 (thr ls p.1.1 p.1.2))
def bnds (ls : List (List Int)) (L : List Sn) : Int × Int := L.foldl (stp ls) (0, 4 ^ ls.length)
section
variable {ls : List (List Int)} {L : List Sn}
end
theorem ixK_snoc {l : List D} {d : D} {S : Sg} : ixK (l ++ [d]) (-1) S = .ok (.p d) S := by
  refine ixK_of ?_
  unfold L2.atI L2.ixN
  rw [if_neg (by omega), List.length_append, List.length_singleton, if_pos (by omega)]
  show (l ++ [d])[_]? = _
  rw [show ((-1 : Int) + ((l.length + 1 : Nat) : Int)).toNat = l.length by omega]
  simp
theorem place_i {ls : List (List Int)} (h50 : ls.length ≤ 50) (hp : Lvs ls) {k : Int} (k0 : 0 ≤ k) (k1 : k < 4 ^ ls.length) (st : Store) :
    s_Screen_place [.p (.scr (lvD ls)), .p (.int k)] st = .ok (.val (.tup [.int (plc ls k 0 0 0).1, .int (plc ls k 0 0 0).2])) st := by
  have po := place_of_i h50 hp k
  rw [plcD_plc k0 k1] at po
  unfold s_Screen_place b_Screen_place
  simp! [lvD_len, opMul_i (two_len h50), opShl_i (cshl1 (j := 2 * (ls.length : Int)) (by omega) (by omega)), shl_four, is_whole_i, k0, show k ≤ 4 ^ ls.length - 1 by omega, po]
theorem thr_place {ls : List (List Int)} (hp : Lvs ls) {k : Int} (k0 : 0 ≤ k) (k1 : k < 4 ^ ls.length) : thr ls (plc ls k 0 0 0).1 (plc ls k 0 0 0).2 = k := by
  have := thr_plc ls k 0 0 0 hp k0 k1 (by decide) (by decide) (by decide) (by decide)
  rwa [Int.pow_zero, Int.ediv_one, Int.ediv_one] at this
theorem plc_bd {ls : List (List Int)} (hp : Lvs ls) {k : Int} (k0 : 0 ≤ k) (k1 : k < 4 ^ ls.length) : 0 ≤ (plc ls k 0 0 0).1 ∧ (plc ls k 0 0 0).1 < 2 ^ ls.length ∧ 0 ≤ (plc ls k 0 0 0).2 ∧ (plc ls k 0 0 0).2 < 2 ^ ls.length := by
  have := plcD_bd (ls := ls) (k := k) (x := 0) (y := 0) (s := 0) hp (by decide) (by decide) (by decide) (by decide)
  rwa [plcD_plc k0 k1, Nat.zero_add] at this
end Lib

set_option Elab.async false
set_option linter.all false
set_option maxRecDepth 100000
set_option exponentiation.threshold 2000
namespace Lib
open PySem PySem.Spec PyProof.Rows L2 Dd
/-- what was seen fits a shade -/
def Fit (ls : List (List Int)) (s : Int) (p : Sn) : Prop := decide (thr ls p.1.1 p.1.2 < s) = p.2
instance (ls : List (List Int)) (s : Int) (p : Sn) : Decidable (Fit ls s p) := inferInstanceAs (Decidable (_ = _))
/-! the text of what was seen -/
def snP (p : Sn) : PyData := .tuple [.int p.1.1, .int p.1.2, .bool p.2]
theorem sn_bt {p : Sn} (h : SnOk p) : Bt 240 p.1.1 ∧ Bt 240 p.1.2 := by
  obtain ⟨a, b, c, d⟩ := h
  have : (1000000000000000000000000000000 : Int) < ((2 ^ 240 : Nat) : Int) := by decide
  exact ⟨Bt.of (by omega), Bt.of (by omega)⟩
theorem smlAll_sn : ∀ {L : List Sn}, (∀ p ∈ L, SnOk p) → smlAll (L.map snP) = true
  | [], _ => rfl
  | p :: L, h => by
    obtain ⟨a, b⟩ := sn_bt (h p List.mem_cons_self)
    have a := a.log2
    have b := b.log2
    show (sml (snP p) && smlAll (L.map snP)) = true
    rw [smlAll_sn fun q hq => h q (List.mem_cons_of_mem _ hq)]
    simp only [snP, sml, smlAll, Bool.and_true, Bool.and_eq_true, decide_eq_true_eq]
    omega
theorem weight_sn : ∀ {L : List Sn}, (∀ p ∈ L, SnOk p) → PyData.weightAll (L.map snP) ≤ 490 * L.length
  | [], _ => Nat.zero_le _
  | p :: L, h => by
    obtain ⟨a, b⟩ := sn_bt (h p List.mem_cons_self)
    have a := a.log2
    have b := b.log2
    have ih := weight_sn fun q hq => h q (List.mem_cons_of_mem p hq)
    show PyData.weight (snP p) + 1 + PyData.weightAll (L.map snP) ≤ _
    have e : PyData.weight (snP p) ≤ 485 := by
      simp only [snP, PyData.weight, PyData.weightAll]
      split <;> split <;> omega
    rw [List.length_cons]; omega
theorem depth_sn : ∀ L : List Sn, PyData.depthAll (L.map snP) ≤ 1
  | [] => Nat.zero_le _
  | p :: L => by
    show max (PyData.depth (snP p)) (PyData.depthAll (L.map snP)) ≤ 1
    have := depth_sn L
    have e : PyData.depth (snP p) = 1 := rfl
    omega
theorem Sml.sn {L : List Sn} (h : ∀ p ∈ L, SnOk p) (hl : L.length ≤ 100) : Sml (.list (L.map snP)) := by
  refine ⟨by simpa only [sml] using smlAll_sn h, ?_, ?_⟩
  · have := depth_sn L
    simp only [PyData.depth]; omega
  · have := weight_sn h
    simp only [PyData.weight]; omega
end Lib

set_option Elab.async false
set_option linter.all false
set_option maxRecDepth 100000
set_option exponentiation.threshold 2000
namespace Lib
open PySem PySem.Spec PyProof.Rows L2 Dd
/-! ### screens that are made of screens -/
theorem opList_t {l : List D} {S : Sg} : opList (.p (.tup l)) S = .ok (.r S.st.length) ⟨S.sl, S.st ++ [.mu (.lst l)]⟩ := Eq.trans rfl rfl
theorem levels_i (l : List D) (st : Store) : s_Screen_levels [.p (.scr l)] st = .ok (.new (.lst l)) st := by
  unfold s_Screen_levels b_Screen_levels
  simp! [opList_t]
  rw [finishR_mu (o := .lst l) (by simp) (by omega), List.take_append_of_le_length (by omega), List.take_length]
theorem levels_p (l : List D) (S : Sg) : propK 0 s_Screen_levels (.p (.scr l)) S = .ok (.r S.st.length) ⟨S.sl, S.st ++ [.mu (.lst l)]⟩ := by
  unfold propK
  show (if (0 : Nat) = 0 then (match s_Screen_levels [.p (.scr l)] S.st with | .exc _ _ => Res.bad | r => applyF S r) else Res.bad) = _
  rw [if_pos rfl, levels_i]
  rfl
theorem opSl_l {l : List D} {lo hi : Option Int} {S : Sg} (h : l.length ≤ 1000) : opSl (.p (.lst l)) lo hi S = .ok (.r S.st.length) ⟨S.sl, S.st ++ [.mu (.lst (Dd.cutD l lo hi))]⟩ := if_pos (Nat.le_trans h (by rw [sizeLine_eq]; decide))
theorem threshold_i {ls : List (List Int)} (h : Lvs ls) (hl : ls.length ≤ 50) {x y : Int} (h0 : -(1000000000000000000000000000000 : Int) ≤ x) (h1 : x ≤ (1000000000000000000000000000000 : Int)) (h2 : -(1000000000000000000000000000000 : Int) ≤ y) (h3 : y ≤ (1000000000000000000000000000000 : Int)) (st : Store) : s_Screen_threshold [.p (.scr (lvD ls)), .p (.int x), .p (.int y)] st = .ok (.val (.int (thr ls x y))) st := by
  unfold s_Screen_threshold b_Screen_threshold
  simp! [require_place_ok h0 h1 h2 h3, threshold_at_i h hl]
theorem eqv_tt (xs ys : List PyData) : PyData.eqv (.tuple xs) (.tuple ys) = PyData.eqvAll xs ys := rfl
theorem eqv_ll (xs ys : List PyData) : PyData.eqv (.list xs) (.list ys) = PyData.eqvAll xs ys := rfl
theorem eqvAll_lv : ∀ a b : List (List Int), PyData.eqvAll (lvP a) (lvP b) = decide (a = b)
  | [], [] => rfl
  | [], b :: bs => rfl
  | a :: as, [] => rfl
  | a :: as, b :: bs => by
    show (PyData.eqv (.tuple (a.map .int)) (.tuple (b.map .int)) && PyData.eqvAll (lvP as) (lvP bs)) = _
    rw [eqv_tt, eqvAll_ints, eqvAll_lv as bs]
    by_cases h : a = b <;> by_cases h2 : as = bs <;> simp [h, h2]
theorem shaped_lvt (ls : List (List Int)) : SeqAt.shaped (.tuple (lvP ls)) = true := by
  show (PyData.canLayAll0 (lvP ls) && decide (PyData.depthAll (lvP ls) + 1 ≤ 64)) = true
  rw [canLay_lv, decide_eq_true (by have := depth_lv ls; omega)]; rfl
/-! == with the data looked at one by one -/
def eqDK : Option PyData → Option PyData → Sg → Res R
  | some d, some e, S => if SeqAt.shaped d = true ∧ SeqAt.shaped e = true then .ok (.p (.bl (PyData.eqv d e))) S else .bad
  | _, _, _ => .bad
def neDK : Option PyData → Option PyData → Sg → Res R
  | some d, some e, S => if SeqAt.shaped d = true ∧ SeqAt.shaped e = true then .ok (.p (.bl (!PyData.eqv d e))) S else .bad
  | _, _, _ => .bad
theorem opEqD_K {x y : R} {S : Sg} : opEqD x y S = eqDK (dataR x S) (dataR y S) S := by
  unfold opEqD
  cases dataR x S with
  | none => rfl
  | some d => cases dataR y S <;> rfl
theorem opNeD_K {x y : R} {S : Sg} : opNeD x y S = neDK (dataR x S) (dataR y S) S := by
  unfold opNeD
  cases dataR x S with
  | none => rfl
  | some d => cases dataR y S <;> rfl
theorem toPy_lst_lv {ls : List (List Int)} : toPy (.lst (lvD ls)) = some (.list (lvP ls)) := by unfold toPy; rw [toPyL_lv]
theorem toPy_tup_lv {ls : List (List Int)} : toPy (.tup (lvD ls)) = some (.tuple (lvP ls)) := by unfold toPy; rw [toPyL_lv]
theorem dataK_lv {ls : List (List Int)} : dataK (some (.mu (.lst (lvD ls)))) = some (.list (lvP ls)) := by
  rw [dataK_mu, toPyL_lv]; rfl
theorem eqDK_ll {a b : List (List Int)} {S : Sg} : eqDK (some (.list (lvP a))) (some (.list (lvP b))) S = .ok (.p (.bl (decide (a = b)))) S := by
  refine (if_pos ⟨shaped_lv a, shaped_lv b⟩).trans ?_
  rw [eqv_ll, eqvAll_lv]
theorem neDK_ll {a b : List (List Int)} {S : Sg} : neDK (some (.list (lvP a))) (some (.list (lvP b))) S = .ok (.p (.bl (!decide (a = b)))) S := by
  refine (if_pos ⟨shaped_lv a, shaped_lv b⟩).trans ?_
  rw [eqv_ll, eqvAll_lv]
theorem eqDK_tt {a b : List (List Int)} {S : Sg} : eqDK (some (.tuple (lvP a))) (some (.tuple (lvP b))) S = .ok (.p (.bl (decide (a = b)))) S := by
  refine (if_pos ⟨shaped_lvt a, shaped_lvt b⟩).trans ?_
  rw [eqv_tt, eqvAll_lv]
/-! screens, looked at -/
def scrC : Option Cell → Option (List D)
  | some (.mu (.obj k fs)) => if k = 0 then (match fs.lookup ("own_levels" : Str) with
    | some (.tup l) => some l
    | _ => none) else none
  | _ => none
def scrOf (x : R) (S : Sg) : Option (List D) := match x with
  | .p (.scr l) => some l
  | .p _ => none
  | .r n => scrC S.st[n]?
theorem scrOf_r {n : Nat} {S : Sg} : scrOf (.r n) S = scrC S.st[n]? := Eq.trans rfl rfl
theorem scrOf_ins {x : R} {S : Sg} {l : List D} (h : scrOf x S = some l) : ∃ fs, insOf x S = some (0, fs) ∧ fs.lookup ("own_levels" : Str) = some (.tup l) := by
  cases x with
  | p d =>
    cases d with
    | scr l' => cases h; exact ⟨_, rfl, rfl⟩
    | _ => cases h
  | r n =>
    rw [insOf_rC]
    rw [scrOf_r] at h
    generalize S.st[n]? = z at *
    rcases z with _ | ((l' | kv | ⟨k', fs⟩ | kv) | l' | _)
    · cases h
    · cases h
    · cases h
    rotate_left
    · cases h
    · cases h
    · cases h
    · unfold scrC at h
      simp only at h
      split at h
      · rename_i hk
        subst hk
        split at h
        · rename_i l2 e; cases h; exact ⟨fs, rfl, e⟩
        · cases h
      · cases h
theorem scr_eq {x y : R} {sl : List (Option R)} {st : Store} {a b : List (List Int)} (hx : scrOf x ⟨sl, st⟩ = some (lvD a)) (hy : scrOf y ⟨sl, st⟩ = some (lvD b)) : s_Screen___eq [x, y] st = .ok (.val (.bl (decide (a = b)))) st := by
  have ins : ∀ (z : R) (s1 s2 : List (Option R)), insOf z ⟨s1, st⟩ = insOf z ⟨s2, st⟩ := fun z s1 s2 => by
    cases z with
    | p d => cases d <;> rfl
    | r n => rfl
  have kd : ∀ (z : R) (s1 : List (Option R)) fs, insOf z ⟨s1, st⟩ = some (0, fs) → kindR z ⟨s1, st⟩ = none := fun z s1 fs e => by
    cases z with
    | p d => cases d <;> first | (cases e; done) | rfl
    | r n =>
      rw [insOf_rC] at e
      unfold kindR
      simp only at e ⊢
      generalize st[n]? = q at *
      rcases q with _ | ((l' | kv | ⟨k', fs⟩ | kv) | l' | _) <;> first | (cases e; done) | rfl
  obtain ⟨fs, e1, l1⟩ := scrOf_ins hx
  obtain ⟨gs, e2, l2⟩ := scrOf_ins hy
  have c2 : ∀ s1, isCK 0 y ⟨s1, st⟩ = .ok (.p (.bl true)) ⟨s1, st⟩ := fun s1 => by
    unfold isCK
    rw [kd y s1 gs (by rw [ins y s1 sl]; exact e2), ins y s1 sl, e2]
    rfl
  have a1 : ∀ s1, attrK 0 "own_levels" x ⟨s1, st⟩ = .ok (.p (.tup (lvD a))) ⟨s1, st⟩ := fun s1 => by
    unfold attrK
    rw [ins x s1 sl, e1]
    simp only [if_true, l1, Option.bind_some, atD]
  have a2 : ∀ s1, attrK 0 "own_levels" y ⟨s1, st⟩ = .ok (.p (.tup (lvD b))) ⟨s1, st⟩ := fun s1 => by
    unfold attrK
    rw [ins y s1 sl, e2]
    simp only [if_true, l2, Option.bind_some, atD]
  unfold s_Screen___eq b_Screen___eq
  simp! [c2, a1, a2, opEqD_K, dataR_p, toPy_tup_lv, eqDK_tt]
theorem opEqU_lv {x y : R} {S : Sg} {a b : List (List Int)} (hx : scrOf x S = some (lvD a)) (hy : scrOf y S = some (lvD b)) : opEqU 0 s_Screen___eq x y S = .ok (.p (.bl (decide (a = b)))) S := by
  obtain ⟨fs, e1, l1⟩ := scrOf_ins hx
  obtain ⟨gs, e2, l2⟩ := scrOf_ins hy
  unfold opEqU
  simp only [e1, e2]
  rw [if_pos ⟨trivial, .inr rfl⟩, scr_eq (sl := S.sl) hx hy]
theorem opEqU_pp {S : Sg} {a b : List (List Int)} : opEqU 0 s_Screen___eq (.p (.scr (lvD a))) (.p (.scr (lvD b))) S = .ok (.p (.bl (decide (a = b)))) S := opEqU_lv rfl rfl
/-! thresholds of turned screens -/
theorem ci4_dg {lv : List Int} (hp : lv.Perm [0, 1, 2, 3]) (X Y : Int) : ci4 lv (dg lv X Y) = (X % 2 + 2 * (Y % 2)).toNat := by
  obtain ⟨d0, d1⟩ := dg_bd hp X Y
  obtain ⟨_, h2, h3⟩ := ci4_get hp d0 d1
  exact (List.getElem?_inj (by rw [hp.length_eq]; exact h3) (nodup4 hp)).mp (h2.trans (dg_get hp X Y).symm)
/-! == of a screen with what is none -/
/-! a screen made of a list in a cell -/
end Lib

set_option Elab.async false
set_option linter.all false
set_option maxRecDepth 100000
set_option exponentiation.threshold 2000
namespace Lib
open PySem PySem.Spec PyProof.Rows L2 Dd
/-! ### longest runs: plain -/
/-- the longest run of an endless row of truths; none if it has no end -/
def LongR (Q : Int → Bool) : Option Int → Prop
  | none => ∀ x, Q x = true
  | some m => 0 ≤ m ∧ (∃ x, ∀ i : Int, 0 ≤ i → i < m → Q (x + i) = true) ∧ ∀ x, ∃ i : Int, 0 ≤ i ∧ i ≤ m ∧ Q (x + i) = false
/-- a half: its places by the further ones -/
def half (a g : Int) (kd : Bool) (F : Int → Bool) (x : Int) : Bool := if a = g then F x else decide (a < g) == kd
section
variable {Q F : Int → Bool} {f : Option Int}
end
end Lib

set_option Elab.async false
set_option linter.all false
set_option maxRecDepth 100000
set_option exponentiation.threshold 2000
namespace Lib
open PySem PySem.Spec PyProof.Rows L2 Dd
/-! ### longest runs: the walk -/
def hS (a g : Int) : Str := if a = g then Str.ofString "on" else if a < g then Str.ofString "dot" else Str.ofString "blank"
/-! the lines -/
theorem intsFrom_range' : ∀ (n : Nat) (a : Int), Dd.intsFrom a n = (List.range n).map fun i : Nat => D.int (a + (i : Int))
  | 0, _ => rfl
  | n + 1, a => by
    rw [List.range_succ_eq_map, List.map_cons, List.map_map]
    show D.int a :: Dd.intsFrom (a + 1) n = _
    rw [intsFrom_range' n (a + 1), show a + ((0 : Nat) : Int) = a by omega]
    congr 1
    refine List.map_congr_left fun i _ => ?_
    show D.int (a + 1 + (i : Int)) = D.int (a + ((i + 1 : Nat) : Int))
    congr 1; omega
theorem intsFrom_range (n : Nat) : Dd.intsFrom 0 n = (List.range n).map fun i : Nat => D.int (i : Int) := by
  rw [intsFrom_range']
  exact List.map_congr_left fun i _ => by rw [Int.zero_add]
section
variable {ls : List (List Int)} {k : Int} (h50 : ls.length ≤ 50) (hp : Lvs ls) (k0 : 0 ≤ k) (k1 : k ≤ 4 ^ ls.length)
include h50 hp k0 k1
end
end Lib

set_option Elab.async false
set_option linter.all false
set_option maxRecDepth 100000
set_option exponentiation.threshold 2000
namespace Lib
open PySem PySem.Spec PyProof.Rows L2 Dd
/-! ### the law's own count of runs -/
/-- what is known of the runs that end within the first t places -/
structure RunI (Q : Int → Bool) (t now best : Int) : Prop where
  n0 : 0 ≤ now
  b0 : 0 ≤ best
  run : ∀ i : Int, 0 ≤ i → i < now → Q (t - 1 - i) = true
  top : now = t ∨ Q (t - 1 - now) = false
  got : ∃ x, ∀ i : Int, 0 ≤ i → i < best → Q (x + i) = true
  le : now ≤ t
  all : ∀ s m : Int, 0 ≤ s → s ≤ t → m ≤ s → (∀ i : Int, 0 ≤ i → i < m → Q (s - 1 - i) = true) → m ≤ best
theorem RunI.zero (Q : Int → Bool) : RunI Q 0 0 0 := ⟨Int.le_refl _, Int.le_refl _, fun i _ _ => by omega, .inl rfl, ⟨0, fun i _ _ => by omega⟩, Int.le_refl _, fun s m _ _ _ _ => by omega⟩
theorem RunI.step {Q : Int → Bool} {t now best : Int} (h : RunI Q t now best) (t0 : 0 ≤ t) : RunI Q (t + 1) (if Q t = true then now + 1 else 0) (max best (if Q t = true then now + 1 else 0)) := by
  obtain ⟨n0, b0, run, mx, got, le, all⟩ := h
  by_cases q : Q t = true
  · rw [if_pos q]
    have run' : ∀ i : Int, 0 ≤ i → i < now + 1 → Q (t + 1 - 1 - i) = true := fun i i0 i1 => by
      by_cases hi : i = 0
      · rw [hi, show t + 1 - 1 - 0 = t by omega]; exact q
      · rw [show t + 1 - 1 - i = t - 1 - (i - 1) by omega]; exact run _ (by omega) (by omega)
    refine ⟨by omega, by omega, run', ?_, ?_, by omega, fun s m s0 s1 ms hr => ?_⟩
    · rcases mx with h | h
      · left; omega
      · right; rw [show t + 1 - 1 - (now + 1) = t - 1 - now by omega]; exact h
    · by_cases hb : best ≤ now + 1
      · refine ⟨t - now, fun i i0 i1 => ?_⟩
        rw [show t - now + i = t + 1 - 1 - (now - i) by omega]
        exact run' _ (by omega) (by omega)
      · obtain ⟨x, hx⟩ := got
        exact ⟨x, fun i i0 i1 => hx i i0 (by omega)⟩
    · by_cases hs : s = t + 1
      · subst hs
        have : m ≤ now + 1 := by
          apply Classical.byContradiction
          intro hc
          rcases mx with h | h
          · omega
          · have := hr (now + 1) (by omega) (by omega)
            rw [show t + 1 - 1 - (now + 1) = t - 1 - now by omega, h] at this
            cases this
        omega
      · have := all s m s0 (by omega) ms hr
        omega
  · rw [if_neg q]
    have q' : Q t = false := by simpa using q
    refine ⟨Int.le_refl _, by omega, fun i _ _ => by omega, ?_, ?_, by omega, fun s m s0 s1 ms hr => ?_⟩
    · right; rw [show t + 1 - 1 - 0 = t by omega]; exact q'
    · obtain ⟨x, hx⟩ := got
      exact ⟨x, fun i i0 i1 => hx i i0 (by omega)⟩
    · by_cases hs : s = t + 1
      · subst hs
        have : m ≤ 0 := by
          apply Classical.byContradiction
          intro hc
          have := hr 0 (by omega) (by omega)
          rw [show t + 1 - 1 - 0 = t by omega, q'] at this
          cases this
        omega
      · have := all s m s0 (by omega) ms hr
        omega
theorem RunI.done {Q : Int → Bool} {N now best : Int} (N0 : 0 < N) (per : ∀ x q : Int, Q (x + q * N) = Q x) (h : RunI Q (2 * N) now best) (hn : ∃ x, Q x = false) : LongR Q (some best) := by
  refine ⟨h.b0, h.got, fun x => ?_⟩
  apply Classical.byContradiction
  intro hc
  have tr : ∀ i : Int, 0 ≤ i → i ≤ best → Q (x + i) = true := fun i i0 i1 => by
    cases e : Q (x + i) with
    | true => rfl
    | false => exact (hc ⟨i, i0, i1, e⟩).elim
  have e := Int.emod_add_mul_ediv x N
  have z0 := Int.emod_nonneg x (Int.ne_of_gt N0)
  have z1 := Int.emod_lt_of_pos x N0
  have tr' : ∀ i : Int, 0 ≤ i → i ≤ best → Q (x % N + i) = true := fun i i0 i1 => by
    rw [← tr i i0 i1, ← per (x % N + i) (x / N), Int.mul_comm]
    congr 1; omega
  by_cases hb : best < N
  · have := h.all (x % N + best + 1) (best + 1) (by have := h.b0; omega) (by omega) (by omega) fun i i0 i1 => by
      rw [show x % N + best + 1 - 1 - i = x % N + (best - i) by omega]
      exact tr' _ (by omega) (by omega)
    omega
  · obtain ⟨w, hw⟩ := hn
    have e2 := Int.emod_add_mul_ediv (w - x) N
    have w0 := Int.emod_nonneg (w - x) (Int.ne_of_gt N0)
    have w1 := Int.emod_lt_of_pos (w - x) N0
    have := tr ((w - x) % N) w0 (by omega)
    rw [← per _ ((w - x) / N), Int.mul_comm, show x + (w - x) % N + N * ((w - x) / N) = w by omega, hw] at this
    cases this
/-! periods -/
theorem dg_per (lv : List Int) (x y q r : Int) : dg lv (x + 2 * q) (y + 2 * r) = dg lv x y := by
  unfold dg
  rw [show (x + 2 * q) % 2 = x % 2 by omega, show (y + 2 * r) % 2 = y % 2 by omega]
theorem thr_per : ∀ (ls : List (List Int)) (x y q r : Int), thr ls (x + q * 2 ^ ls.length) (y + r * 2 ^ ls.length) = thr ls x y
  | [], x, y, q, r => rfl
  | lv :: l, x, y, q, r => by
    have e : ∀ z w : Int, z + w * 2 ^ (lv :: l).length = z + 2 * (w * 2 ^ l.length) := fun z w => by
      rw [List.length_cons, Int.pow_succ, Int.mul_comm (2 ^ l.length) 2, ← Int.mul_assoc, Int.mul_comm w 2, Int.mul_assoc]
    have e2 : ∀ z w : Int, (z + 2 * w) / 2 = z / 2 + w := fun z w => by omega
    show dg lv (x + q * 2 ^ (lv :: l).length) (y + r * 2 ^ (lv :: l).length) * 4 ^ l.length + thr l ((x + q * 2 ^ (lv :: l).length) / 2) ((y + r * 2 ^ (lv :: l).length) / 2) = dg lv x y * 4 ^ l.length + thr l (x / 2) (y / 2)
    rw [e, e, dg_per, e2, e2, thr_per l]
end Lib

set_option Elab.async false
set_option linter.all false
set_option maxRecDepth 100000
set_option exponentiation.threshold 2000
namespace Lib
open PySem PySem.Spec PyProof.Rows L2 Dd
/-! ### sums over stretches and windows -/
def sm : Nat → (Int → Int) → Int → Int
  | 0, _, _ => 0
  | n + 1, F, a => F a + sm n F (a + 1)
/-- is there a dot -/
def dt (ls : List (List Int)) (k : Int) (x y : Int) : Int := if thr ls x y < k then 1 else 0
/-! ### the spots of squares -/
/-- the stretches of spots: first, number, corners of each -/
def parts (f m r : Int) (s : Nat) : List (Int × Int × Int) :=
  if LO f r s = LO (f + m - 1) r s then [(LO f r s, 1, m)]
  else if LO (f + m - 1) r s - LO f r s > 1 then [(LO f r s, 1, r + LO f r s * 2 ^ s - f + 1), (LO (f + m - 1) r s, 1, f + m - 1 - r - (LO (f + m - 1) r s - 1) * 2 ^ s), (LO f r s + 1, LO (f + m - 1) r s - LO f r s - 1, 2 ^ s)]
  else [(LO f r s, 1, r + LO f r s * 2 ^ s - f + 1), (LO (f + m - 1) r s, 1, f + m - 1 - r - (LO (f + m - 1) r s - 1) * 2 ^ s)]
end Lib

set_option Elab.async false
set_option linter.all false
set_option maxRecDepth 100000
set_option exponentiation.threshold 2000
namespace Lib
open PySem PySem.Spec PyProof.Rows L2 Dd
/-! ### windows of spots, further out -/
/-! ### fuller_count: the walk -/
section
variable {f m r : Int} {s : Nat} (f0 : -(1000000000000000000000000000000 : Int) ≤ f) (f1 : f ≤ (1000000000000000000000000000000 : Int)) (m0 : 1 ≤ m) (m1 : m ≤ (1000000000000000000000000000000 : Int)) (hs : s ≤ 50) (r0 : 0 ≤ r) (r1 : r < 2 ^ s)
include f0 f1 m0 m1 hs r0 r1
end
theorem lvD_drop (ls : List (List Int)) (j : Nat) : (lvD ls).drop j = lvD (ls.drop j) := by unfold lvD; rw [List.map_drop]
section
variable {ls : List (List Int)} {k : Int} {j : Nat}
end
end Lib

set_option Elab.async false
set_option linter.all false
set_option maxRecDepth 100000
set_option exponentiation.threshold 2000
namespace Lib
open PySem PySem.Spec PyProof.Rows L2 Dd
/-! ### runs of turned screens; the best of all lines -/
theorem LongR.congr {Q Q' : Int → Bool} {r : Option Int} (h : LongR Q r) (e : ∀ x, Q' x = Q x) : LongR Q' r := by
  have : Q' = Q := funext e
  rw [this]; exact h
section
variable {ls : List (List Int)} {k : Int} (hp : Lvs ls) (k0 : 0 ≤ k) (k1 : k ≤ 4 ^ ls.length) (kd : Bool) (y : Int)
include hp k0 k1
end
def leO : Option Int → Option Int → Prop
  | _, none => True
  | none, some _ => False
  | some m, some n => m ≤ n
theorem leO.refl : ∀ a : Option Int, leO a a
  | none => trivial
  | some m => Int.le_refl m
theorem leO.trans : ∀ {a b c : Option Int}, leO a b → leO b c → leO a c
  | _, _, none, _, _ => trivial
  | none, none, some _, _, h => h.elim
  | none, some _, some _, h, _ => h.elim
  | some _, none, some _, _, h => h.elim
  | some m, some n, some p, h, k => Int.le_trans h k
section
variable {ls : List (List Int)} {k : Int} (hp : Lvs ls) (k0 : 0 ≤ k) (k1 : k ≤ 4 ^ ls.length) (kd : Bool)
include hp k0 k1
end
/-! squares and ranks over the diagonal -/
section
variable {ls : List (List Int)} {k : Int} (h50 : ls.length ≤ 50) (hp : Lvs ls) (k0 : 0 ≤ k) (k1 : k ≤ 4 ^ ls.length)
include h50 hp k0 k1
end
end Lib

set_option Elab.async false
set_option linter.all false
set_option maxRecDepth 100000
set_option exponentiation.threshold 2000
namespace Lib
open PySem PySem.Spec PyProof.Rows L2 Dd
/-! ### negatives -/
def neg (ls : List (List Int)) : List (List Int) := ls.map fun lv => lv.map fun n => 3 - n
/-! ### evenness -/
section
variable {ls : List (List Int)} {k : Int} (h50 : ls.length ≤ 50) (hp : Lvs ls) (k0 : 0 ≤ k) (k1 : k ≤ 4 ^ ls.length) {j : Nat} (hj : j ≤ ls.length)
include h50 hp k0 k1 hj
end
/-! ### squares at all places of a period -/
end Lib

set_option Elab.async false
set_option linter.all false
set_option maxRecDepth 100000
set_option exponentiation.threshold 2000
namespace Lib
open PySem PySem.Spec PyProof.Rows L2 Dd
/-! ### unlike places: plain -/
abbrev Cl := Int × Int × Nat
/-- is a place in a set -/
def ind (X Y : Int) (c : Cl) : Int := if X % 2 ^ c.2.2 = c.1 ∧ Y % 2 ^ c.2.2 = c.2.1 then 1 else 0
/-- the cell of a place at a level -/
def cs (X Y : Int) (s : Nat) : Nat := (X / 2 ^ s % 2 + 2 * (Y / 2 ^ s % 2)).toNat
/-- the kind of a number: dots 1, blanks 0, either 2 -/
def kn (g r n : Int) : Int := if n ≠ g ∨ r = 0 then (if n < g then 1 else 0) else 2
/-- does a place have a dot, by levels of which all ahead are the shade's -/
def has (ls : List (List Int)) (k X Y : Int) (s : Nat) : Bool := decide (thr ls (X / 2 ^ s) (Y / 2 ^ s) < k % 4 ^ ls.length)
/-- the kinds of a level's cells; blanks behind the last level -/
def kinds : List (List Int) → Int → List Int
  | [], _ => [0, 0, 0, 0]
  | lv :: r, k => lv.map (kn (k / 4 ^ r.length % 4) (k % 4 ^ r.length))
def kd (ls : List (List Int)) (k : Int) (c : Nat) : Int := (kinds ls k).getD c 0
end Lib

set_option Elab.async false
set_option linter.all false
set_option maxRecDepth 100000
set_option exponentiation.threshold 2000
namespace Lib
open PySem PySem.Spec PyProof.Rows L2 Dd
/-! ### unlike places: the walk -/
/-! bounds -/
def CellIn (c : Cl) : Prop := 0 ≤ c.1 ∧ c.1 < 2 ^ c.2.2 ∧ 0 ≤ c.2.1 ∧ c.2.1 < 2 ^ c.2.2 ∧ c.2.2 ≤ 50
theorem CellIn.ok {c : Cl} (h : CellIn c) : CellOk' 50 c := by
  obtain ⟨a, b, d, e, f⟩ := h
  have := pow_bd f
  exact ⟨a, by omega, d, by omega, f⟩
section
variable {A B : List (List Int)} (hA : LvOk A) (hB : LvOk B) {k m : Int} (k0 : 0 ≤ k) (k1 : k ≤ 4 ^ A.length) (m0 : 0 ≤ m) (m1 : m ≤ 4 ^ B.length)
include hA hB k0 k1 m0 m1
end
end Lib

set_option Elab.async false
set_option linter.all false
set_option maxRecDepth 100000
set_option exponentiation.threshold 2000
namespace Lib
open PySem PySem.Spec PyProof.Rows L2 Dd
/-! ### unlike_count -/
/-- is a place unlike -/
def un (A : List (List Int)) (k : Int) (B : List (List Int)) (m : Int) (X Y : Int) : Int := if decide (thr A X Y < k) = decide (thr B X Y < m) then 0 else 1
section
variable {A B : List (List Int)} (hA : LvOk A) (hB : LvOk B) {k m : Int} (k0 : 0 ≤ k) (k1 : k ≤ 4 ^ A.length) (m0 : 0 ≤ m) (m1 : m ≤ 4 ^ B.length)
include hA hB k0 k1 m0 m1
end
end Lib

set_option Elab.async false
set_option linter.all false
set_option maxRecDepth 100000
set_option exponentiation.threshold 2000
namespace Lib
open PySem PySem.Spec PyProof.Rows L2 Dd
/-! ### the law's own dots of a window; places; small windows -/
/-- the last cell with a digit -/
def fg (g : Int) : Nat → List Int → Option Nat → Option Nat
  | _, [], o => o
  | c, n :: r, o => fg g (c + 1) r (if n = g then some c else o)
end Lib

set_option Elab.async false
set_option linter.all false
set_option maxRecDepth 100000
set_option exponentiation.threshold 2000
namespace Lib
open PySem PySem.Spec PyProof.Rows L2 Dd
def prD (p : Int × Int) : D := .tup [.int p.1, .int p.2]
end Lib

set_option Elab.async false
set_option linter.all false
set_option maxRecDepth 100000
set_option exponentiation.threshold 2000
namespace Lib
open PySem PySem.Spec PyProof.Rows L2 Dd
/-! ### first_unlike: plain -/
/-- the first place with a property in a window -/
def IsFst (U : Int → Int → Prop) (l t w h : Int) (o : Option (Int × Int)) : Prop := match o with
  | none => ∀ x y, l ≤ x → x < l + w → t ≤ y → y < t + h → ¬ U x y
  | some p => l ≤ p.1 ∧ p.1 < l + w ∧ t ≤ p.2 ∧ p.2 < t + h ∧ U p.1 p.2 ∧ ∀ x y, l ≤ x → x < l + w → t ≤ y → y < t + h → U x y → p.2 < y ∨ (p.2 = y ∧ p.1 ≤ x)
section
variable {A B : List (List Int)} (hA : LvOk A) (hB : LvOk B) {k m : Int} (k0 : 0 ≤ k) (k1 : k ≤ 4 ^ A.length) (m0 : 0 ≤ m) (m1 : m ≤ 4 ^ B.length)
include hA hB k0 k1 m0 m1
end
theorem maskb' (i : Int) (n : Nat) : Builtin.bitAnd i (2 ^ n - 1) = i % 2 ^ n := PySem.W.kbt_mask i n
theorem pairsOf_map : ∀ ps : List (Int × Int), pairsOf (ps.map prD) = some ps
  | [] => rfl
  | p :: ps => by
    rw [List.map_cons]
    show (match pairsOf (ps.map prD) with | some ps => some ((p.1, p.2) :: ps) | none => none) = _
    rw [pairsOf_map ps]
theorem minPK_ap {p : Int × Int} {ps : List (Int × Int)} {S : Sg} : minPK S (some ((p :: ps).map prD)) = .ok (.p (.tup [.int (minP p ps).1, .int (minP p ps).2])) S := by
  unfold minPK
  simp only [pairsOf_map]
theorem prD_lv (F : List (Int × Int)) : F.map prD = lvD (F.map fun p => [p.1, p.2]) := by unfold lvD; rw [List.map_map]; rfl
section
variable {A B : List (List Int)} (hA : LvOk A) (hB : LvOk B) {k m : Int} (k0 : 0 ≤ k) (k1 : k ≤ 4 ^ A.length) (m0 : 0 ≤ m) (m1 : m ≤ 4 ^ B.length)
include hA hB k0 k1 m0 m1
end
end Lib

set_option Elab.async false
set_option linter.all false
set_option maxRecDepth 100000
set_option exponentiation.threshold 2000
namespace Lib
open PySem PySem.Spec PyProof.Rows L2 Dd
/-! ### texts of screens -/
/-- the text of a level -/
def lvS (lv : List Int) : Str := ⟨(lv.map fun n => (48 + n).toNat).toArray⟩
/-- the text of a screen -/
def tx (ls : List (List Int)) : Str := Txt.join (Str.ofString " ") (ls.map lvS)
/-! ### reading -/
end Lib

set_option Elab.async false
set_option linter.all false
set_option maxRecDepth 100000
set_option exponentiation.threshold 2000
namespace Lib
open PySem PySem.Spec PyProof.Rows L2 Dd
end Lib

set_option Elab.async false
set_option linter.all false
set_option maxRecDepth 100000
set_option exponentiation.threshold 2000
namespace Lib
open PySem PySem.Spec PyProof.Rows L2 Dd
/-! ### moved screens -/
/-- the last level, its cells changed about -/
def xorL (lv : List Int) (c : Nat) : List Int := (List.range 4).map fun i => lv.getD (i ^^^ c) 0
def mvLv : List (List Int) → Nat → List (List Int)
  | [], _ => []
  | [lv], c => [xorL lv c]
  | lv :: m :: r, c => lv :: mvLv (m :: r) c
theorem mvL_eq : ∀ {ls : List (List Int)} (lv : List Int) (c : Nat), mvLv (ls ++ [lv]) c = ls ++ [xorL lv c]
  | [], lv, c => rfl
  | [a], lv, c => rfl
  | a :: b :: r, lv, c => by
    show a :: mvLv ((b :: r) ++ [lv]) c = _
    rw [mvL_eq lv c]; rfl
theorem opSl_last {l : List D} {d : D} {S : Sg} : opSl (.p (.tup (l ++ [d]))) none (some (-1)) S = .ok (.p (.tup l)) S := by
  have n : (l ++ [d]).length = l.length + 1 := by simp
  have s1 : HT.sIx (l ++ [d]).length (l ++ [d]).length (some (-1)) = l.length := by
    unfold HT.sIx
    simp only
    rw [if_pos (by decide), n]; omega
  have s0 : HT.sIx (l ++ [d]).length 0 none = 0 := rfl
  show (if HT.sIx (l ++ [d]).length 0 none = 0 ∧ HT.sIx (l ++ [d]).length (l ++ [d]).length (some (-1)) = (l ++ [d]).length then Res.ok (R.p (.tup (l ++ [d]))) S else .ok (.p (.tup (Dd.cutD (l ++ [d]) none (some (-1))))) S) = _
  rw [s1, n, if_neg (by omega)]
  unfold Dd.cutD
  rw [s1, s0, List.drop_zero, Nat.sub_zero, List.take_left]
theorem moved_levels_i {ls : List (List Int)} {lv : List Int} (h50 : ls.length + 1 ≤ 50) (h4 : lv.length = 4) {x y : Int} (x0 : x = 0 ∨ x = 1) (y0 : y = 0 ∨ y = 1) (st : Store) :
    s_moved_levels [.p (.tup (lvD (ls ++ [lv]))), .p (.int x), .p (.int y)] st = .ok (.new (.lst (lvD (mvLv (ls ++ [lv]) (x + 2 * y).toNat)))) st := by
  have e : lvD (ls ++ [lv]) = lvD ls ++ [.tup (lv.map .int)] := by unfold lvD; rw [List.map_append]; rfl
  have em : lvD (mvLv (ls ++ [lv]) (x + 2 * y).toNat) = lvD ls ++ [.tup ((xorL lv (x + 2 * y).toNat).map .int)] := by
    rw [mvL_eq]; unfold lvD; rw [List.map_append]; rfl
  rw [em]
  obtain ⟨a, b, c, d, rfl⟩ : ∃ a b c d, lv = [a, b, c, d] := by
    match lv, h4 with
    | [a, b, c, d], _ => exact ⟨a, b, c, d, rfl⟩
  have m2 : CMulW 2 y := cmulw (n := 3) (m := 3) (Bt.of (by decide)) (Bt.of (by omega))
  have uo : ∀ S : Sg, opt1 (uNeg (ci 1)) S = .ok (some (-1)) S := fun S => by simp! [opt1_ap, opt1K_i]
  unfold s_moved_levels b_moved_levels
  rw [e]
  simp! [slE_ap, opt0_ap, uo, opSl_last, ixK_snoc, opMul_i m2]
  obtain ⟨q, hq, hq4⟩ : ∃ q : Nat, x + 2 * y = (q : Int) ∧ q < 4 := ⟨(x + 2 * y).toNat, by omega, by omega⟩
  have bx : ∀ i : Nat, i < 4 → ∀ c : Nat, c < 4 → Builtin.bitXor (i : Int) (c : Int) = ((i ^^^ c : Nat) : Int) ∧ i ^^^ c < 4 := by decide +kernel
  have gx : ∀ j : Nat, j < 4 → ∀ S : Sg, ixK [D.int a, D.int b, D.int c, D.int d] (j : Int) S = .ok (.p (.int ([a, b, c, d].getD j 0))) S := fun j hj S => by
    match j, hj with
    | 0, _ => rfl
    | 1, _ => rfl
    | 2, _ => rfl
    | 3, _ => rfl
  rw [show ([D.int 0, D.int 1, D.int 2, D.int 3] : List D) = (List.range 4).map (fun i : Nat => D.int (i : Int)) from rfl, lcL_mapf (g := fun i : Nat => D.int ([a, b, c, d].getD (i ^^^ q) 0)) trivial _ _ (fun i hi => by
    obtain ⟨b1, b2⟩ := bx i (List.mem_range.mp hi) q hq4
    simp! [opMul_i m2, hq, b1, gx _ b2]) (by simp), List.nil_append, lcFin_ok (by simp)]
  rw [hq, Int.toNat_natCast]
  have ex : (xorL [a, b, c, d] q).map D.int = (List.range 4).map fun i : Nat => D.int ([a, b, c, d].getD (i ^^^ q) 0) := by unfold xorL; rw [List.map_map]; rfl
  rw [ex]
  generalize (List.range 4).map (fun i : Nat => D.int ([a, b, c, d].getD (i ^^^ q) 0)) = L4
  have ll : (lvD ls).length ≤ 49 := by rw [lvD_len]; omega
  have al : ∀ S : Sg, allocL (lvD ls ++ [D.tup L4]) S = .ok (.r S.st.length) ⟨S.sl, S.st ++ [.mu (.lst (lvD ls ++ [D.tup L4]))]⟩ := fun S => by
    unfold allocL
    exact if_pos (by rw [List.length_append, sizeLine_eq]; simp; omega)
  simp! [al]
  rw [finishR_mu (o := .lst (lvD ls ++ [D.tup L4])) (by simp) (by omega), List.take_append_of_le_length (by omega), List.take_length]
theorem xorL_perm {lv : List Int} (hp : lv.Perm [0, 1, 2, 3]) {c : Nat} (hc : c < 4) : (xorL lv c).Perm [0, 1, 2, 3] := by
  have h4 : lv.length = 4 := hp.length_eq
  obtain ⟨a, b, d, e, rfl⟩ : ∃ a b d e, lv = [a, b, d, e] := by
    match lv, h4 with
    | [a, b, d, e], _ => exact ⟨a, b, d, e, rfl⟩
  refine List.Perm.trans ?_ hp
  match c, hc with
  | 0, _ => exact List.Perm.refl _
  | 1, _ => show [b, a, e, d].Perm [a, b, d, e]; exact (List.Perm.swap a b [e, d]).trans (((List.Perm.swap d e []).cons b).cons a)
  | 2, _ => show [d, e, a, b].Perm [a, b, d, e]; exact List.perm_append_comm (l₁ := [d, e]) (l₂ := [a, b])
  | 3, _ => show [e, d, b, a].Perm [a, b, d, e]; exact List.reverse_perm [a, b, d, e]
theorem mvL_ok {ls : List (List Int)} (lok : LvOk ls) {c : Nat} (hc : c < 4) : LvOk (mvLv ls c) ∧ (mvLv ls c).length = ls.length := by
  obtain ⟨d1, d2, hp⟩ := lok
  obtain ⟨r, lv, rfl⟩ : ∃ r lv, ls = r ++ [lv] := ⟨ls.dropLast, ls.getLast (by intro e; rw [e] at d1; simp at d1), (List.dropLast_concat_getLast _).symm⟩
  rw [mvL_eq]
  refine ⟨⟨by simp, by simpa using d2, fun z hz => ?_⟩, by simp⟩
  rcases List.mem_append.mp hz with h | h
  · exact hp z (by simp [h])
  · rw [List.mem_singleton.mp h]; exact xorL_perm (hp lv (by simp)) hc
theorem moved_i {ls : List (List Int)} (lok : LvOk ls) {x y : Int} (x0 : -(1000000000000000000000000000000 : Int) ≤ x) (x1 : x ≤ (1000000000000000000000000000000 : Int)) (y0 : -(1000000000000000000000000000000 : Int) ≤ y) (y1 : y ≤ (1000000000000000000000000000000 : Int)) (hx : x % 2 ^ (ls.length - 1) = 0) (hy : y % 2 ^ (ls.length - 1) = 0) (st : Store) :
    s_moved [.p (.scr (lvD ls)), .p (.int x), .p (.int y)] st = .ok (.new (.obj 0 [("own_levels", .tup (lvD (mvLv ls (x / 2 ^ (ls.length - 1) % 2 + 2 * (y / 2 ^ (ls.length - 1) % 2)).toNat)))])) st := by
  obtain ⟨d1, d2, hp⟩ := id lok
  obtain ⟨r, lv, rfl⟩ : ∃ r lv, ls = r ++ [lv] := ⟨ls.dropLast, ls.getLast (by intro e; rw [e] at d1; simp at d1), (List.dropLast_concat_getLast _).symm⟩
  have rl : (r ++ [lv]).length - 1 = r.length := by simp
  rw [rl] at hx hy ⊢
  have dl : ((r.length + 1 : Nat) : Int) - 1 = (r.length : Int) := by omega
  obtain ⟨ok, _⟩ := mvL_ok lok (c := (x / 2 ^ r.length % 2 + 2 * (y / 2 ^ r.length % 2)).toNat) (by omega)
  have ml := fun st => moved_levels_i (ls := r) (lv := lv) (by simpa using d2) (hp lv (by simp)).length_eq (x := x / 2 ^ r.length % 2) (y := y / 2 ^ r.length % 2) (by omega) (by omega) st
  have r50 : r.length ≤ 50 := by simp at d2; omega
  unfold s_moved b_moved
  simp! [require_screen_ok, require_place_ok x0 x1 y0 y1, depth_p, dl, opShl_i (cshl1 (j := (r.length : Int)) (by omega) (by omega)), shl_two, maskb', hx, hy, tstI_ap, toBI_i, Int.one_mul, bne_self_eq_false, opShr_i (show (0 : Int) ≤ (r.length : Int) by omega), Int.toNat_natCast, band1, ml, screen_make _ ok]
  rw [finishR_mu (o := .obj 0 [("own_levels", .tup (lvD (mvLv (r ++ [lv]) (x / 2 ^ r.length % 2 + 2 * (y / 2 ^ r.length % 2)).toNat)))]) (by simp) (by omega), List.take_append_of_le_length (by omega), List.take_length]
theorem xorL_dg {lv : List Int} (h4 : lv.length = 4) {bx b : Nat} (hx : bx < 2) (hb : b < 2) (X Y : Int) : dg (xorL lv (bx + 2 * b)) X Y = dg lv (X - bx) (Y - b) := by
  obtain ⟨p, q, r, s, rfl⟩ : ∃ p q r s, lv = [p, q, r, s] := by
    match lv, h4 with
    | [p, q, r, s], _ => exact ⟨p, q, r, s, rfl⟩
  unfold dg
  obtain hX | hX : X % 2 = 0 ∨ X % 2 = 1 := by omega
  all_goals
    obtain hY | hY : Y % 2 = 0 ∨ Y % 2 = 1 := by omega
    all_goals
      obtain h1 | h1 : bx = 0 ∨ bx = 1 := by omega
      all_goals
        obtain h2 | h2 : b = 0 ∨ b = 1 := by omega
        all_goals
          subst h1 h2
          first
            | (rw [hX, hY, show (X - ((0 : Nat) : Int)) % 2 = X % 2 by omega, show (Y - ((0 : Nat) : Int)) % 2 = Y % 2 by omega, hX, hY]; rfl)
            | (rw [hX, hY, show (X - ((0 : Nat) : Int)) % 2 = X % 2 by omega, show (Y - ((1 : Nat) : Int)) % 2 = 1 - Y % 2 by omega, hX, hY]; rfl)
            | (rw [hX, hY, show (X - ((1 : Nat) : Int)) % 2 = 1 - X % 2 by omega, show (Y - ((0 : Nat) : Int)) % 2 = Y % 2 by omega, hX, hY]; rfl)
            | (rw [hX, hY, show (X - ((1 : Nat) : Int)) % 2 = 1 - X % 2 by omega, show (Y - ((1 : Nat) : Int)) % 2 = 1 - Y % 2 by omega, hX, hY]; rfl)
/-- a moved screen's thresholds -/
theorem thr_mv {bx b : Nat} (hx : bx < 2) (hb : b < 2) : ∀ (ls : List (List Int)) (X Y : Int), ls ≠ [] → (∀ l ∈ ls, l.length = 4) → thr (mvLv ls (bx + 2 * b)) X Y = thr ls (X - bx * 2 ^ (ls.length - 1)) (Y - b * 2 ^ (ls.length - 1))
  | [], _, _, h, _ => (h rfl).elim
  | [lv], X, Y, _, hl => by
    show dg (xorL lv (bx + 2 * b)) X Y * 4 ^ 0 + 0 = dg lv (X - bx * 2 ^ 0) (Y - b * 2 ^ 0) * 4 ^ 0 + 0
    have p0 : (2 : Int) ^ 0 = 1 := rfl
    rw [xorL_dg (hl lv (by simp)) hx hb, p0, Int.mul_one, Int.mul_one]
  | lv :: m :: r, X, Y, _, hl => by
    have ih := thr_mv hx hb (m :: r) (X / 2) (Y / 2) (by simp) fun l h => hl l (by simp at h ⊢; exact .inr h)
    have e1 : (lv :: m :: r).length - 1 = r.length + 1 := by simp
    have e2 : (m :: r).length - 1 = r.length := by simp
    have ml : ∀ (m : List Int) (r : List (List Int)) (c : Nat), (mvLv (m :: r) c).length = (m :: r).length := fun m r c => by
      induction r generalizing m with
      | nil => rfl
      | cons a r ih => show (mvLv (a :: r) c).length + 1 = _; rw [ih]; rfl
    rw [e2] at ih
    rw [e1]
    show dg lv X Y * 4 ^ (mvLv (m :: r) (bx + 2 * b)).length + thr (mvLv (m :: r) (bx + 2 * b)) (X / 2) (Y / 2) = dg lv (X - bx * 2 ^ (r.length + 1)) (Y - b * 2 ^ (r.length + 1)) * 4 ^ (m :: r).length + thr (m :: r) ((X - bx * 2 ^ (r.length + 1)) / 2) ((Y - b * 2 ^ (r.length + 1)) / 2)
    have g : ∀ (Z : Int) (c : Nat), Z - c * 2 ^ (r.length + 1) = Z + 2 * (-(c * 2 ^ r.length)) := fun Z c => by
      rw [Int.pow_succ, ← Int.mul_assoc]; omega
    have dg2 : dg lv (X - bx * 2 ^ (r.length + 1)) (Y - b * 2 ^ (r.length + 1)) = dg lv X Y := by
      rw [g, g]
      unfold dg
      rw [show (X + 2 * -(bx * 2 ^ r.length : Int)) % 2 = X % 2 by omega, show (Y + 2 * -(b * 2 ^ r.length : Int)) % 2 = Y % 2 by omega]
    rw [ml, ih, dg2, g, g, show (X + 2 * -(bx * 2 ^ r.length : Int)) / 2 = X / 2 - bx * 2 ^ r.length by omega, show (Y + 2 * -(b * 2 ^ r.length : Int)) / 2 = Y / 2 - b * 2 ^ r.length by omega]
end Lib

set_option Elab.async false
set_option linter.all false
set_option maxRecDepth 100000
namespace Dd
open PySem PySem.Spec PyProof.Rows L2
/-! how an own exception goes through a meaning -/
end Dd
namespace Lib
open PySem PySem.Spec PyProof.Rows L2 Dd
end Lib

set_option Elab.async false
set_option linter.all false
set_option maxRecDepth 100000
set_option exponentiation.threshold 2000
namespace Lib
open PySem PySem.Spec PyProof.Rows L2 Dd
section
variable {ls : List (List Int)} {k : Int}
end
end Lib

set_option Elab.async false
set_option linter.all false
set_option maxRecDepth 100000
set_option maxHeartbeats 2000000
namespace Lib
open PySem PySem.Spec PyProof.Rows L2 Dd
/-! the name of an exception, as the laws tell it -/
end Lib

set_option Elab.async false
set_option linter.all false
set_option maxRecDepth 100000
set_option exponentiation.threshold 2000
set_option maxHeartbeats 2000000
namespace Lib
open PySem PySem.Spec PyProof.Rows L2 Dd
/-! what is shown, refused -/
section
variable {ls : List (List Int)} {k : Int}
end
end Lib

set_option Elab.async false
set_option linter.all false
set_option maxRecDepth 100000
set_option exponentiation.threshold 2000
set_option maxHeartbeats 2000000
namespace Lib
open PySem PySem.Spec PyProof.Rows L2 Dd
/-! the names of exceptions, told in another sequence (_law_class of k34) -/
/-! values that are none, as the laws list them -/
theorem pw30 (S : Sg) : opPow (.p (.int 10)) (.p (.int 30)) S = .ok (.p (.int (1000000000000000000000000000000 : Int))) S := by rw [opPow_i (by decide)]; rfl
end Lib

set_option Elab.async false
set_option linter.all false
set_option maxRecDepth 100000
set_option exponentiation.threshold 2000
set_option maxHeartbeats 2000000
namespace Lib
open PySem PySem.Spec PyProof.Rows L2 Dd
/-! two pictures, refused -/
section
variable {A B : List (List Int)} {a b c d : D} {k : Int}
variable {e : D} {x : Xn}
/-! moved, shift_between -/
end
end Lib

set_option Elab.async false
set_option linter.all false
set_option maxRecDepth 100000
set_option exponentiation.threshold 2000
namespace Lib
open PySem PySem.Spec PyProof.Rows L2 Dd
/-! ### nth_of: the walk, two searches by halving -/
section
variable {ls : List (List Int)} {k : Int}
end
end Lib

set_option Elab.async false
set_option linter.all false
set_option maxRecDepth 100000
set_option exponentiation.threshold 2000
namespace Lib
open PySem PySem.Spec PyProof.Rows L2 Dd
/-! ### the first place of a listing -/
theorem IsFst.congr {U V : Int → Int → Prop} (e : ∀ x y, U x y ↔ V x y) {l t w h : Int} {o : Option (Int × Int)} (a : IsFst U l t w h o) : IsFst V l t w h o := by
  have : U = V := funext fun x => funext fun y => propext (e x y)
  rw [← this]; exact a
section
variable {A B : List (List Int)} (hA : LvOk A) (hB : LvOk B) {k m : Int} (k0 : 0 ≤ k) (k1 : k ≤ 4 ^ A.length) (m0 : 0 ≤ m) (m1 : m ≤ 4 ^ B.length)
include hA hB k0 k1 m0 m1
end
end Lib

set_option Elab.async false
set_option linter.all false
set_option maxRecDepth 100000
set_option exponentiation.threshold 2000
namespace Lib
open PySem PySem.Spec PyProof.Rows L2 Dd
section
variable {ls : List (List Int)} {k l t w h n : Int}
def ptD : Option (Int × Int) → D
  | none => .non
  | some p => .tup [.int p.1, .int p.2]
end
end Lib

set_option Elab.async false
set_option linter.all false
set_option maxRecDepth 100000
set_option exponentiation.threshold 2000
namespace Lib
open PySem PySem.Spec PyProof.Rows L2 Dd
/-! ### screens one upon the other -/
section
variable {a b : List (List Int)} (ha : LvOk a) (hb : LvOk b)
include ha hb
section
variable {k : Int} (k0 : 0 ≤ k) (k1 : k ≤ 4 ^ a.length)
include k0 k1
end
end
end Lib

set_option Elab.async false
set_option linter.all false
set_option maxRecDepth 100000
set_option exponentiation.threshold 2000
namespace Lib
open PySem PySem.Spec PyProof.Rows L2 Dd
theorem opNeD_pn {F : List (Int × Int)} {m : Nat} {S : Sg} (h : S.st[m]? = some (.mu (.lst []))) : opNeD (.p (.lst (F.map Lib.prD))) (.r m) S = .ok (.p (.bl (!decide (F = [])))) S := by
  have e : toPy (.lst (F.map Lib.prD)) = some (.list (lvP (F.map fun p => [p.1, p.2]))) := by
    rw [prD_lv]; exact toPy_lst_lv
  rw [opNeD_K, dataR_p, dataR_r, h, e, show dataK (some (.mu (.lst []))) = some (.list (lvP [])) from dataK_lv (ls := []), neDK_ll]
  simp
theorem opRepr_pt {o : Option (Int × Int)} (hb : ∀ p, o = some p → Bt 240 p.1 ∧ Bt 240 p.2) : ∃ T, PyData.strOk T = true ∧ ∀ S, opRepr (.p (ptD o)) S = .ok (.p (.str T)) S := by
  cases o with
  | none =>
    have sm : Sml .none := ⟨rfl, by decide, by simp [PyData.weight]⟩
    exact ⟨_, sml_strOk sm.1, fun S => opRepr_t (by rw [dataR_p]; rfl) sm⟩
  | some p =>
    obtain ⟨a, b⟩ := hb p rfl
    have sm : Sml (.tuple [.int p.1, .int p.2]) := Sml.tint (ns := [p.1, p.2]) (fun n hn => by
      simp only [List.mem_cons, List.not_mem_nil, or_false] at hn
      rcases hn with rfl | rfl <;> assumption) (by simp)
    exact ⟨_, sml_strOk sm.1, fun S => opRepr_t2 a b⟩
section
variable {ls : List (List Int)} {k : Int} {j : Nat} {l t w h : Int}
end
section
variable {ls : List (List Int)} {k : Int}
end
end Lib

set_option Elab.async false
set_option linter.all false
set_option maxRecDepth 100000
set_option exponentiation.threshold 2000
namespace Lib
open PySem PySem.Spec PyProof.Rows L2 Dd
/-! ### counting by digits: the plain law of tally -/
section
variable {K : Type} [DecidableEq K]
/-- d[k] = d.get(k, 0) + v -/
def tAdd : List (K × Int) → K → Int → List (K × Int)
  | [], k, v => [(k, v)]
  | (j, u) :: r, k, v => if j = k then (j, u + v) :: r else (j, u) :: tAdd r k v
def tKeys (d : List (K × Int)) : List K := d.map Prod.fst
theorem tAdd_keys (k : K) (v : Int) : ∀ d : List (K × Int), tKeys (tAdd d k v) = if k ∈ tKeys d then tKeys d else tKeys d ++ [k]
  | [] => by simp [tAdd, tKeys]
  | (j, u) :: r => by
    unfold tAdd
    by_cases h : j = k
    · rw [if_pos h, if_pos (by subst h; simp [tKeys])]; rfl
    · rw [if_neg h]
      have ih := tAdd_keys k v r
      have ek : tKeys ((j, u) :: r) = j :: tKeys r := rfl
      rw [ek]
      show j :: tKeys (tAdd r k v) = _
      rw [ih]
      by_cases m : k ∈ tKeys r
      · rw [if_pos m, if_pos (List.mem_cons_of_mem _ m)]
      · rw [if_neg m, if_neg (fun z => by
          rcases List.mem_cons.mp z with z | z
          · exact h z.symm
          · exact m z)]; rfl
theorem tAdd_nodup {k : K} {v : Int} {d : List (K × Int)} (h : (tKeys d).Nodup) : (tKeys (tAdd d k v)).Nodup := by
  rw [tAdd_keys]
  split
  · exact h
  · rename_i m
    exact List.nodup_append.mpr ⟨h, by simp, fun a ha b hb e => by
      rw [List.mem_singleton.mp hb] at e
      exact m (e ▸ ha)⟩
end
/-! sums over digits -/
/-! ### states by digits -/
section
variable {K : Type} [DecidableEq K]
/-- later[key] = later.get(key, 0) + times, where the key may be -/
def tPut (d : List (K × Int)) (o : Option K) (v : Int) : List (K × Int) := match o with
  | some k => tAdd d k v
  | none => d
theorem tPut_nodup {o : Option K} {v : Int} {d : List (K × Int)} (h : (tKeys d).Nodup) : (tKeys (tPut d o v)).Nodup := by
  cases o with
  | none => exact h
  | some k => exact tAdd_nodup h
/-- one more digit of x and of y -/
def tFour (st : K → Int → Int → Option K) (acc : List (K × Int)) (p : K × Int) : List (K × Int) :=
  tPut (tPut (tPut (tPut acc (st p.1 0 0) p.2) (st p.1 0 1) p.2) (st p.1 1 0) p.2) (st p.1 1 1) p.2
def tStep (st : K → Int → Int → Option K) (d : List (K × Int)) : List (K × Int) := d.foldl (tFour st) []
/-- the states behind so many digits -/
def tRun (st : Nat → K → Int → Int → Option K) (k0 : K) : Nat → List (K × Int)
  | 0 => [(k0, 1)]
  | s + 1 => tStep (st s) (tRun st k0 s)
end
end Lib

set_option Elab.async false
set_option linter.all false
set_option maxRecDepth 100000
set_option exponentiation.threshold 2000
namespace Lib
open PySem PySem.Spec PyProof.Rows L2 Dd
/-! ### one look: carries and the kind so far -/
def cmpD (n d : Int) : Int := if n = d then 2 else if n < d then 1 else 0
/-- 1 for a dot, 0 for none, 2 for the same -/
def kdL : List (List Int) → List Int → Int → Int → Int
  | lv :: ls, d :: ds, X, Y => if dg lv X Y = d then kdL ls ds (X / 2) (Y / 2) else cmpD (dg lv X Y) d
  | _, _, _, _ => 2
/-! carries -/
/-! ### one look, step by step -/
structure Look where
  lv : List (List Int)
  dg : List Int
  rt : Int
  sh : Int
/-- step_of for one look -/
def lkStep (s : Nat) (L : Look) (bx b : Int) (q : Int × Int × Int) : Int × Int × Int :=
  ((bx + L.rt / 2 ^ s % 2 + q.1) / 2, (b + L.sh / 2 ^ s % 2 + q.2.1) / 2,
    if q.2.2 = 2 ∧ s < L.lv.length then cmpD ((L.lv.getD s []).getD ((bx + L.rt / 2 ^ s % 2 + q.1) % 2 + 2 * ((b + L.sh / 2 ^ s % 2 + q.2.1) % 2)).toNat 0) (L.dg.getD s 0) else q.2.2)
/-! ### less so far -/
def lessF (v b : Int) (f : Bool) : Bool := if v = b then f else decide (v < b)
end Lib

set_option Elab.async false
set_option linter.all false
set_option maxRecDepth 100000
set_option exponentiation.threshold 2000
namespace Lib
open PySem PySem.Spec PyProof.Rows L2 Dd
/-! ### all looks: tally -/
abbrev KT := (List Int × List Int × List Int) × Bool × Bool
/-- the looks' states behind one digit more -/
def stepList (s : Nat) (bx b : Int) : List Look → List Int → List Int → List Int → List (Int × Int × Int)
  | L :: Ls, a :: as, d :: ds, k :: ks => lkStep s L bx b (a, d, k) :: stepList s bx b Ls as ds ks
  | _, _, _, _ => []
def enc3 (qs : List (Int × Int × Int)) : List Int × List Int × List Int := (qs.map fun q => q.1, qs.map fun q => q.2.1, qs.map fun q => q.2.2)
/-- whether kindsK may become what is wanted -/
def mayK : Option (List Int) → List Int → Bool
  | none, _ => true
  | some ws, ks => (ks.zip ws).all fun p => decide (p.1 = 2 ∨ p.1 = p.2)
def stepK (looks : List Look) (ws : Option (List Int)) (w h : Int) (s : Nat) (κ : KT) (bx b : Int) : Option KT :=
  let q := enc3 (stepList s bx b looks κ.1.1 κ.1.2.1 κ.1.2.2)
  if mayK ws q.2.2 = true then some (q, lessF bx (w / 2 ^ s % 2) κ.2.1, lessF b (h / 2 ^ s % 2) κ.2.2) else none
def kindsK (looks : List Look) (s : Nat) (x y : Int) : List Int := looks.map fun L => kdL (L.lv.take s) L.dg (x + L.rt) (y + L.sh)
/-! ### what is found -/
def b2 (b : Bool) : Int := if b = true then 1 else 0
end Lib

set_option Elab.async false
set_option linter.all false
set_option maxRecDepth 100000
set_option exponentiation.threshold 2000
namespace Lib
open PySem PySem.Spec PyProof.Rows L2 Dd
/-! ### the walk of tally -/
theorem sDset_ap (fv fo fk : M R) (S : Sg) : sDset fv fo fk S = (fv S).bnd fun v S => (fo S).bnd fun o S => (fk S).bnd fun k S => (pure1 v S).bnd fun vd S => (pure1 k S).bnd fun kd S => dsetK o kd vd S := by
  unfold sDset
  iterate 4 (rw [bind_bnd]; refine congrArg (Res.bnd _) (funext fun _ => funext fun S => ?_))
  rw [bind_bnd]
/-- what a look must be -/
structure LkOk (L : Look) : Prop where
  p : Lvs L.lv
  n : L.lv.length ≤ 50
  d : L.lv.length = L.dg.length
end Lib

set_option Elab.async false
set_option linter.all false
set_option maxRecDepth 100000
set_option exponentiation.threshold 2000
namespace Lib
open PySem PySem.Spec PyProof.Rows L2 Dd
/-! ### the states as a dict's keys -/
theorem nk_int (i : Int) : nkD (.int i) = some (.num i) := by unfold nkD; rfl
theorem nk_tup {l : List D} {ks : List NestedKey} (h : nkL l = some ks) : nkD (.tup l) = some (.tup ks) := by unfold nkD; rw [h]
theorem nkL_c {d : D} {r : List D} {k : NestedKey} {ks : List NestedKey} (h : nkD d = some k) (h2 : nkL r = some ks) : nkL (d :: r) = some (k :: ks) := by unfold nkL; rw [h, h2]
theorem nkL_n : nkL [] = some [] := by unfold nkL; rfl
/-! a dict, as a list of pairs -/
section
variable {K : Type} [DecidableEq K] {enc : K → D} {nk : K → NestedKey}
end
/-! such dicts in a cell -/
section
variable {K : Type} [DecidableEq K] {enc : K → D} {nk : K → NestedKey} {X J : Store} {sl : List (Option R)} {S : List (K × Int)} {k : K} {v : Int}
end
end Lib

set_option Elab.async false
set_option linter.all false
set_option maxRecDepth 100000
set_option exponentiation.threshold 2000
namespace Lib
open PySem PySem.Spec PyProof.Rows L2 Dd
/-! ### how many states there are -/
/-- a state of n looks -/
structure KIn (n : Nat) (κ : KT) : Prop where
  la : κ.1.1.length = n
  ld : κ.1.2.1.length = n
  lk : κ.1.2.2.length = n
  ba : ∀ v ∈ κ.1.1, 0 ≤ v ∧ v < 2
  bd : ∀ v ∈ κ.1.2.1, 0 ≤ v ∧ v < 2
  bk : ∀ v ∈ κ.1.2.2, 0 ≤ v ∧ v < 3
end Lib

set_option Elab.async false
set_option linter.all false
set_option maxRecDepth 100000
set_option exponentiation.threshold 2000
namespace Lib
open PySem PySem.Spec PyProof.Rows L2 Dd
/-! ### tally -/
theorem stepList_len (s : Nat) (bx b : Int) : ∀ {looks : List Look} {a d k : List Int}, a.length = looks.length → d.length = looks.length → k.length = looks.length → (stepList s bx b looks a d k).length = looks.length
  | [], _, _, _, _, _, _ => rfl
  | L :: Ls, a :: as, d :: ds, k :: ks, h1, h2, h3 => by
    show (_ :: stepList s bx b Ls as ds ks).length = _
    rw [List.length_cons, stepList_len s bx b (by simpa using h1) (by simpa using h2) (by simpa using h3)]; rfl
  | L :: Ls, [], _, _, h1, _, _ => by simp at h1
  | L :: Ls, _ :: _, [], _, _, h2, _ => by simp at h2
  | L :: Ls, _ :: _, _ :: _, [], _, _, h3 => by simp at h3
theorem tPut_keys {S : List (KT × Int)} {o : Option KT} {v : Int} {κ : KT} (h : κ ∈ tKeys (tPut S o v)) : κ ∈ tKeys S ∨ o = some κ := by
  cases o with
  | none => exact .inl h
  | some k =>
    have h : κ ∈ tKeys (tAdd S k v) := h
    rw [tAdd_keys] at h
    split at h
    · exact .inl h
    · rcases List.mem_append.mp h with h | h
      · exact .inl h
      · exact .inr (by rw [List.mem_singleton.mp h])
theorem stepList_in {s : Nat} {bx b : Int} (x0 : 0 ≤ bx) (x1 : bx ≤ 1) (y0 : 0 ≤ b) (y1 : b ≤ 1) : ∀ {looks : List Look} {a d k : List Int}, (∀ L ∈ looks, LkOk L) → (∀ v ∈ a, 0 ≤ v ∧ v < 2) → (∀ v ∈ d, 0 ≤ v ∧ v < 2) → (∀ v ∈ k, 0 ≤ v ∧ v < 3) →
    ∀ q ∈ stepList s bx b looks a d k, (0 ≤ q.1 ∧ q.1 < 2) ∧ (0 ≤ q.2.1 ∧ q.2.1 < 2) ∧ (0 ≤ q.2.2 ∧ q.2.2 < 3)
  | [], _, _, _, _, _, _, _, q, h => by cases h
  | L :: Ls, [], _, _, _, _, _, _, q, h => by cases h
  | L :: Ls, _ :: _, [], _, _, _, _, _, q, h => by cases h
  | L :: Ls, _ :: _, _ :: _, [], _, _, _, _, q, h => by cases h
  | L :: Ls, a :: as, d :: ds, k :: ks, ok, ha, hd, hk, q, h => by
    have h : q ∈ lkStep s L bx b (a, d, k) :: stepList s bx b Ls as ds ks := h
    rcases List.mem_cons.mp h with rfl | h
    · have va := ha a (by simp)
      have vd := hd d (by simp)
      have vk := hk k (by simp)
      unfold lkStep
      simp only
      refine ⟨by omega, by omega, ?_⟩
      split
      · unfold cmpD
        split
        · omega
        · split <;> omega
      · exact vk
    · exact stepList_in x0 x1 y0 y1 (fun L hL => ok L (by simp [hL])) (fun v hv => ha v (by simp [hv])) (fun v hv => hd v (by simp [hv])) (fun v hv => hk v (by simp [hv])) q h
theorem stepK_in {mv : List Look} (ok : ∀ L ∈ mv, LkOk L) {ws : Option (List Int)} {w h : Int} {s : Nat} {κ μ : KT} (hκ : KIn mv.length κ) {x y : Int} (x0 : 0 ≤ x) (x1 : x ≤ 1) (y0 : 0 ≤ y) (y1 : y ≤ 1) (e : stepK mv ws w h s κ x y = some μ) : KIn mv.length μ := by
  unfold stepK at e
  simp only at e
  split at e
  · cases e
    have ll := stepList_len s x y hκ.la hκ.ld hκ.lk
    have li := stepList_in (s := s) x0 x1 y0 y1 ok hκ.ba hκ.bd hκ.bk
    refine ⟨?_, ?_, ?_, fun v hv => ?_, fun v hv => ?_, fun v hv => ?_⟩
    · show (List.map _ _).length = _; rw [List.length_map, ll]
    · show (List.map _ _).length = _; rw [List.length_map, ll]
    · show (List.map _ _).length = _; rw [List.length_map, ll]
    · obtain ⟨q, hq, rfl⟩ := List.mem_map.mp hv; exact (li q hq).1
    · obtain ⟨q, hq, rfl⟩ := List.mem_map.mp hv; exact (li q hq).2.1
    · obtain ⟨q, hq, rfl⟩ := List.mem_map.mp hv; exact (li q hq).2.2
  · cases e
/-- the states so far: apart, each of n looks -/
structure StsOk (n : Nat) (S : List (KT × Int)) : Prop where
  nd : (tKeys S).Nodup
  ki : ∀ κ ∈ tKeys S, KIn n κ
theorem StsOk.put {mv : List Look} (ok : ∀ L ∈ mv, LkOk L) {ws : Option (List Int)} {w h : Int} {s : Nat} {κ : KT} (hκ : KIn mv.length κ) {x y : Int} (x0 : 0 ≤ x) (x1 : x ≤ 1) (y0 : 0 ≤ y) (y1 : y ≤ 1) {S : List (KT × Int)} {t : Int} (so : StsOk mv.length S) : StsOk mv.length (tPut S (stepK mv ws w h s κ x y) t) :=
  ⟨tPut_nodup so.nd, fun μ hμ => (tPut_keys hμ).elim (so.ki μ) fun e => stepK_in ok hκ x0 x1 y0 y1 e⟩
theorem StsOk.four {mv : List Look} (ok : ∀ L ∈ mv, LkOk L) {ws : Option (List Int)} {w h : Int} {s : Nat} {κ : KT} (hκ : KIn mv.length κ) {S : List (KT × Int)} {t : Int} (so : StsOk mv.length S) : StsOk mv.length (tFour (stepK mv ws w h s) S (κ, t)) :=
  (((so.put ok hκ (Int.le_refl 0) (by decide) (Int.le_refl 0) (by decide)).put ok hκ (Int.le_refl 0) (by decide) (by decide) (Int.le_refl 1)).put ok hκ (by decide) (Int.le_refl 1) (Int.le_refl 0) (by decide)).put ok hκ (by decide) (Int.le_refl 1) (by decide) (Int.le_refl 1)
/-! how often: at most 4 ** digits -/
section
variable {K : Type} [DecidableEq K]
def Pos0 (S : List (K × Int)) : Prop := ∀ p ∈ S, 0 ≤ p.2
theorem Pos0.add {v : Int} (hv : 0 ≤ v) (k : K) : ∀ {S : List (K × Int)}, Pos0 S → Pos0 (tAdd S k v)
  | [], _ => fun p hp => by rw [List.mem_singleton.mp hp]; exact hv
  | (j, u) :: S, h => by
    have hu : 0 ≤ u := h (j, u) (by simp)
    unfold tAdd
    split
    · intro p hp
      rcases List.mem_cons.mp hp with e | hp
      · rw [e]; show 0 ≤ u + v; omega
      · exact h p (by simp [hp])
    · intro p hp
      rcases List.mem_cons.mp hp with e | hp
      · rw [e]; exact hu
      · exact Pos0.add hv k (fun q hq => h q (by simp [hq])) p hp
theorem Pos0.put {v : Int} (hv : 0 ≤ v) {o : Option K} {S : List (K × Int)} (h : Pos0 S) : Pos0 (tPut S o v) := by
  cases o with
  | none => exact h
  | some k => exact Pos0.add hv k h
theorem Pos0.fold {st : K → Int → Int → Option K} : ∀ {T S : List (K × Int)}, Pos0 T → Pos0 S → Pos0 (T.foldl (tFour st) S)
  | [], _, _, h => h
  | p :: T, S, hT, h => by
    have hp := hT p (by simp)
    exact Pos0.fold (T := T) (fun q hq => hT q (by simp [hq])) ((((h.put hp).put hp).put hp).put hp)
theorem Pos0.run (st : Nat → K → Int → Int → Option K) (k0 : K) : ∀ s, Pos0 (tRun st k0 s)
  | 0 => fun p hp => by rw [List.mem_singleton.mp hp]; show (0 : Int) ≤ 1; decide
  | s + 1 => Pos0.fold (Pos0.run st k0 s) fun p hp => by simp at hp
end
end Lib

set_option Elab.async false
set_option linter.all false
set_option maxRecDepth 100000
set_option exponentiation.threshold 2000
namespace Lib
open PySem PySem.Spec PyProof.Rows L2 Dd
/-! ### tally, the whole -/
/-- what is found: apart, each of n truths -/
structure FndOk (n : Nat) (F : List (List Bool × Int)) : Prop where
  nd : (tKeys F).Nodup
  ln : ∀ bs ∈ tKeys F, bs.length = n
theorem FndOk.add {n : Nat} {F : List (List Bool × Int)} (h : FndOk n F) {bs : List Bool} (hb : bs.length = n) (v : Int) : FndOk n (tAdd F bs v) :=
  ⟨tAdd_nodup h.nd, fun q hq => by
    rw [tAdd_keys] at hq
    split at hq
    · exact h.ln q hq
    · rcases List.mem_append.mp hq with hq | hq
      · exact h.ln q hq
      · rw [List.mem_singleton.mp hq]; exact hb⟩
end Lib

set_option Elab.async false
set_option linter.all false
set_option maxRecDepth 100000
set_option exponentiation.threshold 2000
namespace Lib
open PySem PySem.Spec PyProof.Rows L2 Dd
/-! ### plates and conditions -/
structure Plt where
  ls : List (List Int)
  k : Int
  x : Int
  y : Int
structure PltOk (P : Plt) : Prop where
  p : Lvs P.ls
  n1 : 1 ≤ P.ls.length
  n : P.ls.length ≤ 50
  k0 : 0 ≤ P.k
  k1 : P.k ≤ 4 ^ P.ls.length
  x0 : -(1000000000000000000000000000000 : Int) ≤ P.x
  x1 : P.x ≤ (1000000000000000000000000000000 : Int)
  y0 : -(1000000000000000000000000000000 : Int) ≤ P.y
  y1 : P.y ≤ (1000000000000000000000000000000 : Int)
def pltD (P : Plt) : D := .tup [.scr (lvD P.ls), .int P.k, .int P.x, .int P.y]
structure Cnd where
  n : Nat
  x : Int
  y : Int
  b : Bool
structure CndOk (m : Nat) (c : Cnd) : Prop where
  n : c.n < m
  x0 : -(1000000000000000000000000000000 : Int) ≤ c.x
  x1 : c.x ≤ (1000000000000000000000000000000 : Int)
  y0 : -(1000000000000000000000000000000 : Int) ≤ c.y
  y1 : c.y ≤ (1000000000000000000000000000000 : Int)
end Lib

set_option Elab.async false
set_option linter.all false
set_option maxRecDepth 100000
set_option exponentiation.threshold 2000
namespace Lib
open PySem PySem.Spec PyProof.Rows L2 Dd
/-! ### count_matches -/
end Lib

set_option Elab.async false
set_option linter.all false
set_option maxRecDepth 100000
set_option exponentiation.threshold 2000
set_option maxHeartbeats 4000000
namespace Lib
open PySem PySem.Spec PyProof.Rows L2 Dd
/-! screens are known by their thresholds -/
theorem four_of {lv : List Int} (hp : lv.Perm [0, 1, 2, 3]) : ∃ a b d e, lv = [a, b, d, e] := by
  have h4 : lv.length = 4 := hp.length_eq
  match lv, h4 with
  | [a, b, d, e], _ => exact ⟨a, b, d, e, rfl⟩
theorem thr_cons (lv : List Int) (r : List (List Int)) (x y : Int) : thr (lv :: r) x y = dg lv x y * 4 ^ r.length + thr r (x / 2) (y / 2) := rfl
/-- moved by whole halves of the period -/
def mvX (ls : List (List Int)) (x y : Int) : List (List Int) := mvLv ls (x / 2 ^ (ls.length - 1) % 2 + 2 * (y / 2 ^ (ls.length - 1) % 2)).toNat
def Hlf (ls : List (List Int)) (x : Int) : Prop := x % 2 ^ (ls.length - 1) = 0
theorem mvX_ok {ls : List (List Int)} (lok : LvOk ls) (x y : Int) : LvOk (mvX ls x y) ∧ (mvX ls x y).length = ls.length := mvL_ok lok (by omega)
theorem movedX_i {ls : List (List Int)} (lok : LvOk ls) {x y : Int} (x0 : -(1000000000000000000000000000000 : Int) ≤ x) (x1 : x ≤ (1000000000000000000000000000000 : Int)) (y0 : -(1000000000000000000000000000000 : Int) ≤ y) (y1 : y ≤ (1000000000000000000000000000000 : Int)) (hx : Hlf ls x) (hy : Hlf ls y) (st : Store) :
    s_moved [.p (.scr (lvD ls)), .p (.int x), .p (.int y)] st = .ok (.new (.obj 0 [("own_levels", .tup (lvD (mvX ls x y)))])) st := moved_i lok x0 x1 y0 y1 hx hy st
theorem half_two {n : Nat} (h : 1 ≤ n) : (2 : Int) ^ n = 2 * 2 ^ (n - 1) := by
  obtain ⟨m, rfl⟩ : ∃ m, n = m + 1 := ⟨n - 1, by omega⟩
  rw [Int.pow_succ, Nat.add_sub_cancel]; omega
theorem thr_mvX {ls : List (List Int)} (lok : LvOk ls) {x y : Int} (hx : Hlf ls x) (hy : Hlf ls y) (X Y : Int) : thr (mvX ls x y) X Y = thr ls (X - x) (Y - y) := by
  obtain ⟨d1, d2, hp⟩ := id lok
  have h2 := half_two d1
  unfold Hlf at hx hy
  unfold mvX
  generalize hH : (2 : Int) ^ (ls.length - 1) = H at *
  have e : (x / H % 2 + 2 * (y / H % 2)).toNat = (x / H % 2).toNat + 2 * (y / H % 2).toNat := by omega
  rw [e, thr_mv (by omega) (by omega) ls X Y (by intro e; rw [e] at d1; simp at d1) (fun l h => (hp l h).length_eq), hH]
  have ex := Int.mul_ediv_add_emod x H
  have ey := Int.mul_ediv_add_emod y H
  have g : ∀ (Z z : Int), z % H = 0 → H * (z / H) + z % H = z → Z - ((z / H % 2).toNat : Int) * H = Z - z + (z / H / 2) * 2 ^ ls.length := fun Z z hz ez => by
    rw [h2]
    have q := Int.mul_ediv_add_emod (z / H) 2
    have t : ((z / H % 2).toNat : Int) = z / H % 2 := by omega
    rw [t]
    have : z = H * (2 * (z / H / 2) + z / H % 2) := by rw [q]; omega
    generalize z / H / 2 = u at *
    generalize z / H % 2 = v at *
    rw [this, Int.mul_add, ← Int.mul_assoc u 2 H, Int.mul_comm v H, Int.mul_comm u 2, Int.mul_comm H (2 * u)]
    omega
  rw [g X x hx ex, g Y y hy ey, thr_per]
theorem xorL_inj {lv : List Int} (hp : lv.Perm [0, 1, 2, 3]) {c d : Nat} (hc : c < 4) (hd : d < 4) (h : xorL lv c = xorL lv d) : c = d := by
  have nd : lv.Nodup := hp.nodup_iff.mpr (by decide)
  obtain ⟨p, q, r, s, rfl⟩ := four_of hp
  simp only [List.nodup_cons, List.mem_cons, List.not_mem_nil, or_false, not_or] at nd
  obtain ⟨⟨n1, n2, n3⟩, ⟨n4, n5⟩, n6, _⟩ := nd
  match c, hc, d, hd with
  | 0, _, 0, _ => rfl
  | 1, _, 1, _ => rfl
  | 2, _, 2, _ => rfl
  | 3, _, 3, _ => rfl
  | 0, _, 1, _ => exact (n1 (List.cons.inj (show [p, q, r, s] = [q, p, s, r] from h)).1).elim
  | 0, _, 2, _ => exact (n2 (List.cons.inj (show [p, q, r, s] = [r, s, p, q] from h)).1).elim
  | 0, _, 3, _ => exact (n3 (List.cons.inj (show [p, q, r, s] = [s, r, q, p] from h)).1).elim
  | 1, _, 0, _ => exact (n1 (List.cons.inj (show [q, p, s, r] = [p, q, r, s] from h)).1.symm).elim
  | 1, _, 2, _ => exact (n4 (List.cons.inj (show [q, p, s, r] = [r, s, p, q] from h)).1).elim
  | 1, _, 3, _ => exact (n5 (List.cons.inj (show [q, p, s, r] = [s, r, q, p] from h)).1).elim
  | 2, _, 0, _ => exact (n2 (List.cons.inj (show [r, s, p, q] = [p, q, r, s] from h)).1.symm).elim
  | 2, _, 1, _ => exact (n4 (List.cons.inj (show [r, s, p, q] = [q, p, s, r] from h)).1.symm).elim
  | 2, _, 3, _ => exact (n6 (List.cons.inj (show [r, s, p, q] = [s, r, q, p] from h)).1).elim
  | 3, _, 0, _ => exact (n3 (List.cons.inj (show [s, r, q, p] = [p, q, r, s] from h)).1.symm).elim
  | 3, _, 1, _ => exact (n5 (List.cons.inj (show [s, r, q, p] = [q, p, s, r] from h)).1.symm).elim
  | 3, _, 2, _ => exact (n6 (List.cons.inj (show [s, r, q, p] = [r, s, p, q] from h)).1.symm).elim
theorem shift_mv_i {ls : List (List Int)} (lok : LvOk ls) {x y : Int} (x0 : x = 0 ∨ x = 1) (y0 : y = 0 ∨ y = 1) (st : Store) : s_shift_between [.p (.scr (lvD ls)), .p (.scr (lvD (mvLv ls (x + 2 * y).toNat)))] st = .ok (.val (.tup [.int (x * 2 ^ (ls.length - 1)), .int (y * 2 ^ (ls.length - 1))])) st := by
  obtain ⟨d1, d2, hp⟩ := id lok
  obtain ⟨q, lv, rfl⟩ : ∃ q lv, ls = q ++ [lv] := ⟨ls.dropLast, ls.getLast (by intro e; rw [e] at d1; simp at d1), (List.dropLast_concat_getLast _).symm⟩
  have hlv := hp lv (by simp)
  have ml := fun (x y : Int) (x0 : x = 0 ∨ x = 1) (y0 : y = 0 ∨ y = 1) st => moved_levels_i (ls := q) (lv := lv) (by simpa using d2) hlv.length_eq x0 y0 st
  have m00 := ml 0 0 (.inl rfl) (.inl rfl)
  have m01 := ml 0 1 (.inl rfl) (.inr rfl)
  have m10 := ml 1 0 (.inr rfl) (.inl rfl)
  have m11 := ml 1 1 (.inr rfl) (.inr rfl)
  have dl : ((q.length + 1 : Nat) : Int) - 1 = (q.length : Int) := by omega
  have q50 : q.length ≤ 50 := by simp at d2; omega
  have rl : (q ++ [lv]).length - 1 = q.length := by simp
  have sh0 : ∀ S : Sg, opShl (.p (.int 0)) (.p (.int (q.length : Int))) S = .ok (.p (.int 0)) S := fun S => by
    rw [opShl_i ⟨by omega, by rw [show Builtin.Int.intBits 0 = 0 from by decide]; omega⟩, Int.zero_mul]
  have sh1 : ∀ S : Sg, opShl (.p (.int 1)) (.p (.int (q.length : Int))) S = .ok (.p (.int (2 ^ q.length))) S := fun S => by
    rw [opShl_i (cshl1 (by omega) (by omega)), Int.one_mul, Int.toNat_natCast]
  have de : ∀ c d : Nat, c < 4 → d < 4 → decide (mvLv (q ++ [lv]) c = mvLv (q ++ [lv]) d) = decide (c = d) := fun c d hc hd => by
    rw [mvL_eq, mvL_eq]
    by_cases h : c = d
    · subst h; simp
    · rw [decide_eq_false h, decide_eq_false]
      intro e
      exact h (xorL_inj hlv hc hd (by simpa using e))
  rw [rl]
  refine fin_eq ?_
  unfold s_shift_between b_shift_between
  have nq : ∀ c d : Nat, c < 4 → d < 4 → c ≠ d → (mvLv (q ++ [lv]) c = mvLv (q ++ [lv]) d) = False := fun c d hc hd h => by
    have := de c d hc hd
    rw [decide_eq_false h] at this
    simpa using this
  have e02 := nq 0 2 (by decide) (by decide) (by decide)
  have e01 := nq 0 1 (by decide) (by decide) (by decide)
  have e03 := nq 0 3 (by decide) (by decide) (by decide)
  have e21 := nq 2 1 (by decide) (by decide) (by decide)
  have e23 := nq 2 3 (by decide) (by decide) (by decide)
  have e13 := nq 1 3 (by decide) (by decide) (by decide)
  rcases x0 with rfl | rfl <;> rcases y0 with rfl | rfl
  · simp! [bnd_bnd, require_screen_ok]
    rw [loop_cons trivial, bind_bnd]
    simp! [bnd_bnd]
    rw [loop_cons trivial, bind_bnd]
    simp! [bnd_bnd, m00, levels_p, opEqD_K, dataR_r, dataK_lv, eqDK_ll, depth_p, dl, sh0, sh1, loopK]
    exact wpf_ok ⟨by simp, rfl⟩
  · simp! [bnd_bnd, require_screen_ok]
    rw [loop_cons trivial, bind_bnd]
    simp! [bnd_bnd]
    rw [loop_cons trivial, bind_bnd]
    simp! [bnd_bnd, m00, levels_p, opEqD_K, dataR_r, dataK_lv, eqDK_ll, depth_p, dl, sh0, sh1, loopK, e02, if_false]
    rw [loop_cons trivial, bind_bnd]
    simp! [bnd_bnd, m01, levels_p, opEqD_K, dataR_r, dataK_lv, eqDK_ll, depth_p, dl, sh0, sh1, loopK]
    exact wpf_ok ⟨by simp, by simp! []⟩
  · simp! [bnd_bnd, require_screen_ok]
    rw [loop_cons trivial, bind_bnd]
    simp! [bnd_bnd]
    rw [loop_cons trivial, bind_bnd]
    simp! [bnd_bnd, m00, levels_p, opEqD_K, dataR_r, dataK_lv, eqDK_ll, depth_p, dl, sh0, sh1, loopK, e01, if_false]
    rw [loop_cons trivial, bind_bnd]
    simp! [bnd_bnd, m01, levels_p, opEqD_K, dataR_r, dataK_lv, eqDK_ll, depth_p, dl, sh0, sh1, loopK, e21, if_false]
    simp! [bnd_bnd, loop_nil, loopK]
    rw [loop_cons trivial, bind_bnd]
    simp! [bnd_bnd]
    rw [loop_cons trivial, bind_bnd]
    simp! [bnd_bnd, m10, levels_p, opEqD_K, dataR_r, dataK_lv, eqDK_ll, depth_p, dl, sh0, sh1, loopK]
    exact wpf_ok ⟨by simp, by simp! []⟩
  · simp! [bnd_bnd, require_screen_ok]
    rw [loop_cons trivial, bind_bnd]
    simp! [bnd_bnd]
    rw [loop_cons trivial, bind_bnd]
    simp! [bnd_bnd, m00, levels_p, opEqD_K, dataR_r, dataK_lv, eqDK_ll, depth_p, dl, sh0, sh1, loopK, e03, if_false]
    rw [loop_cons trivial, bind_bnd]
    simp! [bnd_bnd, m01, levels_p, opEqD_K, dataR_r, dataK_lv, eqDK_ll, depth_p, dl, sh0, sh1, loopK, e23, if_false]
    simp! [bnd_bnd, loop_nil, loopK]
    rw [loop_cons trivial, bind_bnd]
    simp! [bnd_bnd]
    rw [loop_cons trivial, bind_bnd]
    simp! [bnd_bnd, m10, levels_p, opEqD_K, dataR_r, dataK_lv, eqDK_ll, depth_p, dl, sh0, sh1, loopK, e13, if_false]
    rw [loop_cons trivial, bind_bnd]
    simp! [bnd_bnd, m11, levels_p, opEqD_K, dataR_r, dataK_lv, eqDK_ll, depth_p, dl, sh0, sh1, loopK]
    exact wpf_ok ⟨by simp, by simp! []⟩
theorem shiftX_i {ls : List (List Int)} (lok : LvOk ls) {x y : Int} (hx : Hlf ls x) (hy : Hlf ls y) (st : Store) : s_shift_between [.p (.scr (lvD ls)), .p (.scr (lvD (mvX ls x y)))] st = .ok (.val (.tup [.int (x % 2 ^ ls.length), .int (y % 2 ^ ls.length)])) st := by
  have h := shift_mv_i lok (x := x / 2 ^ (ls.length - 1) % 2) (y := y / 2 ^ (ls.length - 1) % 2) (by omega) (by omega) st
  have p := two_pos (ls.length - 1)
  have g : ∀ z : Int, Hlf ls z → z / 2 ^ (ls.length - 1) % 2 * 2 ^ (ls.length - 1) = z % 2 ^ ls.length := fun z hz => by
    unfold Hlf at hz
    rw [half_two lok.1]
    generalize (2 : Int) ^ (ls.length - 1) = H at *
    have e := Int.mul_ediv_add_emod z H
    rw [hz, Int.add_zero] at e
    generalize z / H = u at *
    subst e
    rw [Int.mul_comm 2 H, Int.mul_emod_mul_of_pos _ _ p, Int.mul_comm]
  unfold mvX
  rw [h, g x hx, g y hy]
end Lib

set_option Elab.async false
set_option linter.all false
set_option maxRecDepth 100000
set_option exponentiation.threshold 2000
set_option maxHeartbeats 4000000
namespace Lib
open PySem PySem.Spec PyProof.Rows L2 Dd
/-! moved by what is no half; shifts that are none; screens made of thresholds -/
theorem movedN_i {ls : List (List Int)} (lok : LvOk ls) {x y : Int} (x0 : -(1000000000000000000000000000000 : Int) ≤ x) (x1 : x ≤ (1000000000000000000000000000000 : Int)) (y0 : -(1000000000000000000000000000000 : Int) ≤ y) (y1 : y ≤ (1000000000000000000000000000000 : Int)) (h : ¬ (Hlf ls x ∧ Hlf ls y)) (st : Store) :
    s_moved [.p (.scr (lvD ls)), .p (.int x), .p (.int y)] st = .ok (.val .non) st := by
  obtain ⟨d1, d2, hp⟩ := id lok
  obtain ⟨r, lv, rfl⟩ : ∃ r lv, ls = r ++ [lv] := ⟨ls.dropLast, ls.getLast (by intro e; rw [e] at d1; simp at d1), (List.dropLast_concat_getLast _).symm⟩
  have rl : (r ++ [lv]).length - 1 = r.length := by simp
  unfold Hlf at h
  rw [rl] at h
  have dl : ((r.length + 1 : Nat) : Int) - 1 = (r.length : Int) := by omega
  have r50 : r.length ≤ 50 := by simp at d2; omega
  unfold s_moved b_moved
  by_cases hx : x % 2 ^ r.length = 0
  · have hy : (y % 2 ^ r.length != 0) = true := by simp; exact fun e => h ⟨hx, e⟩
    simp! [require_screen_ok, require_place_ok x0 x1 y0 y1, depth_p, dl, opShl_i (cshl1 (j := (r.length : Int)) (by omega) (by omega)), shl_two, maskb', hx, hy, tstI_ap, toBI_i, Int.one_mul, bne_self_eq_false, Int.toNat_natCast]
  · have hx : (x % 2 ^ r.length != 0) = true := by simp; exact hx
    simp! [require_screen_ok, require_place_ok x0 x1 y0 y1, depth_p, dl, opShl_i (cshl1 (j := (r.length : Int)) (by omega) (by omega)), shl_two, maskb', hx, tstI_ap, toBI_i, Int.one_mul, Int.toNat_natCast]
theorem shiftN_i {ls ms : List (List Int)} (lok : LvOk ls) (h : ∀ c : Nat, c < 4 → mvLv ls c ≠ ms) (st : Store) : s_shift_between [.p (.scr (lvD ls)), .p (.scr (lvD ms))] st = .ok (.val .non) st := by
  obtain ⟨d1, d2, hp⟩ := id lok
  obtain ⟨q, lv, rfl⟩ : ∃ q lv, ls = q ++ [lv] := ⟨ls.dropLast, ls.getLast (by intro e; rw [e] at d1; simp at d1), (List.dropLast_concat_getLast _).symm⟩
  have hlv := hp lv (by simp)
  have ml := fun (x y : Int) (x0 : x = 0 ∨ x = 1) (y0 : y = 0 ∨ y = 1) st => moved_levels_i (ls := q) (lv := lv) (by simpa using d2) hlv.length_eq x0 y0 st
  have m00 := ml 0 0 (.inl rfl) (.inl rfl)
  have m01 := ml 0 1 (.inl rfl) (.inr rfl)
  have m10 := ml 1 0 (.inr rfl) (.inl rfl)
  have m11 := ml 1 1 (.inr rfl) (.inr rfl)
  have e0 : (mvLv (q ++ [lv]) 0 = ms) = False := eq_false (h 0 (by decide))
  have e1 : (mvLv (q ++ [lv]) 1 = ms) = False := eq_false (h 1 (by decide))
  have e2 : (mvLv (q ++ [lv]) 2 = ms) = False := eq_false (h 2 (by decide))
  have e3 : (mvLv (q ++ [lv]) 3 = ms) = False := eq_false (h 3 (by decide))
  refine fin_eq ?_
  unfold s_shift_between b_shift_between
  simp! [bnd_bnd, require_screen_ok]
  rw [loop_cons trivial, bind_bnd]
  simp! [bnd_bnd]
  rw [loop_cons trivial, bind_bnd]
  simp! [bnd_bnd, m00, levels_p, opEqD_K, dataR_r, dataK_lv, eqDK_ll, loopK, e0, if_false]
  rw [loop_cons trivial, bind_bnd]
  simp! [bnd_bnd, m01, levels_p, opEqD_K, dataR_r, dataK_lv, eqDK_ll, loopK, e2, if_false]
  simp! [bnd_bnd, loop_nil, loopK]
  rw [loop_cons trivial, bind_bnd]
  simp! [bnd_bnd]
  rw [loop_cons trivial, bind_bnd]
  simp! [bnd_bnd, m10, levels_p, opEqD_K, dataR_r, dataK_lv, eqDK_ll, loopK, e1, if_false]
  rw [loop_cons trivial, bind_bnd]
  simp! [bnd_bnd, m11, levels_p, opEqD_K, dataR_r, dataK_lv, eqDK_ll, loopK, e3, if_false]
  simp! [bnd_bnd, loop_nil, loopK]
  exact wpf_ok ⟨by simp, by simp! []⟩
/-- four digits in each level -/
def Lv4 (F : List (List Int)) : Prop := ∀ l ∈ F, l.length = 4 ∧ ∀ z ∈ l, 0 ≤ z ∧ z < 4
theorem dg4_bd {l : List Int} (h : l.length = 4 ∧ ∀ z ∈ l, 0 ≤ z ∧ z < 4) (x y : Int) : 0 ≤ dg l x y ∧ dg l x y < 4 := by
  obtain ⟨a, b, c, d, rfl⟩ : ∃ a b c d, l = [a, b, c, d] := by
    match l, h.1 with
    | [a, b, c, d], _ => exact ⟨a, b, c, d, rfl⟩
  unfold dg
  obtain hc := cellix x y
  generalize hk : (x % 2 + 2 * (y % 2)).toNat = k
  have k4 : k < 4 := by omega
  have := h.2
  match k, k4 with
  | 0, _ => exact this a (by simp)
  | 1, _ => exact this b (by simp)
  | 2, _ => exact this c (by simp)
  | 3, _ => exact this d (by simp)
theorem dg4_ix {lv : List Int} (h : lv.length = 4) (x y : Int) (S : Sg) : ixK (lv.map .int) (x % 2 + 2 * (y % 2)) S = .ok (.p (.int (dg lv x y))) S := by
  have hc := cellix x y
  refine ixK_of (atI_of hc.1 ?_)
  rw [List.getElem?_map]
  unfold dg
  rw [List.getD_eq_getElem?_getD]
  have : (x % 2 + 2 * (y % 2)).toNat < lv.length := by omega
  rw [List.getElem?_eq_getElem this]; rfl
theorem thr4_bd : ∀ {F : List (List Int)} (x y : Int), Lv4 F → 0 ≤ thr F x y ∧ thr F x y < 4 ^ F.length
  | [], x, y, h => by simp [thr]
  | lv :: r, x, y, h => by
    obtain ⟨a, b⟩ := thr4_bd (F := r) (x / 2) (y / 2) fun l hl => h l (List.mem_cons_of_mem _ hl)
    obtain ⟨c, d⟩ := dg4_bd (h lv List.mem_cons_self) x y
    rw [thr_cons, List.length_cons, Int.pow_succ]
    have p := four_pos r.length
    have q : dg lv x y * 4 ^ r.length ≤ 3 * 4 ^ r.length := Int.mul_le_mul_of_nonneg_right (by omega) (Int.le_of_lt p)
    have q0 : 0 ≤ dg lv x y * 4 ^ r.length := Int.mul_nonneg c (Int.le_of_lt p)
    omega
/-- a digit of a threshold -/
theorem thr_dig : ∀ {F : List (List Int)} {s : Nat} {lv : List Int} (X Y : Int), Lv4 F → F[s]? = some lv → thr F X Y / 4 ^ (F.length - 1 - s) % 4 = dg lv (X / 2 ^ s) (Y / 2 ^ s)
  | [], s, lv, X, Y, _, h => by simp at h
  | a :: r, 0, lv, X, Y, hF, h => by
    obtain rfl : a = lv := by simpa using h
    obtain ⟨t0, t1⟩ := thr4_bd (F := r) (X / 2) (Y / 2) fun l hl => hF l (List.mem_cons_of_mem _ hl)
    obtain ⟨c, d⟩ := dg4_bd (hF a List.mem_cons_self) X Y
    rw [thr_cons, show (a :: r).length - 1 - 0 = r.length by simp, Int.add_comm, Int.add_mul_ediv_right _ _ (by have := four_pos r.length; omega), Int.ediv_eq_zero_of_lt t0 t1, Int.pow_zero, Int.ediv_one, Int.ediv_one]
    omega
  | a :: r, s + 1, lv, X, Y, hF, h => by
    have h : r[s]? = some lv := by simpa using h
    have hs := (List.getElem?_eq_some_iff.mp h).1
    have ih := thr_dig (F := r) (X / 2) (Y / 2) (fun l hl => hF l (List.mem_cons_of_mem _ hl)) h
    rw [thr_cons, show (a :: r).length - 1 - (s + 1) = r.length - 1 - s by simp; omega]
    have e : (4 : Int) ^ r.length = 4 * 4 ^ s * 4 ^ (r.length - 1 - s) := by
      rw [Int.mul_assoc, ← Int.pow_add, Int.mul_comm, ← Int.pow_succ]; congr 1; omega
    rw [e, Int.add_comm, ← Int.mul_assoc, Int.add_mul_ediv_right _ _ (by have := four_pos (r.length - 1 - s); omega)]
    have d2 : ∀ z : Int, z / 2 ^ (s + 1) = z / 2 / 2 ^ s := fun z => by
      rw [Int.pow_succ, Int.mul_comm, Int.ediv_ediv_of_nonneg (by decide)]
    rw [d2, d2, ← ih]
    have m : dg a X Y * (4 * 4 ^ s) = 4 * (dg a X Y * 4 ^ s) := by rw [Int.mul_left_comm]
    rw [m, Int.add_mul_emod_self_left]
theorem lvs_lv4 {ls : List (List Int)} (h : Lvs ls) : Lv4 ls := fun l hl => ⟨(h l hl).length_eq, fun z hz => by
  have := (h l hl).mem_iff.mp hz
  simp only [List.mem_cons, List.not_mem_nil, or_false] at this
  omega⟩
theorem thr4v_i {ls : List (List Int)} (h : Lv4 ls) (hl : ls.length ≤ 50) (x y : Int) (st : Store) : s_z_law_threshold_v1 [.p (.lst (lvD ls)), .p (.int x), .p (.int y)] st = .ok (.val (.int (thr ls x y))) st := by
  have tb : ∀ i, CMulW 4 (thr (ls.take i) x y) := fun i => by
    obtain ⟨a, b⟩ := thr4_bd (F := ls.take i) x y fun l hl => h l (List.mem_of_mem_take hl)
    have le : (4 : Int) ^ (ls.take i).length ≤ 4 ^ 50 := by
      exact_mod_cast Nat.pow_le_pow_right (by decide) (show (ls.take i).length ≤ 50 by rw [List.length_take]; omega)
    have e : (4 : Int) ^ 50 = ((2 ^ 100 : Nat) : Int) := by decide
    exact cmulw (n := 3) (m := 100) (Bt.of (by decide)) (Bt.of (by omega))
  unfold s_z_law_threshold_v1 b_z_law_threshold_v1
  simp! []
  refine fin_eq (wp_fin (wp_bnd (wp_loop (I := fun i S => ∃ z w, S = ⟨[some (.p (.lst (lvD ls))), some (.p (.int x)), some (.p (.int y)), some (.p (.int (thr (ls.take i) x y))), z, w], st⟩) ?_ ?_ ?_ ?_)))
  · exact ⟨none, none, rfl⟩
  · rintro j S ⟨z, w, rfl⟩; trivial
  · rintro j d S hj ⟨z, w, rfl⟩
    obtain ⟨d', rfl, hd⟩ := numbered_at hj
    obtain ⟨lv, hlv, rfl, hm⟩ := lvD_get hd
    rw [bind_bnd]
    have e0 : ((0 + j : Nat) : Int) = (j : Int) := by omega
    simp! [e0, opShr_i (i := x) (j := (j : Int)) (by omega), opShr_i (i := y) (j := (j : Int)) (by omega), Int.toNat_natCast, band1, opMul_i (tb j), opMul_i (two_mul_sm (z := y / 2 ^ j % 2) (by omega) (by omega)), dg4_ix (h lv hm).1]
    rw [← thr_take hlv]
    exact wp_ok ⟨_, _, rfl⟩
  · rintro S ⟨z, w, rfl⟩
    rw [numbered_len, lvD_len, List.take_length]
    simp! []
    refine wp_ok ?_
    simp! []
    exact wpf_ok ⟨rfl, rfl⟩
theorem dg_inj {lv : List Int} (h : lv.Perm [0, 1, 2, 3]) {X Y X' Y' : Int} (e : dg lv X Y = dg lv X' Y') : X % 2 = X' % 2 ∧ Y % 2 = Y' % 2 := by
  have a := ci4_dg h (X := X) (Y := Y)
  have b := ci4_dg h (X := X') (Y := Y')
  rw [e] at a
  have : (X % 2 + 2 * (Y % 2)).toNat = (X' % 2 + 2 * (Y' % 2)).toNat := by rw [← a, ← b]
  omega
/-- the digits read off at sample places -/
def mdL (ls : List (List Int)) (x y : Int) (s : Nat) : List Int := (List.range 4).map fun c => thr ls (((c % 2 : Nat) : Int) * 2 ^ s - x) (((c / 2 : Nat) : Int) * 2 ^ s - y) / 4 ^ (ls.length - 1 - s) % 4
def md (ls : List (List Int)) (x y : Int) : List (List Int) := (List.range ls.length).map (mdL ls x y)
theorem mdL_4 (ls : List (List Int)) (x y : Int) (s : Nat) : (mdL ls x y s).length = 4 ∧ ∀ z ∈ mdL ls x y s, 0 ≤ z ∧ z < 4 := by
  refine ⟨by unfold mdL; simp, fun z hz => ?_⟩
  unfold mdL at hz
  obtain ⟨c, _, rfl⟩ := List.mem_map.mp hz
  omega
theorem md_len (ls : List (List Int)) (x y : Int) : (md ls x y).length = ls.length := by unfold md; simp
theorem md_4 (ls : List (List Int)) (x y : Int) : Lv4 (md ls x y) := fun l hl => by
  obtain ⟨s, _, rfl⟩ := List.mem_map.mp hl
  exact mdL_4 ls x y s
theorem md_hlf {ls : List (List Int)} (lok : LvOk ls) {x y : Int} (hx : Hlf ls x) (hy : Hlf ls y) : md ls x y = mvX ls x y := by
  obtain ⟨o1, l1⟩ := mvX_ok lok x y
  have o4 := lvs_lv4 o1.2.2
  refine List.ext_getElem? fun s => ?_
  by_cases hs : s < ls.length
  · have g : (md ls x y)[s]? = some (mdL ls x y s) := by unfold md; rw [List.getElem?_map, List.getElem?_range hs]; rfl
    obtain ⟨lv, hlv⟩ : ∃ lv, (mvX ls x y)[s]? = some lv := ⟨_, List.getElem?_eq_getElem (by omega)⟩
    rw [g, hlv]
    have hm := o4 lv (List.mem_of_getElem? hlv)
    have p := two_pos s
    have e : ∀ c : Nat, thr ls (((c % 2 : Nat) : Int) * 2 ^ s - x) (((c / 2 : Nat) : Int) * 2 ^ s - y) / 4 ^ (ls.length - 1 - s) % 4 = dg lv ((c % 2 : Nat) : Int) ((c / 2 : Nat) : Int) := fun c => by
      have t := thr_dig (((c % 2 : Nat) : Int) * 2 ^ s) (((c / 2 : Nat) : Int) * 2 ^ s) o4 hlv
      rw [thr_mvX lok hx hy, l1, Int.mul_ediv_cancel _ (by omega), Int.mul_ediv_cancel _ (by omega)] at t
      exact t
    unfold mdL
    simp only [e]
    obtain ⟨a, b, c, d, rfl⟩ : ∃ a b c d, lv = [a, b, c, d] := by
      match lv, hm.1 with
      | [a, b, c, d], _ => exact ⟨a, b, c, d, rfl⟩
    rfl
  · rw [List.getElem?_eq_none (by rw [md_len]; omega), List.getElem?_eq_none (by omega)]
theorem md_off {ls : List (List Int)} (lok : LvOk ls) {x y : Int} (h : ¬ (Hlf ls x ∧ Hlf ls y)) (e : ∀ r d : Nat, (r : Int) < 2 ^ ls.length → (d : Int) < 2 ^ ls.length → thr (md ls x y) r d = thr ls (r - x) (d - y)) : False := by
  obtain ⟨d1, d2, hp⟩ := id lok
  have h2 := half_two d1
  have pH := two_pos (ls.length - 1)
  unfold Hlf at h
  obtain ⟨lv, hlv⟩ : ∃ lv, ls[ls.length - 1]? = some lv := ⟨_, List.getElem?_eq_getElem (by omega)⟩
  obtain ⟨lf, hlf⟩ : ∃ lf, (md ls x y)[ls.length - 1]? = some lf := ⟨_, List.getElem?_eq_getElem (by rw [md_len]; omega)⟩
  have t : ∀ r d : Nat, (r : Int) < 2 ^ (ls.length - 1) → (d : Int) < 2 ^ (ls.length - 1) → dg lf 0 0 = dg lv ((r - x) / 2 ^ (ls.length - 1)) ((d - y) / 2 ^ (ls.length - 1)) := fun r d hr hd => by
    have a := thr_dig (r : Int) (d : Int) (md_4 ls x y) hlf
    have b := thr_dig ((r : Int) - x) ((d : Int) - y) (lvs_lv4 hp) hlv
    rw [e r d (by omega) (by omega), md_len, Int.ediv_eq_zero_of_lt (by omega) hr, Int.ediv_eq_zero_of_lt (by omega) hd] at a
    rw [← a, ← b]
  have hm := hp lv (List.mem_of_getElem? hlv)
  generalize (2 : Int) ^ (ls.length - 1) = H at *
  have ex := Int.mul_ediv_add_emod x H
  have ey := Int.mul_ediv_add_emod y H
  have bx := Int.emod_nonneg x (show H ≠ 0 by omega)
  have bx' := Int.emod_lt_of_pos x (show 0 < H by omega)
  have bY := Int.emod_nonneg y (show H ≠ 0 by omega)
  have by' := Int.emod_lt_of_pos y (show 0 < H by omega)
  have key : ∀ z : Int, z % H ≠ 0 → 0 ≤ z % H → z % H < H → H * (z / H) + z % H = z → ((((z % H).toNat : Nat) : Int) - z) / H = -(z / H) ∧ ((((0 : Nat)) : Int) - z) / H = -(z / H) - 1 := fun z z0 z1 z2 z3 => by
    constructor
    · have : (((z % H).toNat : Nat) : Int) - z = H * (-(z / H)) := by rw [Int.mul_neg]; omega
      rw [this, Int.mul_ediv_cancel_left _ (by omega)]
    · have : (((0 : Nat)) : Int) - z = (H - z % H) + H * (-(z / H) - 1) := by rw [Int.mul_sub, Int.mul_neg, Int.mul_one]; omega
      rw [this, Int.add_mul_ediv_left _ _ (by omega), Int.ediv_eq_zero_of_lt (by omega) (by omega), Int.zero_add]
  by_cases hx : x % H = 0
  · have hy : y % H ≠ 0 := fun e => h ⟨hx, e⟩
    obtain ⟨k1, k2⟩ := key y hy bY by' ey
    have a := t 0 (y % H).toNat (by omega) (by omega)
    have b := t 0 0 (by omega) (by omega)
    rw [k1] at a
    rw [k2] at b
    have := (dg_inj hm (a.symm.trans b)).2
    omega
  · obtain ⟨k1, k2⟩ := key x hx bx bx' ex
    have a := t (x % H).toNat 0 (by omega) (by omega)
    have b := t 0 0 (by omega) (by omega)
    rw [k1] at a
    rw [k2] at b
    have := (dg_inj hm (a.symm.trans b)).1
    omega
end Lib

set_option Elab.async false
set_option linter.all false
set_option maxRecDepth 100000
set_option exponentiation.threshold 2000
namespace Lib
open PySem PySem.Spec PyProof.Rows L2 Dd
/-! ### the law's plates and conditions -/
def lpD (P : Plt) : D := .tup [.lst (lvD P.ls), .int P.k, .int P.x, .int P.y]
def scrD (P : Plt) : D := .scr (lvD P.ls)
theorem made_i {ps : List Plt} (hp : ∀ P ∈ ps, PltOk P) (h9 : ps.length ≤ 9) (st : Store) : s_z_law_made [.p (.lst (ps.map lpD))] st = .ok (.new (.lst (ps.map pltD))) st := by
  refine fin_eq ?_
  unfold s_z_law_made b_z_law_made
  simp! [bnd_bnd]
  refine wpf_bnd (wp_loop (I := fun j S => ∃ (J : Store) (s3 s4 s5 s6 s7 s8 : Option R), S = ⟨[some (.p (.lst (ps.map lpD))), some (.r st.length), some (.r (st.length + 1)), s3, s4, s5, s6, s7, s8], st ++ (.mu (.lst ((ps.take j).map pltD)) :: .mu (.lst ((ps.take j).map scrD)) :: J)⟩) ⟨[], none, none, none, none, none, none, rfl⟩ (fun _ _ _ => trivial) ?_ ?_)
  · rintro j d S hj ⟨J, s3, s4, s5, s6, s7, s8, rfl⟩
    rw [List.getElem?_map] at hj
    have j1 : j < ps.length := by
      refine Classical.byContradiction fun hn => ?_
      rw [List.getElem?_eq_none (by omega)] at hj; cases hj
    have hcj : ps[j]? = some ps[j] := List.getElem?_eq_getElem j1
    rw [hcj] at hj
    cases hj
    have P1 := hp ps[j] (List.getElem_mem j1)
    have et : ps.take (j + 1) = ps.take j ++ [ps[j]] := by rw [List.take_add_one, hcj]; rfl
    have tl : (ps.take j).length ≤ 9 := by rw [List.length_take]; omega
    rw [et]
    generalize ps[j] = P at *
    generalize ps.take j = T at *
    rw [bind_bnd]
    simp! [bnd_bnd, lpD]
    refine wp_bnd (wp_lcFin (wp_lc (I := fun i acc S => ∃ J', acc = ((T.take i).filter fun Q => decide (Q.ls = P.ls)).map scrD ∧ S = ⟨[some (.p (.lst (ps.map lpD))), some (.r st.length), some (.r (st.length + 1)), some (.p (.lst (lvD P.ls))), some (.p (.int P.k)), some (.p (.int P.x)), some (.p (.int P.y)), s7, none], st ++ (.mu (.lst (T.map pltD)) :: .mu (.lst (T.map scrD)) :: J')⟩) ⟨J, rfl, rfl⟩ ?_ ?_ ?_ ?_))
    · rintro i acc S ⟨J', _, rfl⟩
      show getLK _ = _
      rw [get_app]; rfl
    · rw [List.length_map]; omega
    · rintro i q acc S hi hla ⟨J', rfl, rfl⟩
      rw [List.getElem?_map] at hi
      have i1 : i < T.length := by
        refine Classical.byContradiction fun hn => ?_
        rw [List.getElem?_eq_none (by omega)] at hi; cases hi
      have hci : T[i]? = some T[i] := List.getElem?_eq_getElem i1
      rw [hci] at hi
      cases hi
      have eti : T.take (i + 1) = T.take i ++ [T[i]] := by rw [List.take_add_one, hci]; rfl
      rw [eti, List.filter_append]
      generalize T[i] = Q at *
      have gx : ∀ c : Cell, (st ++ (Cell.mu (.lst (T.map pltD)) :: Cell.mu (.lst (T.map scrD)) :: (J' ++ [c])))[st.length + (J'.length + 1 + 1)]? = some c := fun c => by
        rw [get_app]
        show (J' ++ [c])[J'.length]? = _
        simp
      by_cases hq : Q.ls = P.ls
      · simp! [bnd_bnd, lcB1_t, scrD, levels_p, opEqD_K, dataR_r, gx, dataK_lv, dataR_p, toPy_lst_lv, eqDK_ll, hq, lcbK_t]
        refine wp_ok ⟨J' ++ [.mu (.lst (lvD P.ls))], ?_, rfl⟩
        rw [List.filter_cons_of_pos (by simpa using hq), List.map_append]
        show _ = _ ++ [scrD Q]
        unfold scrD
        rw [hq]
      · simp! [bnd_bnd, lcB1_t, scrD, levels_p, opEqD_K, dataR_r, gx, dataK_lv, dataR_p, toPy_lst_lv, eqDK_ll, hq, lcbK_f]
        refine wp_ok ⟨J' ++ [.mu (.lst (lvD Q.ls))], ?_, rfl⟩
        rw [List.filter_cons_of_neg (by simpa using hq), List.filter_nil, List.append_nil]
    · rintro acc S ⟨J', rfl, rfl⟩
      rw [show (T.map scrD).length = T.length from List.length_map .., List.take_length]
      refine ⟨by rw [List.length_map]; exact Nat.le_trans (List.length_filter_le _ _) (by omega), ?_⟩
      have hsame : ∀ Q ∈ T.filter (fun Q => decide (Q.ls = P.ls)), Q.ls = P.ls := fun Q hQ => by simpa using (List.mem_filter.mp hQ).2
      generalize T.filter (fun Q => decide (Q.ls = P.ls)) = E at *
      have gx : ∀ c : Cell, (st ++ (Cell.mu (.lst (T.map pltD)) :: Cell.mu (.lst (T.map scrD)) :: (J' ++ [c])))[st.length + (J'.length + 1 + 1)]? = some c := fun c => by
        rw [get_app]
        show (J' ++ [c])[J'.length]? = _
        simp
      have sx : ∀ c c' : Cell, (st ++ (Cell.mu (.lst (T.map pltD)) :: Cell.mu (.lst (T.map scrD)) :: (J' ++ [c]))).set (st.length + (J'.length + 1 + 1)) c' = st ++ (Cell.mu (.lst (T.map pltD)) :: Cell.mu (.lst (T.map scrD)) :: (J' ++ [c'])) := fun c c' => by
        rw [set_app, List.set_cons_succ, List.set_cons_succ]
        congr 3
        rw [List.set_append_right _ _ (Nat.le_refl _)]; simp
      have gy : ∀ c c2 : Cell, (st ++ (Cell.mu (.lst (T.map pltD)) :: Cell.mu (.lst (T.map scrD)) :: (J' ++ [c, c2])))[st.length + (J'.length + 1 + 1 + 1)]? = some c2 := fun c c2 => by
        rw [get_app]
        show (J' ++ [c, c2])[J'.length + 1]? = _
        rw [List.getElem?_append_right (by omega)]
        rw [show J'.length + 1 - J'.length = 1 by omega]; rfl
      have sy : ∀ c c2 c' : Cell, (st ++ (Cell.mu (.lst (T.map pltD)) :: Cell.mu (.lst (T.map scrD)) :: (J' ++ [c, c2]))).set (st.length + (J'.length + 1 + 1 + 1)) c' = st ++ (Cell.mu (.lst (T.map pltD)) :: Cell.mu (.lst (T.map scrD)) :: (J' ++ [c, c'])) := fun c c2 c' => by
        rw [set_app, List.set_cons_succ, List.set_cons_succ]
        congr 3
        rw [List.set_append_right _ _ (by omega), show J'.length + 1 - J'.length = 1 by omega]; rfl
      have l1 : (T.map scrD).length < 1000000 := by rw [List.length_map]; omega
      have l2 : (T.map pltD).length < 1000000 := by rw [List.length_map]; omega
      have gz : ∀ c c2 c3 : Cell, (st ++ (Cell.mu (.lst (T.map pltD)) :: Cell.mu (.lst (T.map scrD)) :: (J' ++ [c, c2, c3])))[st.length + (J'.length + 1 + 1 + 1 + 1)]? = some c3 := fun c c2 c3 => by
        rw [get_app]
        show (J' ++ [c, c2, c3])[J'.length + 1 + 1]? = _
        rw [List.getElem?_append_right (by omega), show J'.length + 1 + 1 - J'.length = 2 by omega]; rfl
      have sz : ∀ c c2 c3 c' : Cell, (st ++ (Cell.mu (.lst (T.map pltD)) :: Cell.mu (.lst (T.map scrD)) :: (J' ++ [c, c2, c3]))).set (st.length + (J'.length + 1 + 1 + 1 + 1)) c' = st ++ (Cell.mu (.lst (T.map pltD)) :: Cell.mu (.lst (T.map scrD)) :: (J' ++ [c, c2, c'])) := fun c c2 c3 c' => by
        rw [set_app, List.set_cons_succ, List.set_cons_succ]
        congr 3
        rw [List.set_append_right _ _ (by omega), show J'.length + 1 + 1 - J'.length = 2 by omega]; rfl
      have lok : LvOk P.ls := ⟨P1.n1, P1.n, P1.p⟩
      have fP : D.tup [D.scr (lvD P.ls), .int P.k, .int P.x, .int P.y] = pltD P := rfl
      have fS : D.scr (lvD P.ls) = scrD P := rfl
      have mP : T.map pltD ++ [pltD P] = (T ++ [P]).map pltD := by simp
      have mS : T.map scrD ++ [scrD P] = (T ++ [P]).map scrD := by simp
      simp! [bnd_bnd, sPur_ap, gx, sx]
      rw [opNeE_e (l := E.map scrD) rfl (by rw [getLst_r]; show getLK _ = _; rw [gy]; rfl)]
      cases E with
      | nil =>
        simp! [bnd_bnd, List.isEmpty_nil, screen_make P.ls lok, gz, sz, pureC_obj objD_scr, appK_ap l1, appK_ap l2, fP]
        rw [fS, mP, mS]
        exact wp_ok ⟨_, _, _, _, _, _, _, rfl⟩
      | cons Q E =>
        have hq := hsame Q (by simp)
        have fQ : scrD Q = D.scr (lvD P.ls) := by unfold scrD; rw [hq]
        simp! [bnd_bnd, List.isEmpty_cons, fQ, appK_ap l1, appK_ap l2, fP]
        rw [fS, mP, mS]
        exact wp_ok ⟨_, _, _, _, _, _, _, rfl⟩
  · rintro S ⟨J, s3, s4, s5, s6, s7, s8, rfl⟩
    rw [show (ps.map lpD).length = ps.length from List.length_map .., List.take_length]
    have g0 : (st ++ (Cell.mu (.lst (ps.map pltD)) :: Cell.mu (.lst (ps.map scrD)) :: J))[st.length]? = some (.mu (.lst (ps.map pltD))) := by rw [get_app0]; rfl
    simp! [bnd_bnd, finishR_mu g0 (Nat.le_refl _)]
    exact wpf_ok ⟨rfl, rfl⟩
end Lib

set_option Elab.async false
set_option linter.all false
set_option maxRecDepth 100000
set_option exponentiation.threshold 2000
namespace Lib
open PySem PySem.Spec PyProof.Rows L2 Dd
/-! ### the law's plates and conditions, drawn -/
section
variable {st J : Store} {n : Nat} {c a x y z : Cell}
end
end Lib

set_option Elab.async false
set_option linter.all false
set_option maxRecDepth 100000
set_option exponentiation.threshold 2000
namespace Lib
open PySem PySem.Spec PyProof.Rows L2 Dd
end Lib

set_option Elab.async false
set_option linter.all false
set_option maxRecDepth 100000
set_option exponentiation.threshold 2000
namespace Lib
open PySem PySem.Spec PyProof.Rows L2 Dd
/-! ### what decides -/
def dl (ls : List (List Int)) : Nat → List Sn → List (Int × Int)
  | _, [] => []
  | c, p :: r => if p.2 = true then (0 - thr ls p.1.1 p.1.2, (c : Int)) :: dl ls (c + 1) r else dl ls (c + 1) r
def bl (ls : List (List Int)) : Nat → List Sn → List (Int × Int)
  | _, [] => []
  | c, p :: r => if p.2 = true then bl ls (c + 1) r else (thr ls p.1.1 p.1.2, (c : Int)) :: bl ls (c + 1) r
/-- the first contradiction -/
def bad (ls : List (List Int)) (L : List Sn) (i : Nat) : Bool := decide ((bnds ls (L.take (i + 1))).2 < (bnds ls (L.take (i + 1))).1)
section
variable {ls : List (List Int)} {L : List Sn} (h50 : ls.length ≤ 50) (hp : Lvs ls) (hl : 1 ≤ L.length) (hl2 : L.length ≤ 400) (hL : ∀ p ∈ L, SnOk p)
include h50 hp hl hl2 hL
end
end Lib

set_option Elab.async false
set_option linter.all false
set_option maxRecDepth 100000
set_option exponentiation.threshold 2000
namespace Lib
open PySem PySem.Spec PyProof.Rows L2 Dd
/-! ### plates and conditions as data of their own -/
section
variable {α : Type} {g : α → PyData}
end
end Lib

set_option Elab.async false
set_option linter.all false
set_option maxRecDepth 100000
set_option exponentiation.threshold 2000
namespace Lib
open PySem PySem.Spec PyProof.Rows L2 Dd
/-! ### the cells of a law -/
/-! ### plates and conditions without their first entry -/
/-! ### sums of truths -/
end Lib

set_option Elab.async false
set_option linter.all false
set_option maxRecDepth 100000
set_option exponentiation.threshold 2000
namespace Lib
open PySem PySem.Spec PyProof.Rows L2 Dd
/-! ### sums over periods -/
/-! ### the greatest depth -/
/-! ### counts are the same in each period, and of what is moved -/
/-! ### bounds of counts -/
end Lib
namespace Lib
open PySem PySem.Spec PyProof.Rows L2 Dd
/-! ### sums that are listed -/
end Lib

set_option Elab.async false
set_option linter.all false
set_option maxRecDepth 100000
set_option exponentiation.threshold 2000
set_option maxHeartbeats 4000000
namespace Lib
open PySem PySem.Spec PyProof.Rows L2 Dd
/-! dicts with pairs of numbers as keys: written, then read as data -/
theorem dfindF_kv (k : NestedKey) : ∀ kvs : List (D × D), dfindF k (kvFl kvs) = dfind k kvs
  | [] => rfl
  | kv :: r => by
    show (if nkD kv.1 = some k then some kv.2 else dfindF k (kvFl r)) = (if nkD kv.1 = some k then some kv.2 else dfind k r)
    rw [dfindF_kv k r]
theorem keysF_kv : ∀ kvs : List (D × D), keysF (kvFl kvs) = kvs.map (·.1)
  | [] => rfl
  | kv :: r => by
    show kv.1 :: keysF (kvFl r) = _
    rw [keysF_kv r]; rfl
def nkP2 (p : Int × Int) : NestedKey := .tup [.num p.1, .num p.2]
theorem nkP2_inj {p q : Int × Int} (h : nkP2 p = nkP2 q) : p = q := by
  unfold nkP2 at h
  simp only [NestedKey.tup.injEq, List.cons.injEq, NestedKey.num.injEq, and_true] at h
  exact Prod.ext h.1 h.2
theorem nk_P2 (p : Int × Int) : nkD (prD p) = some (nkP2 p) := nk_tup (nkL_c (nk_int _) (nkL_c (nk_int _) nkL_n))
theorem key_P2 (p : Int × Int) : keyN (prD p) = some (nkP2 p) := by
  have h := nk_P2 p
  unfold prD at h ⊢
  unfold keyN
  simp only [h]
  have e : NestedKey.depth (nkP2 p) ≤ 8 := by
    simp only [nkP2, NestedKey.depth, NestedKey.depthAll]
    decide
  have t : noTxt (nkP2 p) = true := by
    simp only [nkP2, noTxt, noTxts, Bool.and_true]
  rw [if_pos ⟨e, t⟩]
section
variable {V : Int × Int → D}
def entP (V : Int × Int → D) (p : Int × Int) : D × D := (prD p, V p)
theorem dfind_P (q : Int × Int) : ∀ P : List (Int × Int), dfind (nkP2 q) (P.map (entP V)) = if q ∈ P then some (V q) else none
  | [] => rfl
  | p :: P => by
    show (if nkD (prD p) = some (nkP2 q) then some (V p) else dfind (nkP2 q) (P.map (entP V))) = _
    rw [nk_P2, dfind_P q P]
    by_cases e : p = q
    · subst e; simp
    · have e1 : ¬ some (nkP2 p) = some (nkP2 q) := fun h => e (nkP2_inj (Option.some.inj h))
      have e2 : ¬ q = p := fun h => e h.symm
      rw [if_neg e1]
      simp only [List.mem_cons, e2, false_or]
theorem dset_P {P : List (Int × Int)} {q : Int × Int} {X J : Store} {sl : List (Option R)} (hq : q ∉ P) (hl : P.length < 100000) :
    dsetK (.r X.length) (prD q) (V q) ⟨sl, X ++ (.mu (.dt (P.map (entP V))) :: J)⟩ = .ok .nx ⟨sl, X ++ (.mu (.dt ((P ++ [q]).map (entP V))) :: J)⟩ := by
  unfold dsetK
  simp only [get_app0, List.getElem?_cons_zero, dtC, key_P2]
  rw [if_pos (by rw [List.length_map, sizeLine_eq]; omega)]
  unfold dput
  rw [dfind_P, if_neg hq]
  simp only [Option.isSome_none, Bool.false_eq_true, if_false, set_app0, List.set_cons_zero, List.map_append]
  rfl
def ddP (V : Int × Int → D) (P : List (Int × Int)) : D := .dd (kvFl (P.map (entP V)))
theorem pur_dt {P : List (Int × Int)} {X J : Store} {sl : List (Option R)} : pure1 (.r X.length) ⟨sl, X ++ (.mu (.dt (P.map (entP V))) :: J)⟩ = .ok (ddP V P) ⟨sl, X ++ (.dead :: J)⟩ := by
  unfold pure1
  simp only [get_app0, List.getElem?_cons_zero]
  unfold pureC
  simp only [set_app0, List.set_cons_zero]
  rfl
theorem opDix_P {P : List (Int × Int)} {q : Int × Int} {S : Sg} (hq : q ∈ P) : opDix (.p (ddP V P)) (.p (prD q)) S = .ok (.p (V q)) S := by
  unfold opDix ddP
  simp only [key_P2, dfindF_kv, dfind_P, if_pos hq]
theorem opDget1_P {P : List (Int × Int)} {q : Int × Int} {S : Sg} : opDget1 (.p (ddP V P)) [.p (prD q)] S = .ok (.p (if q ∈ P then V q else .non)) S := by
  unfold opDget1 ddP
  simp only [key_P2, dfindF_kv, dfind_P]
  by_cases h : q ∈ P
  · rw [if_pos h, if_pos h]; rfl
  · rw [if_neg h, if_neg h]; rfl
theorem ddkK_P {P : List (Int × Int)} {S : Sg} : ddkK (.p (ddP V P)) S = .ok ⟨fun _ => True, P.map prD⟩ S := by
  unfold ddkK ddP
  simp only [keysF_kv, List.map_map]
  rfl
theorem isDD_P {P : List (Int × Int)} {S : Sg} : isDD (.p (ddP V P)) S = true := rfl
end
end Lib

set_option Elab.async false
set_option linter.all false
set_option maxRecDepth 100000
set_option maxHeartbeats 4000000
namespace K33
open PySem PySem.Spec PyProof.Rows L2 Dd Lib
noncomputable def b_z_law_told_right : M Fl :=
    (sSq (sIf (tst (isN (vr 2))) (sRt (isN (vr 1))) sNx)
    (sSq (sIf (mOr (tst (isN (vr 1))) (mOr (tst (bin opNeD (propU 0 s_Screen_levels (vr 1)) (vr 2))) (mNot (tst (bin (opEqU 0 s_Screen___eq) (vr 1) (pur (makeU 0 s_Screen___init 2 (aC (vr 2) aN)))))))) (sRt (cb false)) sNx)
    (sSq (sSet 3 (opA (op1 opLen) (aC (vr 0) aN)))
    (sSq (sIf (tst (bin opNeD (lstE (aC (propU 0 s_Screen_depth (vr 1)) (aC (propU 0 s_Screen_period (vr 1)) (aC (propU 0 s_Screen_shades (vr 1)) aN)))) (lstE (aC (vr 3) (aC (bin opShl (ci 1) (vr 3)) (aC (bin opShl (ci 1) (bin opMul (ci 2) (vr 3))) aN)))))) (sRt (cb false)) sNx)
    (sSq (sFor (itL (tupE (aC (ci 0) (aC (ci 1) (aC (bin opSub (bin opShl (ci 1) (bin opMul (ci 2) (vr 3))) (ci 1)) (aC (bin opShl (ci 1) (vr 3)) aN)))))) (gN 4) (sSq (sAsg (methU 0 "place" s_Screen_place 2 (vr 1) (aC (vr 4) aN)) (gT 2 (gsC (gN 5) (gsC (gN 6) gsN))))
    (sIf (mOr (tst (bin opNeD (callM s_z_law_threshold_v1 3 (aC (vr 2) (aC (vr 5) (aC (vr 6) aN)))) (vr 4))) (mOr (mNot (tst (eChain opLe opLt (ci 0) (vr 5) (bin opShl (ci 1) (vr 3))))) (mNot (tst (eChain opLe opLt (ci 0) (vr 6) (bin opShl (ci 1) (vr 3))))))) (sRt (cb false)) sNx)))
    (sRt (cb true)))))))
noncomputable def s_z_law_told_right : Fn := runF 7 b_z_law_told_right

noncomputable def b_z_law_made : M Fl :=
    (sSq (sPar 3 4 (aC (opA (op1 opLen) (aC (vr 0) aN)) (aC (lstE aN) aN)))
    (sSq (sFor (itR1 (aC (vr 3) aN)) (gN 5) (sSq (sSet 6 (lstE aN))
    (sSq (sFor (itR1 (aC (ci 4) aN)) (gN 7) (sSq (sSet 8 (callM s_z_law_threshold_v1 3 (aC (vr 0) (aC (bin opSub (bin opShl (bin opBand (vr 7) (ci 1)) (vr 5)) (vr 1)) (aC (bin opSub (bin opShl (bin opShr (vr 7) (ci 1)) (vr 5)) (vr 2)) aN)))))
    (sEx (methM isLst opApp (vr 6) (aC (bin opBand (bin opShr (vr 8) (bin opMul (ci 2) (bin opSub (bin opSub (vr 3) (ci 1)) (vr 5)))) (ci 3)) aN)))))
    (sEx (methM isLst opApp (vr 4) (aC (opA (op1 opTuple) (aC (vr 6) aN)) aN))))))
    (sSq (sFor (itR1 (aC (bin opShl (ci 1) (vr 3)) aN)) (gN 9) (sFor (itR1 (aC (bin opShl (ci 1) (vr 3)) aN)) (gN 10) (sIf (tst (bin opNeD (callM s_z_law_threshold_v1 3 (aC (pur (vr 4)) (aC (vr 9) (aC (vr 10) aN)))) (callM s_z_law_threshold_v1 3 (aC (vr 0) (aC (bin opSub (vr 9) (vr 1)) (aC (bin opSub (vr 10) (vr 2)) aN)))))) (sRt cn) sNx)))
    (sRt (vr 4)))))
noncomputable def s_z_law_made : Fn := runF 11 b_z_law_made

noncomputable def b_z_law_small_right : M Fl :=
    (sSq (sSet 1 (pur (callM s_z_law_levels_v1 2 (aC (vr 0) (aC (ci 3) aN)))))
    (sSq (sPar 2 3 (aC (pur (makeU 0 s_Screen___init 2 (aC (vr 1) aN))) (aC (bin opShl (ci 1) (opA (op1 opLen) (aC (vr 1) aN))) aN)))
    (sSq (sSet 4 dtE)
    (sSq (sSq (sFor (itR1 (aC (vr 3) aN)) (gN 5) (sFor (itR1 (aC (vr 3) aN)) (gN 6) (sSq (sSet 7 (pur (callM s_z_law_made 3 (aC (vr 1) (aC (vr 5) (aC (vr 6) aN))))))
    (sSq (sIf (mNot (tst (callM s_z_law_told_right 3 (aC (vr 1) (aC (pur (callM s_moved 3 (aC (vr 2) (aC (vr 5) (aC (vr 6) aN))))) (aC (vr 7) aN)))))) (sRt (cb false)) sNx)
    (sIf (tst (notN (vr 7))) (sDset (vr 7) (vr 4) (tupE (aC (vr 5) (aC (vr 6) aN)))) sNx))))) (sPur 4))
    (sSq (sSet 8 (bin opMul (vr 3) (bin opSub (callM s_z_law_pick 2 (aC (vr 0) (aC (bin opMul (ci 2) (bin opPow (ci 10) (ci 20))) aN))) (bin opPow (ci 10) (ci 20)))))
    (sSq (sPar 5 6 (aC (callM s_z_law_pick 2 (aC (vr 0) (aC (vr 3) aN))) (aC (callM s_z_law_pick 2 (aC (vr 0) (aC (vr 3) aN))) aN)))
    (sSq (sIf (mNot (tst (callM s_z_law_told_right 3 (aC (vr 1) (aC (pur (callM s_moved 3 (aC (vr 2) (aC (bin opSub (vr 5) (vr 8)) (aC (bin opAdd (vr 6) (vr 8)) aN))))) (aC (pur (methM isDD opDget1 (vr 4) (aC (tupE (aC (vr 5) (aC (vr 6) aN))) aN))) aN)))))) (sRt (cb false)) sNx)
    (sSq (sFor (itL (bin opAdd (lcE [11] [11] unp1 (itDD (vr 4)) tYesM (bin opDix (vr 4) (vr 11))) (lstE (aC (callM s_z_law_levels_v1 2 (aC (vr 0) (aC (ci 3) aN))) (aC (bin opAdd (vr 1) (slE (vr 1) opt0 (opt1 (ci 1)))) aN))))) (gN 9) (sSq (sSq (sSet 10 (lcE [11] [11] unp1 (itDD (vr 4)) (tst (bin opEqD (bin opDix (vr 4) (vr 11)) (vr 9))) (vr 11))) (sPur 10))
    (sIf (tst (bin opNeD (opA (op1 opRepr) (aC (callM s_shift_between 2 (aC (vr 2) (aC (pur (makeU 0 s_Screen___init 2 (aC (vr 9) aN))) aN))) aN)) (opA (op1 opRepr) (aC (eIf (tst (bin opNeD (vr 10) (lstE aN))) (opA (op1 opMinP) (aC (vr 10) aN)) cn) aN)))) (sRt (cb false)) sNx)))
    (sRt (cb true))))))))))
noncomputable def s_z_law_small_right : Fn := runF 12 b_z_law_small_right

noncomputable def b_z_law_deep_right : M Fl :=
    (sSq (sSet 2 (pur (callM s_z_law_levels_v1 2 (aC (vr 0) (aC (vr 1) aN)))))
    (sSq (sAsg (tupE (aC (makeU 0 s_Screen___init 2 (aC (vr 2) aN)) (aC (bin opShl (ci 1) (bin opSub (opA (op1 opLen) (aC (vr 2) aN)) (ci 1))) aN))) (gT 2 (gsC (gN 3) (gsC (gN 4) gsN))))
    (sSq (sSet 5 (pur (lstE (aC (bin opMul (vr 4) (bin opSub (callM s_z_law_pick 2 (aC (vr 0) (aC (ci 20) aN))) (ci 10))) (aC (bin opShl (ci 1) (callM s_z_law_pick 2 (aC (vr 0) (aC (bin opAdd (opA (op1 opLen) (aC (vr 2) aN)) (ci 3)) aN)))) (aC (callM s_z_law_pick 2 (aC (vr 0) (aC (bin opPow (ci 10) (ci 30)) aN))) aN))))))
    (sSq (sFor (itR1 (aC (ci 6) aN)) (gN 6) (sSq (sAsg (pur (lcE [17] [17] unp1 (itL (tupE (aC (ci 0) (aC (ci 1) aN)))) tYesM (bin opIx (lstE (aC (bin opMul (vr 4) (callM s_z_law_pick 2 (aC (vr 0) (aC (ci 4) aN)))) (aC (bin opIx (vr 5) (callM s_z_law_pick 2 (aC (vr 0) (aC (ci 3) aN)))) aN))) (callM s_z_law_pick 2 (aC (vr 0) (aC (ci 2) aN)))))) (gL 2 (gsC (gN 7) (gsC (gN 8) gsN))))
    (sSq (sSet 9 (pur (callM s_moved 3 (aC (vr 3) (aC (vr 7) (aC (vr 8) aN))))))
    (sSq (sIf (tst (bin opNeD (isN (vr 9)) (eOr (bin opNeD (bin opMod (opA (op1 opInt) (aC (vr 7) aN)) (vr 4)) (ci 0)) (bin opNeD (bin opMod (opA (op1 opInt) (aC (vr 8) aN)) (vr 4)) (ci 0))))) (sRt (cb false)) sNx)
    (sSq (sIf (tst (isN (vr 9))) sCt sNx)
    (sSq (sFor (itR1 (aC (ci 6) aN)) (gN 10) (sSq (sPar 11 12 (aC (bin opSub (callM s_z_law_pick 2 (aC (vr 0) (aC (bin opPow (ci 10) (ci 29)) aN))) (bin opPow (ci 10) (ci 28))) (aC (bin opSub (callM s_z_law_pick 2 (aC (vr 0) (aC (bin opPow (ci 10) (ci 29)) aN))) (bin opPow (ci 10) (ci 28))) aN)))
    (sIf (tst (bin opNeD (methU 0 "threshold" s_Screen_threshold 3 (vr 9) (aC (vr 11) (aC (vr 12) aN))) (callM s_z_law_threshold_v1 3 (aC (vr 2) (aC (bin opSub (vr 11) (vr 7)) (aC (bin opSub (vr 12) (vr 8)) aN)))))) (sRt (cb false)) sNx)))
    (sSq (sSet 13 (tupE (aC (bin opMod (opA (op1 opInt) (aC (vr 7) aN)) (bin opMul (ci 2) (vr 4))) (aC (bin opMod (opA (op1 opInt) (aC (vr 8) aN)) (bin opMul (ci 2) (vr 4))) aN))))
    (sIf (mOr (tst (bin opNeD (callM s_shift_between 2 (aC (vr 3) (aC (vr 9) aN))) (vr 13))) (mNot (tst (callM s_z_law_told_right 3 (aC (vr 2) (aC (vr 9) (aC (pur (propU 0 s_Screen_levels (vr 9))) aN))))))) (sRt (cb false)) sNx))))))))
    (sSq (sPar 14 15 (aC (callM s_z_law_pick 2 (aC (vr 0) (aC (opA (op1 opLen) (aC (vr 2) aN)) aN))) (aC (bin opIx (vr 2) (uNeg (ci 1))) aN)))
    (sSq (sSet 16 (lstE (aC (bin opAdd (slE (vr 2) opt0 (opt1 (uNeg (ci 1)))) (lstE (aC (tupE (aC (bin opIx (vr 15) (ci 1)) (aC (bin opIx (vr 15) (ci 0)) (aC (bin opIx (vr 15) (ci 2)) (aC (bin opIx (vr 15) (ci 3)) aN))))) aN))) (aC (bin opAdd (bin opAdd (slE (vr 2) opt0 (opt1 (vr 14))) (lstE (aC (bin opIx (vr 2) (vr 14)) aN))) (slE (vr 2) (opt1 (vr 14)) opt0)) aN))))
    (sSq (sIf (tst (bin opGt (opA (op1 opLen) (aC (vr 2) aN)) (ci 1))) (sSq (sSet 14 (callM s_z_law_pick 2 (aC (vr 0) (aC (bin opSub (opA (op1 opLen) (aC (vr 2) aN)) (ci 1)) aN))))
    (sEx (methM isLst opApp (vr 16) (aC (bin opAdd (bin opAdd (slE (vr 2) opt0 (opt1 (vr 14))) (lstE (aC (opA (op1 opTuple) (aC (lcE [18] [18] unp1 (itL (bin opIx (vr 2) (vr 14))) tYesM (bin opSub (ci 3) (vr 18))) aN)) aN))) (slE (vr 2) (opt1 (bin opAdd (vr 14) (ci 1))) opt0)) aN)))) sNx)
    (sRt (bin opEqD (lcE [5] [5] unp1 (itL (vr 16)) (mAnd (tst (bin opLt (opA (op1 opLen) (aC (vr 5) aN)) (ci 51))) (tst (notN (callM s_shift_between 2 (aC (vr 3) (aC (pur (makeU 0 s_Screen___init 2 (aC (vr 5) aN))) aN)))))) (vr 5)) (lstE aN))))))))))
noncomputable def s_z_law_deep_right : Fn := runF 19 b_z_law_deep_right

noncomputable def b_law : M Fl :=
    (sSq (sFor (itE (bin opAdd (slE (vr 0) opt0 (opt1 (ci 6))) (lstE (aC (ci 0) aN)))) (gsC (gN 1) (gsC (gN 2) gsN)) (sSq (sSet 3 (callM s_z_law_bag 1 (aC (vr 2) aN)))
    (sIf (mOr (mNot (tst (callM s_z_law_small_right 1 (aC (vr 3) aN)))) (mNot (tst (callM s_z_law_deep_right 2 (aC (vr 3) (aC (bin opIx (lstE (aC (ci 9) (aC (ci 50) aN))) (opA (op1 opInt) (aC (bin opEqD (vr 1) (ci 0)) aN))) aN)))))) (sRt (cb false)) sNx)))
    (sSq (sPar 4 5 (aC (pur (makeU 0 s_Screen___init 2 (aC (pur (bin opMul (lstE (aC (tupE (aC (ci 0) (aC (ci 2) (aC (ci 3) (aC (ci 1) aN))))) aN)) (ci 2))) aN))) (aC (pur (makeU 0 s_Screen___init 2 (aC (pur (lstE (aC (tupE (aC (ci 0) (aC (ci 2) (aC (ci 3) (aC (ci 1) aN))))) (aC (tupE (aC (ci 1) (aC (ci 0) (aC (ci 2) (aC (ci 3) aN))))) aN)))) aN))) aN)))
    (sSq (sSet 6 (pur (lstE (aC (propU 0 s_Screen_levels (pur (callM s_moved 3 (aC (vr 4) (aC (ci 2) (aC (ci 4) aN)))))) (aC (callM s_moved 3 (aC (vr 4) (aC (ci 1) (aC (ci 0) aN)))) (aC (callM s_shift_between 2 (aC (vr 4) (aC (pur (callM s_moved 3 (aC (vr 4) (aC (ci 2) (aC (ci 2) aN))))) aN))) aN))))))
    (sRt (bin opEqD (bin opAdd (vr 6) (lstE (aC (callM s_shift_between 2 (aC (vr 4) (aC (vr 5) aN))) aN))) (lstE (aC (lstE (aC (tupE (aC (ci 0) (aC (ci 2) (aC (ci 3) (aC (ci 1) aN))))) (aC (tupE (aC (ci 2) (aC (ci 0) (aC (ci 1) (aC (ci 3) aN))))) aN))) (aC cn (aC (tupE (aC (ci 2) (aC (ci 2) aN))) (aC cn aN))))))))))
noncomputable def s_law : Fn := runF 7 b_law
end K33

set_option Elab.async false
set_option linter.all false
set_option maxRecDepth 100000
set_option maxHeartbeats 4000000
namespace K33
open PySem PySem.Spec PyProof.Rows L2 Dd Lib
def top (i : Nat) : Stmt := PySem.Challenge.pw_ditherdepths_k33_moved_screens.main.body.getD i (.Pass ⟨0, 0, 0, 0⟩)
structure Fx (K : PySem.W.Frag) (mg : Str → Option Value) (cls A : Nat → Addr) (FD : Nat → FuncData) : Prop where
  f_z_law_bag : Fun K "_law_bag" "_law_bag" (top 24) (A 0) (FD 0)
  b_z_law_bag : Binds K (FD 0) ["cell"] []
  m_z_law_bag : mg "_law_bag" = some (.ref (A 0))
  f_is_int : Fun K "is_int" "is_int" (top 1) (A 1) (FD 1)
  b_is_int : Binds K (FD 1) ["value"] []
  m_is_int : mg "is_int" = some (.ref (A 1))
  f_is_level : Fun K "is_level" "is_level" (top 15) (A 2) (FD 2)
  b_is_level : Binds K (FD 2) ["value"] []
  m_is_level : mg "is_level" = some (.ref (A 2))
  f_Screen___init : Fun K "__init__" "Screen.__init__" (inClass (top 16) 0) (A 3) (FD 3)
  b_Screen___init : Binds K (FD 3) ["self", "levels"] []
  mk0 : Mk K (cls 0) (A 3)
  f_Screen_levels : Fun K "levels" "Screen.levels" (inClass (top 16) 2) (A 4) (FD 4)
  b_Screen_levels : Binds K (FD 4) ["self"] []
  p_Screen_levels : ∃ pA, PropOf K (cls 0) "levels" pA (A 4)
  f_require_screen : Fun K "require_screen" "require_screen" (top 12) (A 5) (FD 5)
  b_require_screen : Binds K (FD 5) ["value"] []
  m_require_screen : mg "require_screen" = some (.ref (A 5))
  f_is_whole : Fun K "is_whole" "is_whole" (top 2) (A 6) (FD 6)
  b_is_whole : Binds K (FD 6) ["value", "low", "high"] []
  m_is_whole : mg "is_whole" = some (.ref (A 6))
  f_require_coordinate : Fun K "require_coordinate" "require_coordinate" (top 13) (A 7) (FD 7)
  b_require_coordinate : Binds K (FD 7) ["value"] []
  m_require_coordinate : mg "require_coordinate" = some (.ref (A 7))
  f_require_place : Fun K "require_place" "require_place" (top 14) (A 8) (FD 8)
  b_require_place : Binds K (FD 8) ["x", "y"] []
  m_require_place : mg "require_place" = some (.ref (A 8))
  f_Screen_depth : Fun K "depth" "Screen.depth" (inClass (top 16) 3) (A 9) (FD 9)
  b_Screen_depth : Binds K (FD 9) ["self"] []
  p_Screen_depth : ∃ pA, PropOf K (cls 0) "depth" pA (A 9)
  f_moved_levels : Fun K "moved_levels" "moved_levels" (top 20) (A 10) (FD 10)
  b_moved_levels : Binds K (FD 10) ["levels", "x", "y"] []
  m_moved_levels : mg "moved_levels" = some (.ref (A 10))
  f_moved : Fun K "moved" "moved" (top 21) (A 11) (FD 11)
  b_moved : Binds K (FD 11) ["screen", "x", "y"] []
  m_moved : mg "moved" = some (.ref (A 11))
  f_shift_between : Fun K "shift_between" "shift_between" (top 22) (A 12) (FD 12)
  b_shift_between : Binds K (FD 12) ["screen", "second"] []
  m_shift_between : mg "shift_between" = some (.ref (A 12))
  f_z_law_pick : Fun K "_law_pick" "_law_pick" (top 25) (A 13) (FD 13)
  b_z_law_pick : Binds K (FD 13) ["bag", "many"] []
  m_z_law_pick : mg "_law_pick" = some (.ref (A 13))
  f_z_law_levels_v1 : Fun K "_law_levels" "_law_levels" (top 26) (A 14) (FD 14)
  b_z_law_levels_v1 : Binds K (FD 14) ["bag", "most"] []
  m_z_law_levels_v1 : mg "_law_levels" = some (.ref (A 14))
  f_place_of : Fun K "place_of" "place_of" (top 18) (A 15) (FD 15)
  b_place_of : Binds K (FD 15) ["levels", "number"] []
  m_place_of : mg "place_of" = some (.ref (A 15))
  f_Screen_place : Fun K "place" "Screen.place" (inClass (top 16) 7) (A 16) (FD 16)
  b_Screen_place : Binds K (FD 16) ["self", "number"] []
  h_Screen_place : Meth K (cls 0) "place" (A 16)
  f_Screen___eq : Fun K "__eq__" "Screen.__eq__" (inClass (top 16) 1) (A 17) (FD 17)
  b_Screen___eq : Binds K (FD 17) ["self", "other"] []
  h_Screen___eq : Meth K (cls 0) "__eq__" (A 17)
  f_Screen_period : Fun K "period" "Screen.period" (inClass (top 16) 4) (A 18) (FD 18)
  b_Screen_period : Binds K (FD 18) ["self"] []
  p_Screen_period : ∃ pA, PropOf K (cls 0) "period" pA (A 18)
  f_Screen_shades : Fun K "shades" "Screen.shades" (inClass (top 16) 5) (A 19) (FD 19)
  b_Screen_shades : Binds K (FD 19) ["self"] []
  p_Screen_shades : ∃ pA, PropOf K (cls 0) "shades" pA (A 19)
  f_z_law_threshold_v1 : Fun K "_law_threshold" "_law_threshold" (top 27) (A 20) (FD 20)
  b_z_law_threshold_v1 : Binds K (FD 20) ["levels", "x", "y"] []
  m_z_law_threshold_v1 : mg "_law_threshold" = some (.ref (A 20))
  f_z_law_told_right : Fun K "_law_told_right" "_law_told_right" (top 29) (A 21) (FD 21)
  b_z_law_told_right : Binds K (FD 21) ["levels", "told", "due"] []
  m_z_law_told_right : mg "_law_told_right" = some (.ref (A 21))
  f_z_law_made : Fun K "_law_made" "_law_made" (top 28) (A 22) (FD 22)
  b_z_law_made : Binds K (FD 22) ["levels", "x", "y"] []
  m_z_law_made : mg "_law_made" = some (.ref (A 22))
  f_z_law_small_right : Fun K "_law_small_right" "_law_small_right" (top 30) (A 23) (FD 23)
  b_z_law_small_right : Binds K (FD 23) ["bag"] []
  m_z_law_small_right : mg "_law_small_right" = some (.ref (A 23))
  f_threshold_at : Fun K "threshold_at" "threshold_at" (top 17) (A 24) (FD 24)
  b_threshold_at : Binds K (FD 24) ["screen", "x", "y"] []
  m_threshold_at : mg "threshold_at" = some (.ref (A 24))
  f_Screen_threshold : Fun K "threshold" "Screen.threshold" (inClass (top 16) 6) (A 25) (FD 25)
  b_Screen_threshold : Binds K (FD 25) ["self", "x", "y"] []
  h_Screen_threshold : Meth K (cls 0) "threshold" (A 25)
  f_z_law_deep_right : Fun K "_law_deep_right" "_law_deep_right" (top 31) (A 26) (FD 26)
  b_z_law_deep_right : Binds K (FD 26) ["bag", "most"] []
  m_z_law_deep_right : mg "_law_deep_right" = some (.ref (A 26))
  f_law : Fun K "law" "law" (top 32) (A 27) (FD 27)
  b_law : Binds K (FD 27) ["script"] []
  m_law : mg "law" = some (.ref (A 27))
  cf0 : ClsF K (cls 0)
  c0 : mg "Screen" = some (.ref (cls 0))
  na_own_levels : NoAttr K (cls 0) "own_levels"
  xc101 : XcF K cls 101
  xc108 : XcF K cls 108
  xc111 : XcF K cls 111
  xc114 : XcF K cls 114
  xf101 : XfF K cls 101
  gx101 : mg "InvalidLevels" = some (.ref (cls 101))
  gx108 : mg "InvalidScreen" = some (.ref (cls 108))
  gx111 : mg "InvalidPlace" = some (.ref (cls 111))
  gx114 : mg "InvalidNumber" = some (.ref (cls 114))
  xi108 : PySem.W.excIn K (cls 108) veT "ValueError.__new__" = true
  xi111 : PySem.W.excIn K (cls 111) veT "ValueError.__new__" = true
  xi114 : PySem.W.excIn K (cls 114) veT "ValueError.__new__" = true
  n_all : mg "all" = none
  n_bool : mg "bool" = none
  n_enumerate : mg "enumerate" = none
  n_int : mg "int" = none
  n_isinstance : mg "isinstance" = none
  n_len : mg "len" = none
  n_list : mg "list" = none
  n_max : mg "max" = none
  n_min : mg "min" = none
  n_range : mg "range" = none
  n_repr : mg "repr" = none
  n_sorted : mg "sorted" = none
  n_tuple : mg "tuple" = none
  k_MOST_LEVELS : ∃ t, mg "MOST_LEVELS" = some (.int 50 t)
  k_MOST_PLACE : ∃ t, mg "MOST_PLACE" = some (.int 1000000000000000000000000000000 t)
section
variable {P : Program} {w : World} {K : PySem.W.Frag} {mg : Str → Option Value} {base : Heap} {cls A : Nat → Addr} {FD : Nat → FuncData}
theorem sc_z_law_bag : FnScope ["cell"] ["cell"] (defScope (top 24)) := ⟨rfl, rfl, rfl, by decide +kernel, rfl, by decide +kernel, by decide +kernel⟩
theorem ok_z_law_bag (T : Fx K mg cls A FD) : FnG P w K mg base 1 (A 0) (FD 0) ["cell"] (spF (⟨K, cls, A⟩ : Cg) 1 s_z_law_bag) :=
  fn_ok (N := ["cell"]) (ps := ["cell"]) (k := 0) (h := b_z_law_bag) T.f_z_law_bag sc_z_law_bag fun cdv A0 outer s0 H0 E0 hG hr tk =>
    (sss_one (ss_ret (se_lst (sa_cons (e_max2 rfl T.n_max se_int (e_sub (v_ 0) (e_pow se_int se_int))) (sa_cons (v_ 0) (sa_cons se_int sa_nil))))))

theorem sc_is_int : FnScope ["value"] ["value"] (defScope (top 1)) := ⟨rfl, rfl, rfl, by decide +kernel, rfl, by decide +kernel, by decide +kernel⟩
theorem ok_is_int (T : Fx K mg cls A FD) : FnG P w K mg base 1 (A 1) (FD 1) ["value"] (spF (⟨K, cls, A⟩ : Cg) 1 s_is_int) :=
  fn_ok (N := ["value"]) (ps := ["value"]) (k := 0) (h := b_is_int) T.f_is_int sc_is_int fun cdv A0 outer s0 H0 E0 hG hr tk =>
    (sss_one (ss_ret (se_and (e_isB "int" (by decide) T.cf0 T.n_isinstance T.n_int (by decide +kernel) rfl (v_ 0)) (se_one (se_not (e_isB "bool" (by decide) T.cf0 T.n_isinstance T.n_bool (by decide +kernel) rfl (v_ 0)))))))

theorem sc_is_level : FnScope ["value", "number"] ["value"] (defScope (top 15)) := ⟨rfl, rfl, rfl, by decide +kernel, rfl, by decide +kernel, by decide +kernel⟩
theorem ok_is_level (T : Fx K mg cls A FD) : FnG P w K mg base 2 (A 2) (FD 2) ["value"] (spF (⟨K, cls, A⟩ : Cg) 1 s_is_level) :=
  fn_ok (N := ["value", "number"]) (ps := ["value"]) (k := 1) (h := b_is_level) T.f_is_level sc_is_level fun cdv A0 outer s0 H0 E0 hG hr tk =>
    (sss_cons (ss_if (st_bool (sw_or (st_not (st_val (e_isB "tuple" (by decide) T.cf0 T.n_isinstance T.n_tuple (by decide +kernel) rfl (v_ 0)))) (sw_or (t_ne hr rfl (e_len rfl T.n_len (v_ 0)) se_int) (sw_or1 (st_not (st_val (e_all rfl rfl T.n_all (lc1_ (by rfl) rfl sc_is_level.nd (si_seq rfl (v_ 0)) (blkOk_by (own := [("number", 1)]) (by rfl)) (by decide) (fun _ _ _ _ _ => (pg_name (i := 1) sc_is_level.nd rfl (Or.inl rfl))) (fun _ _ _ _ _ => sts_nil) (fun _ _ _ _ _ => (se_call (ok_is_int T) hG (hr.mono (by omega)) (by rfl) T.m_is_int T.f_is_int.kp T.b_is_int takesW0 (sa_cons (v_ 1) sa_nil))))))))))) (sss_one (ss_ret se_bl)) sss_nil)
    (sss_one (ss_ret (e_eq hr rfl (e_sorted rfl T.n_sorted (v_ 0)) (se_lst (sa_cons se_int (sa_cons se_int (sa_cons se_int (sa_cons se_int sa_nil)))))))))

theorem sc_Screen___init : FnScope ["self", "levels", "spot", "level"] ["self", "levels"] (defScope (inClass (top 16) 0)) := ⟨rfl, rfl, rfl, by decide +kernel, rfl, by decide +kernel, by decide +kernel⟩
theorem ok_Screen___init (T : Fx K mg cls A FD) : FnG P w K mg base 3 (A 3) (FD 3) ["self", "levels"] (spF (⟨K, cls, A⟩ : Cg) 2 s_Screen___init) :=
  fn_ok (N := ["self", "levels", "spot", "level"]) (ps := ["self", "levels"]) (k := 2) (h := b_Screen___init) T.f_Screen___init sc_Screen___init fun cdv A0 outer s0 H0 E0 hG hr tk =>
    (sss_cons (ss_if (st_bool (sw_or (st_not (st_val (e_isB "list" (by decide) T.cf0 T.n_isinstance T.n_list (by decide +kernel) rfl (v_ 1)))) (sw_or1 (st_not (st_chain op_le op_le (od_I0 fun _ _ _ => repB) (od_I0 fun _ _ _ => repB) se_int (e_len rfl T.n_len (v_ 1)) (T.k_MOST_LEVELS.elim fun _ h => e_gI h)))))) (sss_one (ss_raiseF (kr := 0) "InvalidLevels" rfl rfl tk T.xc101 (by omega) (by omega) T.xf101 (hr.mono (by omega)) T.gx101 se_non)) sss_nil)
    (sss_cons (ss_forT (n := 2) (passes_of rfl) rfl rfl (si_enum rfl (by rfl) T.n_enumerate (v_ 1)) (sgs_cons (sg_name sc_Screen___init.nd (i := 2) rfl (Or.inl rfl)) (sgs_cons (sg_name sc_Screen___init.nd (i := 3) rfl (Or.inl rfl)) sgs_nil)) (gsC_noexc gN_noexc (gsC_noexc gN_noexc gsN_noexc)) (sss_one (ss_if (st_not (st_val (se_call (ok_is_level T) hG (hr.mono (by omega)) (by rfl) T.m_is_level T.f_is_level.kp T.b_is_level tk (sa_cons (v_ 3) sa_nil)))) (sss_one (ss_raiseF (kr := 0) "InvalidLevels" rfl rfl tk T.xc101 (by omega) (by omega) T.xf101 (hr.mono (by omega)) T.gx101 (v_ 2))) sss_nil)) (gsC_len gN_noexc (gsC_len gN_noexc gsN_len)))
    (sss_one (ss_fld (e_tuple rfl T.n_tuple (v_ 1)) (v_ 0) T.cf0.cl T.na_own_levels))))

theorem sc_Screen_levels : FnScope ["self"] ["self"] (defScope (inClass (top 16) 2)) := ⟨rfl, rfl, rfl, by decide +kernel, rfl, by decide +kernel, by decide +kernel⟩
theorem ok_Screen_levels (T : Fx K mg cls A FD) : FnG P w K mg base 1 (A 4) (FD 4) ["self"] (spF (⟨K, cls, A⟩ : Cg) 1 s_Screen_levels) :=
  fn_ok (N := ["self"]) (ps := ["self"]) (k := 0) (h := b_Screen_levels) T.f_Screen_levels sc_Screen_levels fun cdv A0 outer s0 H0 E0 hG hr tk =>
    (sss_one (ss_ret (e_list rfl rfl T.n_list (se_attr rfl (v_ 0) T.cf0.cl T.na_own_levels))))

theorem sc_require_screen : FnScope ["value"] ["value"] (defScope (top 12)) := ⟨rfl, rfl, rfl, by decide +kernel, rfl, by decide +kernel, by decide +kernel⟩
theorem ok_require_screen (T : Fx K mg cls A FD) : FnG P w K mg base 2 (A 5) (FD 5) ["value"] (spF (⟨K, cls, A⟩ : Cg) 1 s_require_screen) :=
  fn_ok (N := ["value"]) (ps := ["value"]) (k := 1) (h := b_require_screen) T.f_require_screen sc_require_screen fun cdv A0 outer s0 H0 E0 hG hr tk =>
    (sss_one (ss_if (st_not (st_val (e_isC "Screen" T.cf0 T.n_isinstance T.c0 rfl (v_ 0)))) (sss_one (ss_raise "InvalidScreen" rfl rfl tk T.xc108 (by omega) (by omega) T.xi108 T.gx108 se_str)) sss_nil))

theorem sc_is_whole : FnScope ["value", "low", "high"] ["value", "low", "high"] (defScope (top 2)) := ⟨rfl, rfl, rfl, by decide +kernel, rfl, by decide +kernel, by decide +kernel⟩
theorem ok_is_whole (T : Fx K mg cls A FD) : FnG P w K mg base 2 (A 6) (FD 6) ["value", "low", "high"] (spF (⟨K, cls, A⟩ : Cg) 3 s_is_whole) :=
  fn_ok (N := ["value", "low", "high"]) (ps := ["value", "low", "high"]) (k := 1) (h := b_is_whole) T.f_is_whole sc_is_whole fun cdv A0 outer s0 H0 E0 hG hr tk =>
    (sss_one (ss_ret (se_and (se_call (ok_is_int T) hG (hr.mono (by omega)) (by rfl) T.m_is_int T.f_is_int.kp T.b_is_int tk (sa_cons (v_ 0) sa_nil)) (se_one (se_chain op_le op_le (od_I0 fun _ _ _ => repB) (od_I0 fun _ _ _ => repB) (v_ 1) (v_ 0) (v_ 2))))))

theorem sc_require_coordinate : FnScope ["value"] ["value"] (defScope (top 13)) := ⟨rfl, rfl, rfl, by decide +kernel, rfl, by decide +kernel, by decide +kernel⟩
theorem ok_require_coordinate (T : Fx K mg cls A FD) : FnG P w K mg base 3 (A 7) (FD 7) ["value"] (spF (⟨K, cls, A⟩ : Cg) 1 s_require_coordinate) :=
  fn_ok (N := ["value"]) (ps := ["value"]) (k := 2) (h := b_require_coordinate) T.f_require_coordinate sc_require_coordinate fun cdv A0 outer s0 H0 E0 hG hr tk =>
    (sss_one (ss_if (st_not (st_val (se_call (ok_is_whole T) hG (hr.mono (by omega)) (by rfl) T.m_is_whole T.f_is_whole.kp T.b_is_whole tk (sa_cons (v_ 0) (sa_cons (e_sub se_int (T.k_MOST_PLACE.elim fun _ h => e_gI h)) (sa_cons (T.k_MOST_PLACE.elim fun _ h => e_gI h) sa_nil)))))) (sss_one (ss_raise "InvalidPlace" rfl rfl tk T.xc111 (by omega) (by omega) T.xi111 T.gx111 se_str)) sss_nil))

theorem sc_require_place : FnScope ["x", "y"] ["x", "y"] (defScope (top 14)) := ⟨rfl, rfl, rfl, by decide +kernel, rfl, by decide +kernel, by decide +kernel⟩
theorem ok_require_place (T : Fx K mg cls A FD) : FnG P w K mg base 4 (A 8) (FD 8) ["x", "y"] (spF (⟨K, cls, A⟩ : Cg) 2 s_require_place) :=
  fn_ok (N := ["x", "y"]) (ps := ["x", "y"]) (k := 3) (h := b_require_place) T.f_require_place sc_require_place fun cdv A0 outer s0 H0 E0 hG hr tk =>
    (sss_cons (ss_expr (se_call (ok_require_coordinate T) hG (hr.mono (by omega)) (by rfl) T.m_require_coordinate T.f_require_coordinate.kp T.b_require_coordinate tk (sa_cons (v_ 0) sa_nil)))
    (sss_one (ss_expr (se_call (ok_require_coordinate T) hG (hr.mono (by omega)) (by rfl) T.m_require_coordinate T.f_require_coordinate.kp T.b_require_coordinate tk (sa_cons (v_ 1) sa_nil)))))

theorem sc_Screen_depth : FnScope ["self"] ["self"] (defScope (inClass (top 16) 3)) := ⟨rfl, rfl, rfl, by decide +kernel, rfl, by decide +kernel, by decide +kernel⟩
theorem ok_Screen_depth (T : Fx K mg cls A FD) : FnG P w K mg base 1 (A 9) (FD 9) ["self"] (spF (⟨K, cls, A⟩ : Cg) 1 s_Screen_depth) :=
  fn_ok (N := ["self"]) (ps := ["self"]) (k := 0) (h := b_Screen_depth) T.f_Screen_depth sc_Screen_depth fun cdv A0 outer s0 H0 E0 hG hr tk =>
    (sss_one (ss_ret (e_len rfl T.n_len (se_attr rfl (v_ 0) T.cf0.cl T.na_own_levels))))

theorem sc_moved_levels : FnScope ["levels", "x", "y", "last", "cell"] ["levels", "x", "y"] (defScope (top 20)) := ⟨rfl, rfl, rfl, by decide +kernel, rfl, by decide +kernel, by decide +kernel⟩
theorem ok_moved_levels (T : Fx K mg cls A FD) : FnG P w K mg base 1 (A 10) (FD 10) ["levels", "x", "y"] (spF (⟨K, cls, A⟩ : Cg) 3 s_moved_levels) :=
  fn_ok (N := ["levels", "x", "y", "last", "cell"]) (ps := ["levels", "x", "y"]) (k := 0) (h := b_moved_levels) T.f_moved_levels sc_moved_levels fun cdv A0 outer s0 H0 E0 hG hr tk =>
    (sss_cons (ss_set sc_moved_levels.nd (i := 3) rfl (Or.inr rfl) (se_ix rfl (v_ 0) (e_neg se_int)))
    (sss_one (ss_ret (se_lst (sa_star rfl (se_sl rfl (v_ 0) so_none (so_some (e_neg se_int))) (sa_cons (e_tuple rfl T.n_tuple (lc1_ (by rfl) rfl sc_moved_levels.nd (si_range1 (by rfl) T.n_range (sa_cons se_int sa_nil)) (blkOk_by (own := [("cell", 4)]) (by rfl)) (by decide) (fun _ _ _ _ _ => (pg_name (i := 4) sc_moved_levels.nd rfl (Or.inl rfl))) (fun _ _ _ _ _ => sts_nil) (fun _ _ _ _ _ => (se_ix rfl (v_ 3) (e_bxor (v_ 4) (e_add (v_ 1) (e_mul se_int (v_ 2)))))))) sa_nil))))))

theorem sc_moved : FnScope ["screen", "x", "y", "half"] ["screen", "x", "y"] (defScope (top 21)) := ⟨rfl, rfl, rfl, by decide +kernel, rfl, by decide +kernel, by decide +kernel⟩
theorem ok_moved (T : Fx K mg cls A FD) : FnG P w K mg base 5 (A 11) (FD 11) ["screen", "x", "y"] (spF (⟨K, cls, A⟩ : Cg) 3 s_moved) :=
  fn_ok (N := ["screen", "x", "y", "half"]) (ps := ["screen", "x", "y"]) (k := 4) (h := b_moved) T.f_moved sc_moved fun cdv A0 outer s0 H0 E0 hG hr tk =>
    (sss_cons (ss_expr (se_call (ok_require_screen T) hG (hr.mono (by omega)) (by rfl) T.m_require_screen T.f_require_screen.kp T.b_require_screen tk (sa_cons (v_ 0) sa_nil)))
    (sss_cons (ss_expr (se_call (ok_require_place T) hG (hr.mono (by omega)) (by rfl) T.m_require_place T.f_require_place.kp T.b_require_place tk (sa_cons (v_ 1) (sa_cons (v_ 2) sa_nil))))
    (sss_cons (ss_set sc_moved.nd (i := 3) rfl (Or.inl rfl) (e_sub (T.p_Screen_depth.elim fun _ h => se_prop (v_ 0) T.cf0.cl h (ok_Screen_depth T) hG (hr.mono (by omega)) T.b_Screen_depth) se_int))
    (sss_cons (ss_if (st_bool (sw_or (st_valI (e_band (v_ 1) (e_sub (e_shl se_int (v_ 3)) se_int))) (sw_or1 (st_valI (e_band (v_ 2) (e_sub (e_shl se_int (v_ 3)) se_int)))))) (sss_one (ss_ret se_non)) sss_nil)
    (sss_one (ss_ret (se_make T.mk0 (ok_Screen___init T) hG (hr.mono (by omega)) (by rfl) T.c0 T.b_Screen___init tk (sa_cons (se_pur (se_call (ok_moved_levels T) hG (hr.mono (by omega)) (by rfl) T.m_moved_levels T.f_moved_levels.kp T.b_moved_levels tk (sa_cons (se_attr rfl (v_ 0) T.cf0.cl T.na_own_levels) (sa_cons (e_band (e_shr (v_ 1) (v_ 3)) se_int) (sa_cons (e_band (e_shr (v_ 2) (v_ 3)) se_int) sa_nil))))) sa_nil))))))))

theorem sc_shift_between : FnScope ["screen", "second", "x", "y"] ["screen", "second"] (defScope (top 22)) := ⟨rfl, rfl, rfl, by decide +kernel, rfl, by decide +kernel, by decide +kernel⟩
theorem ok_shift_between (T : Fx K mg cls A FD) : FnG P w K mg base 3 (A 12) (FD 12) ["screen", "second"] (spF (⟨K, cls, A⟩ : Cg) 2 s_shift_between) :=
  fn_ok (N := ["screen", "second", "x", "y"]) (ps := ["screen", "second"]) (k := 2) (h := b_shift_between) T.f_shift_between sc_shift_between fun cdv A0 outer s0 H0 E0 hG hr tk =>
    (sss_cons (ss_expr (se_call (ok_require_screen T) hG (hr.mono (by omega)) (by rfl) T.m_require_screen T.f_require_screen.kp T.b_require_screen tk (sa_cons (v_ 0) sa_nil)))
    (sss_cons (ss_expr (se_call (ok_require_screen T) hG (hr.mono (by omega)) (by rfl) T.m_require_screen T.f_require_screen.kp T.b_require_screen tk (sa_cons (v_ 1) sa_nil)))
    (sss_cons (ss_for (passes_of rfl) rfl (si_seq rfl (se_tup (sa_cons se_int (sa_cons se_int sa_nil)))) (sg_name sc_shift_between.nd (i := 2) rfl (Or.inl rfl)) gN_noexc (sss_one (ss_for (passes_of rfl) rfl (si_seq rfl (se_tup (sa_cons se_int (sa_cons se_int sa_nil)))) (sg_name sc_shift_between.nd (i := 3) rfl (Or.inl rfl)) gN_noexc (sss_one (ss_if (t_eq hr rfl (se_call (ok_moved_levels T) hG (hr.mono (by omega)) (by rfl) T.m_moved_levels T.f_moved_levels.kp T.b_moved_levels tk (sa_cons (se_attr rfl (v_ 0) T.cf0.cl T.na_own_levels) (sa_cons (v_ 2) (sa_cons (v_ 3) sa_nil)))) (T.p_Screen_levels.elim fun _ h => se_prop (v_ 1) T.cf0.cl h (ok_Screen_levels T) hG (hr.mono (by omega)) T.b_Screen_levels)) (sss_one (ss_ret (se_tup (sa_cons (e_shl (v_ 2) (e_sub (T.p_Screen_depth.elim fun _ h => se_prop (v_ 0) T.cf0.cl h (ok_Screen_depth T) hG (hr.mono (by omega)) T.b_Screen_depth) se_int)) (sa_cons (e_shl (v_ 3) (e_sub (T.p_Screen_depth.elim fun _ h => se_prop (v_ 0) T.cf0.cl h (ok_Screen_depth T) hG (hr.mono (by omega)) T.b_Screen_depth) se_int)) sa_nil))))) sss_nil)))))
    (sss_one (ss_ret se_non)))))

theorem sc_z_law_pick : FnScope ["bag", "many", "told", "seed", "turn", "first", "second", "drawn"] ["bag", "many"] (defScope (top 25)) := ⟨rfl, rfl, rfl, by decide +kernel, rfl, by decide +kernel, by decide +kernel⟩
theorem ok_z_law_pick (T : Fx K mg cls A FD) : FnG P w K mg base 1 (A 13) (FD 13) ["bag", "many"] (spF (⟨K, cls, A⟩ : Cg) 2 s_z_law_pick) :=
  fn_ok (N := ["bag", "many", "told", "seed", "turn", "first", "second", "drawn"]) (ps := ["bag", "many"]) (k := 0) (h := b_z_law_pick) T.f_z_law_pick sc_z_law_pick fun cdv A0 outer s0 H0 E0 hG hr tk =>
    (sss_cons (ss_sub (e_add (se_ix rfl (v_ 0) se_int) se_int) (v_ 0) se_int)
    (sss_cons (ss_if (t_gt (se_ix rfl (v_ 0) se_int) se_int) (sss_cons (ss_set sc_z_law_pick.nd (i := 2) rfl (Or.inl rfl) (e_mod (e_int T.n_int (se_ix rfl (v_ 0) se_int)) (v_ 1)))
    (sss_cons (ss_sub (e_div (e_int T.n_int (se_ix rfl (v_ 0) se_int)) (v_ 1)) (v_ 0) se_int)
    (sss_one (ss_ret (v_ 2))))) sss_nil)
    (sss_cons (ss_par rfl sc_z_law_pick.nd (i := 3) (j := 4) rfl rfl (by decide) rfl rfl (sa_cons (e_int T.n_int (se_ix rfl (v_ 0) se_int)) (sa_cons (e_int T.n_int (se_ix rfl (v_ 0) se_int)) sa_nil)) rfl)
    (sss_cons (ss_set sc_z_law_pick.nd (i := 5) rfl (Or.inl rfl) (e_mod (e_int T.n_int (e_add (e_add (e_mul (e_mod (v_ 3) se_int) se_int) (e_mul (v_ 4) se_int)) se_int)) se_int))
    (sss_cons (ss_set sc_z_law_pick.nd (i := 6) rfl (Or.inl rfl) (e_mod (e_int T.n_int (e_add (e_mul (v_ 5) (v_ 5)) (e_mul (v_ 4) se_int))) se_int))
    (sss_cons (ss_set sc_z_law_pick.nd (i := 7) rfl (Or.inl rfl) (e_div (e_int T.n_int (e_add (e_mul (v_ 5) se_int) (v_ 6))) se_int))
    (sss_cons (ss_if (t_gt (v_ 1) (e_pow se_int se_int)) (sss_one (ss_set sc_z_law_pick.nd (i := 7) rfl (Or.inl rfl) (e_add (e_pow (v_ 7) se_int) (v_ 6)))) sss_nil)
    (sss_one (ss_ret (e_mod (e_int T.n_int (v_ 7)) (v_ 1)))))))))))

theorem sc_z_law_levels_v1 : FnScope ["bag", "most", "found", "turn", "left", "level"] ["bag", "most"] (defScope (top 26)) := ⟨rfl, rfl, rfl, by decide +kernel, rfl, by decide +kernel, by decide +kernel⟩
theorem ok_z_law_levels_v1 (T : Fx K mg cls A FD) : FnG P w K mg base 2 (A 14) (FD 14) ["bag", "most"] (spF (⟨K, cls, A⟩ : Cg) 2 s_z_law_levels_v1) :=
  fn_ok (N := ["bag", "most", "found", "turn", "left", "level"]) (ps := ["bag", "most"]) (k := 1) (h := b_z_law_levels_v1) T.f_z_law_levels_v1 sc_z_law_levels_v1 fun cdv A0 outer s0 H0 E0 hG hr tk =>
    (sss_cons (ss_set sc_z_law_levels_v1.nd (i := 2) rfl (Or.inl rfl) (se_lst sa_nil))
    (sss_cons (ss_for (passes_of rfl) rfl (si_range1 (by rfl) T.n_range (sa_cons (e_add se_int (se_call (ok_z_law_pick T) hG (hr.mono (by omega)) (by rfl) T.m_z_law_pick T.f_z_law_pick.kp T.b_z_law_pick tk (sa_cons (v_ 0) (sa_cons (v_ 1) sa_nil)))) sa_nil)) (sg_name sc_z_law_levels_v1.nd (i := 3) rfl (Or.inl rfl)) gN_noexc (sss_cons (ss_par rfl sc_z_law_levels_v1.nd (i := 4) (j := 5) rfl rfl (by decide) rfl rfl (sa_cons (se_lst (sa_cons se_int (sa_cons se_int (sa_cons se_int (sa_cons se_int sa_nil))))) (sa_cons (se_lst sa_nil) sa_nil)) rfl)
    (sss_cons (ss_while (passes_of rfl) (t_ne hr rfl (v_ 4) (se_lst sa_nil)) (sss_one (ss_expr (e_app rfl (v_ 5) (e_popAt rfl (v_ 4) (se_call (ok_z_law_pick T) hG (hr.mono (by omega)) (by rfl) T.m_z_law_pick T.f_z_law_pick.kp T.b_z_law_pick tk (sa_cons (v_ 0) (sa_cons (e_len rfl T.n_len (v_ 4)) sa_nil))))))))
    (sss_one (ss_expr (e_app rfl (v_ 2) (e_tuple rfl T.n_tuple (v_ 5))))))))
    (sss_one (ss_ret (v_ 2)))))

theorem sc_place_of : FnScope ["levels", "number", "x", "y", "spot", "level", "digit", "cell"] ["levels", "number"] (defScope (top 18)) := ⟨rfl, rfl, rfl, by decide +kernel, rfl, by decide +kernel, by decide +kernel⟩
theorem ok_place_of (T : Fx K mg cls A FD) : FnG P w K mg base 1 (A 15) (FD 15) ["levels", "number"] (spF (⟨K, cls, A⟩ : Cg) 2 s_place_of) :=
  fn_ok (N := ["levels", "number", "x", "y", "spot", "level", "digit", "cell"]) (ps := ["levels", "number"]) (k := 0) (h := b_place_of) T.f_place_of sc_place_of fun cdv A0 outer s0 H0 E0 hG hr tk =>
    (sss_cons (ss_asg (se_tup (sa_cons se_int (sa_cons se_int sa_nil))) (sg_tup rfl rfl (sgs_cons (sg_name sc_place_of.nd (i := 2) rfl (Or.inl rfl)) (sgs_cons (sg_name sc_place_of.nd (i := 3) rfl (Or.inl rfl)) sgs_nil))) (gT_noexc (gsC_noexc gN_noexc (gsC_noexc gN_noexc gsN_noexc))))
    (sss_cons (ss_forT (n := 2) (passes_of rfl) rfl rfl (si_enum rfl (by rfl) T.n_enumerate (v_ 0)) (sgs_cons (sg_name sc_place_of.nd (i := 4) rfl (Or.inl rfl)) (sgs_cons (sg_name sc_place_of.nd (i := 5) rfl (Or.inl rfl)) sgs_nil)) (gsC_noexc gN_noexc (gsC_noexc gN_noexc gsN_noexc)) (sss_cons (ss_set sc_place_of.nd (i := 6) rfl (Or.inl rfl) (e_band (e_shr (v_ 1) (e_mul se_int (e_sub (e_sub (e_len rfl T.n_len (v_ 0)) se_int) (v_ 4)))) se_int))
    (sss_cons (ss_set sc_place_of.nd (i := 7) rfl (Or.inl rfl) (e_tidx rfl (v_ 5) (v_ 6)))
    (sss_one (ss_par rfl sc_place_of.nd (i := 2) (j := 3) rfl rfl (by decide) rfl rfl (sa_cons (e_add (v_ 2) (e_shl (e_band (v_ 7) se_int) (v_ 4))) (sa_cons (e_add (v_ 3) (e_shl (e_shr (v_ 7) se_int) (v_ 4))) sa_nil)) rfl)))) (gsC_len gN_noexc (gsC_len gN_noexc gsN_len)))
    (sss_one (ss_ret (se_tup (sa_cons (v_ 2) (sa_cons (v_ 3) sa_nil)))))))

theorem sc_Screen_place : FnScope ["self", "number"] ["self", "number"] (defScope (inClass (top 16) 7)) := ⟨rfl, rfl, rfl, by decide +kernel, rfl, by decide +kernel, by decide +kernel⟩
theorem ok_Screen_place (T : Fx K mg cls A FD) : FnG P w K mg base 3 (A 16) (FD 16) ["self", "number"] (spF (⟨K, cls, A⟩ : Cg) 2 s_Screen_place) :=
  fn_ok (N := ["self", "number"]) (ps := ["self", "number"]) (k := 2) (h := b_Screen_place) T.f_Screen_place sc_Screen_place fun cdv A0 outer s0 H0 E0 hG hr tk =>
    (sss_cons (ss_if (st_not (st_val (se_call (ok_is_whole T) hG (hr.mono (by omega)) (by rfl) T.m_is_whole T.f_is_whole.kp T.b_is_whole tk (sa_cons (v_ 1) (sa_cons se_int (sa_cons (e_sub (e_shl se_int (e_mul se_int (e_len rfl T.n_len (se_attr rfl (v_ 0) T.cf0.cl T.na_own_levels)))) se_int) sa_nil)))))) (sss_one (ss_raise "InvalidNumber" rfl rfl tk T.xc114 (by omega) (by omega) T.xi114 T.gx114 se_str)) sss_nil)
    (sss_one (ss_ret (se_call (ok_place_of T) hG (hr.mono (by omega)) (by rfl) T.m_place_of T.f_place_of.kp T.b_place_of tk (sa_cons (se_attr rfl (v_ 0) T.cf0.cl T.na_own_levels) (sa_cons (v_ 1) sa_nil))))))

theorem sc_Screen___eq : FnScope ["self", "other"] ["self", "other"] (defScope (inClass (top 16) 1)) := ⟨rfl, rfl, rfl, by decide +kernel, rfl, by decide +kernel, by decide +kernel⟩
theorem ok_Screen___eq (T : Fx K mg cls A FD) : FnG P w K mg base 1 (A 17) (FD 17) ["self", "other"] (spF (⟨K, cls, A⟩ : Cg) 2 s_Screen___eq) :=
  fn_ok (N := ["self", "other"]) (ps := ["self", "other"]) (k := 0) (h := b_Screen___eq) T.f_Screen___eq sc_Screen___eq fun cdv A0 outer s0 H0 E0 hG hr tk =>
    (sss_one (ss_ret (se_and (e_isC "Screen" T.cf0 T.n_isinstance T.c0 rfl (v_ 1)) (se_one (e_eq hr rfl (se_attr rfl (v_ 0) T.cf0.cl T.na_own_levels) (se_attr rfl (v_ 1) T.cf0.cl T.na_own_levels))))))

theorem sc_Screen_period : FnScope ["self"] ["self"] (defScope (inClass (top 16) 4)) := ⟨rfl, rfl, rfl, by decide +kernel, rfl, by decide +kernel, by decide +kernel⟩
theorem ok_Screen_period (T : Fx K mg cls A FD) : FnG P w K mg base 1 (A 18) (FD 18) ["self"] (spF (⟨K, cls, A⟩ : Cg) 1 s_Screen_period) :=
  fn_ok (N := ["self"]) (ps := ["self"]) (k := 0) (h := b_Screen_period) T.f_Screen_period sc_Screen_period fun cdv A0 outer s0 H0 E0 hG hr tk =>
    (sss_one (ss_ret (e_shl se_int (e_len rfl T.n_len (se_attr rfl (v_ 0) T.cf0.cl T.na_own_levels)))))

theorem sc_Screen_shades : FnScope ["self"] ["self"] (defScope (inClass (top 16) 5)) := ⟨rfl, rfl, rfl, by decide +kernel, rfl, by decide +kernel, by decide +kernel⟩
theorem ok_Screen_shades (T : Fx K mg cls A FD) : FnG P w K mg base 1 (A 19) (FD 19) ["self"] (spF (⟨K, cls, A⟩ : Cg) 1 s_Screen_shades) :=
  fn_ok (N := ["self"]) (ps := ["self"]) (k := 0) (h := b_Screen_shades) T.f_Screen_shades sc_Screen_shades fun cdv A0 outer s0 H0 E0 hG hr tk =>
    (sss_one (ss_ret (e_shl se_int (e_mul se_int (e_len rfl T.n_len (se_attr rfl (v_ 0) T.cf0.cl T.na_own_levels))))))

theorem sc_z_law_threshold_v1 : FnScope ["levels", "x", "y", "found", "spot", "level"] ["levels", "x", "y"] (defScope (top 27)) := ⟨rfl, rfl, rfl, by decide +kernel, rfl, by decide +kernel, by decide +kernel⟩
theorem ok_z_law_threshold_v1 (T : Fx K mg cls A FD) : FnG P w K mg base 1 (A 20) (FD 20) ["levels", "x", "y"] (spF (⟨K, cls, A⟩ : Cg) 3 s_z_law_threshold_v1) :=
  fn_ok (N := ["levels", "x", "y", "found", "spot", "level"]) (ps := ["levels", "x", "y"]) (k := 0) (h := b_z_law_threshold_v1) T.f_z_law_threshold_v1 sc_z_law_threshold_v1 fun cdv A0 outer s0 H0 E0 hG hr tk =>
    (sss_cons (ss_set sc_z_law_threshold_v1.nd (i := 3) rfl (Or.inl rfl) se_int)
    (sss_cons (ss_forT (n := 2) (passes_of rfl) rfl rfl (si_enum rfl (by rfl) T.n_enumerate (v_ 0)) (sgs_cons (sg_name sc_z_law_threshold_v1.nd (i := 4) rfl (Or.inl rfl)) (sgs_cons (sg_name sc_z_law_threshold_v1.nd (i := 5) rfl (Or.inl rfl)) sgs_nil)) (gsC_noexc gN_noexc (gsC_noexc gN_noexc gsN_noexc)) (sss_one (ss_set sc_z_law_threshold_v1.nd (i := 3) rfl (Or.inl rfl) (e_add (e_mul se_int (v_ 3)) (se_ix rfl (v_ 5) (e_add (e_band (e_shr (v_ 1) (v_ 4)) se_int) (e_mul se_int (e_band (e_shr (v_ 2) (v_ 4)) se_int))))))) (gsC_len gN_noexc (gsC_len gN_noexc gsN_len)))
    (sss_one (ss_ret (v_ 3)))))

theorem sc_z_law_told_right : FnScope ["levels", "told", "due", "many", "number", "x", "y"] ["levels", "told", "due"] (defScope (top 29)) := ⟨rfl, rfl, rfl, by decide +kernel, rfl, by decide +kernel, by decide +kernel⟩
theorem ok_z_law_told_right (T : Fx K mg cls A FD) : FnG P w K mg base 5 (A 21) (FD 21) ["levels", "told", "due"] (spF (⟨K, cls, A⟩ : Cg) 3 s_z_law_told_right) :=
  fn_ok (N := ["levels", "told", "due", "many", "number", "x", "y"]) (ps := ["levels", "told", "due"]) (k := 4) (h := b_z_law_told_right) T.f_z_law_told_right sc_z_law_told_right fun cdv A0 outer s0 H0 E0 hG hr tk =>
    (sss_cons (ss_if (st_isN (v_ 2)) (sss_one (ss_ret (se_isN (v_ 1)))) sss_nil)
    (sss_cons (ss_if (st_bool (sw_or (st_isN (v_ 1)) (sw_or (t_ne hr rfl (T.p_Screen_levels.elim fun _ h => se_prop (v_ 1) T.cf0.cl h (ok_Screen_levels T) hG (hr.mono (by omega)) T.b_Screen_levels) (v_ 2)) (sw_or1 (st_not (t_eqU rfl T.cf0 T.h_Screen___eq (ok_Screen___eq T) hG (hr.mono (by omega)) T.b_Screen___eq (v_ 1) (se_pur (se_make T.mk0 (ok_Screen___init T) hG (hr.mono (by omega)) (by rfl) T.c0 T.b_Screen___init tk (sa_cons (v_ 2) sa_nil))))))))) (sss_one (ss_ret se_bl)) sss_nil)
    (sss_cons (ss_set sc_z_law_told_right.nd (i := 3) rfl (Or.inl rfl) (e_len rfl T.n_len (v_ 0)))
    (sss_cons (ss_if (t_ne hr rfl (se_lst (sa_cons (T.p_Screen_depth.elim fun _ h => se_prop (v_ 1) T.cf0.cl h (ok_Screen_depth T) hG (hr.mono (by omega)) T.b_Screen_depth) (sa_cons (T.p_Screen_period.elim fun _ h => se_prop (v_ 1) T.cf0.cl h (ok_Screen_period T) hG (hr.mono (by omega)) T.b_Screen_period) (sa_cons (T.p_Screen_shades.elim fun _ h => se_prop (v_ 1) T.cf0.cl h (ok_Screen_shades T) hG (hr.mono (by omega)) T.b_Screen_shades) sa_nil)))) (se_lst (sa_cons (v_ 3) (sa_cons (e_shl se_int (v_ 3)) (sa_cons (e_shl se_int (e_mul se_int (v_ 3))) sa_nil))))) (sss_one (ss_ret se_bl)) sss_nil)
    (sss_cons (ss_for (passes_of rfl) rfl (si_seq rfl (se_tup (sa_cons se_int (sa_cons se_int (sa_cons (e_sub (e_shl se_int (e_mul se_int (v_ 3))) se_int) (sa_cons (e_shl se_int (v_ 3)) sa_nil)))))) (sg_name sc_z_law_told_right.nd (i := 4) rfl (Or.inl rfl)) gN_noexc (sss_cons (ss_asg (se_meth (v_ 1) T.cf0.cl T.h_Screen_place (ok_Screen_place T) hG (hr.mono (by omega)) T.b_Screen_place tk (sa_cons (v_ 4) sa_nil)) (sg_tup rfl rfl (sgs_cons (sg_name sc_z_law_told_right.nd (i := 5) rfl (Or.inl rfl)) (sgs_cons (sg_name sc_z_law_told_right.nd (i := 6) rfl (Or.inl rfl)) sgs_nil))) (gT_noexc (gsC_noexc gN_noexc (gsC_noexc gN_noexc gsN_noexc))))
    (sss_one (ss_if (st_bool (sw_or (t_ne hr rfl (se_call (ok_z_law_threshold_v1 T) hG (hr.mono (by omega)) (by rfl) T.m_z_law_threshold_v1 T.f_z_law_threshold_v1.kp T.b_z_law_threshold_v1 tk (sa_cons (v_ 2) (sa_cons (v_ 5) (sa_cons (v_ 6) sa_nil)))) (v_ 4)) (sw_or (st_not (st_chain op_le op_lt (od_I0 fun _ _ _ => repB) (od_I0 fun _ _ _ => repB) se_int (v_ 5) (e_shl se_int (v_ 3)))) (sw_or1 (st_not (st_chain op_le op_lt (od_I0 fun _ _ _ => repB) (od_I0 fun _ _ _ => repB) se_int (v_ 6) (e_shl se_int (v_ 3)))))))) (sss_one (ss_ret se_bl)) sss_nil))))
    (sss_one (ss_ret se_bl)))))))

theorem sc_z_law_made : FnScope ["levels", "x", "y", "depth", "found", "spot", "cells", "cell", "there", "right", "down"] ["levels", "x", "y"] (defScope (top 28)) := ⟨rfl, rfl, rfl, by decide +kernel, rfl, by decide +kernel, by decide +kernel⟩
theorem ok_z_law_made (T : Fx K mg cls A FD) : FnG P w K mg base 2 (A 22) (FD 22) ["levels", "x", "y"] (spF (⟨K, cls, A⟩ : Cg) 3 s_z_law_made) :=
  fn_ok (N := ["levels", "x", "y", "depth", "found", "spot", "cells", "cell", "there", "right", "down"]) (ps := ["levels", "x", "y"]) (k := 1) (h := b_z_law_made) T.f_z_law_made sc_z_law_made fun cdv A0 outer s0 H0 E0 hG hr tk =>
    (sss_cons (ss_par rfl sc_z_law_made.nd (i := 3) (j := 4) rfl rfl (by decide) rfl rfl (sa_cons (e_len rfl T.n_len (v_ 0)) (sa_cons (se_lst sa_nil) sa_nil)) rfl)
    (sss_cons (ss_for (passes_of rfl) rfl (si_range1 (by rfl) T.n_range (sa_cons (v_ 3) sa_nil)) (sg_name sc_z_law_made.nd (i := 5) rfl (Or.inl rfl)) gN_noexc (sss_cons (ss_set sc_z_law_made.nd (i := 6) rfl (Or.inl rfl) (se_lst sa_nil))
    (sss_cons (ss_for (passes_of rfl) rfl (si_range1 (by rfl) T.n_range (sa_cons se_int sa_nil)) (sg_name sc_z_law_made.nd (i := 7) rfl (Or.inl rfl)) gN_noexc (sss_cons (ss_set sc_z_law_made.nd (i := 8) rfl (Or.inl rfl) (se_call (ok_z_law_threshold_v1 T) hG (hr.mono (by omega)) (by rfl) T.m_z_law_threshold_v1 T.f_z_law_threshold_v1.kp T.b_z_law_threshold_v1 tk (sa_cons (v_ 0) (sa_cons (e_sub (e_shl (e_band (v_ 7) se_int) (v_ 5)) (v_ 1)) (sa_cons (e_sub (e_shl (e_shr (v_ 7) se_int) (v_ 5)) (v_ 2)) sa_nil)))))
    (sss_one (ss_expr (e_app rfl (v_ 6) (e_band (e_shr (v_ 8) (e_mul se_int (e_sub (e_sub (v_ 3) se_int) (v_ 5)))) se_int))))))
    (sss_one (ss_expr (e_app rfl (v_ 4) (e_tuple rfl T.n_tuple (v_ 6))))))))
    (sss_cons (ss_for (passes_of rfl) rfl (si_range1 (by rfl) T.n_range (sa_cons (e_shl se_int (v_ 3)) sa_nil)) (sg_name sc_z_law_made.nd (i := 9) rfl (Or.inl rfl)) gN_noexc (sss_one (ss_for (passes_of rfl) rfl (si_range1 (by rfl) T.n_range (sa_cons (e_shl se_int (v_ 3)) sa_nil)) (sg_name sc_z_law_made.nd (i := 10) rfl (Or.inl rfl)) gN_noexc (sss_one (ss_if (t_ne hr rfl (se_call (ok_z_law_threshold_v1 T) hG (hr.mono (by omega)) (by rfl) T.m_z_law_threshold_v1 T.f_z_law_threshold_v1.kp T.b_z_law_threshold_v1 tk (sa_cons (se_pur (v_ 4)) (sa_cons (v_ 9) (sa_cons (v_ 10) sa_nil)))) (se_call (ok_z_law_threshold_v1 T) hG (hr.mono (by omega)) (by rfl) T.m_z_law_threshold_v1 T.f_z_law_threshold_v1.kp T.b_z_law_threshold_v1 tk (sa_cons (v_ 0) (sa_cons (e_sub (v_ 9) (v_ 1)) (sa_cons (e_sub (v_ 10) (v_ 2)) sa_nil))))) (sss_one (ss_ret se_non)) sss_nil)))))
    (sss_one (ss_ret (v_ 4))))))

theorem sc_z_law_small_right : FnScope ["bag", "levels", "screen", "side", "shifts", "x", "y", "due", "far", "second", "fit", "shift"] ["bag"] (defScope (top 30)) := ⟨rfl, rfl, rfl, by decide +kernel, rfl, by decide +kernel, by decide +kernel⟩
theorem ok_z_law_small_right (T : Fx K mg cls A FD) : FnG P w K mg base 6 (A 23) (FD 23) ["bag"] (spF (⟨K, cls, A⟩ : Cg) 1 s_z_law_small_right) :=
  fn_ok (N := ["bag", "levels", "screen", "side", "shifts", "x", "y", "due", "far", "second", "fit", "shift"]) (ps := ["bag"]) (k := 5) (h := b_z_law_small_right) T.f_z_law_small_right sc_z_law_small_right fun cdv A0 outer s0 H0 E0 hG hr tk =>
    (sss_cons (ss_set sc_z_law_small_right.nd (i := 1) rfl (Or.inl rfl) (se_pur (se_call (ok_z_law_levels_v1 T) hG (hr.mono (by omega)) (by rfl) T.m_z_law_levels_v1 T.f_z_law_levels_v1.kp T.b_z_law_levels_v1 tk (sa_cons (v_ 0) (sa_cons se_int sa_nil)))))
    (sss_cons (ss_par rfl sc_z_law_small_right.nd (i := 2) (j := 3) rfl rfl (by decide) rfl rfl (sa_cons (se_pur (se_make T.mk0 (ok_Screen___init T) hG (hr.mono (by omega)) (by rfl) T.c0 T.b_Screen___init tk (sa_cons (v_ 1) sa_nil))) (sa_cons (e_shl se_int (e_len rfl T.n_len (v_ 1))) sa_nil)) rfl)
    (sss_cons (ss_set sc_z_law_small_right.nd (i := 4) rfl (Or.inr rfl) se_dtE)
    (sss_cons (ss_thenPur (ss_for (passes_of rfl) rfl (si_range1 (by rfl) T.n_range (sa_cons (v_ 3) sa_nil)) (sg_name sc_z_law_small_right.nd (i := 5) rfl (Or.inl rfl)) gN_noexc (sss_one (ss_for (passes_of rfl) rfl (si_range1 (by rfl) T.n_range (sa_cons (v_ 3) sa_nil)) (sg_name sc_z_law_small_right.nd (i := 6) rfl (Or.inl rfl)) gN_noexc (sss_cons (ss_set sc_z_law_small_right.nd (i := 7) rfl (Or.inl rfl) (se_pur (se_call (ok_z_law_made T) hG (hr.mono (by omega)) (by rfl) T.m_z_law_made T.f_z_law_made.kp T.b_z_law_made tk (sa_cons (v_ 1) (sa_cons (v_ 5) (sa_cons (v_ 6) sa_nil))))))
    (sss_cons (ss_if (st_not (st_val (se_call (ok_z_law_told_right T) hG (hr.mono (by omega)) (by rfl) T.m_z_law_told_right T.f_z_law_told_right.kp T.b_z_law_told_right tk (sa_cons (v_ 1) (sa_cons (se_pur (se_call (ok_moved T) hG (hr.mono (by omega)) (by rfl) T.m_moved T.f_moved.kp T.b_moved tk (sa_cons (v_ 2) (sa_cons (v_ 5) (sa_cons (v_ 6) sa_nil))))) (sa_cons (v_ 7) sa_nil)))))) (sss_one (ss_ret se_bl)) sss_nil)
    (sss_one (ss_if (st_notN (v_ 7)) (sss_one (ss_dset hr rfl (v_ 7) (v_ 4) (se_tup (sa_cons (v_ 5) (sa_cons (v_ 6) sa_nil))))) sss_nil))))))))
    (sss_cons (ss_set sc_z_law_small_right.nd (i := 8) rfl (Or.inl rfl) (e_mul (v_ 3) (e_sub (se_call (ok_z_law_pick T) hG (hr.mono (by omega)) (by rfl) T.m_z_law_pick T.f_z_law_pick.kp T.b_z_law_pick tk (sa_cons (v_ 0) (sa_cons (e_mul se_int (e_pow se_int se_int)) sa_nil))) (e_pow se_int se_int))))
    (sss_cons (ss_par rfl sc_z_law_small_right.nd (i := 5) (j := 6) rfl rfl (by decide) rfl rfl (sa_cons (se_call (ok_z_law_pick T) hG (hr.mono (by omega)) (by rfl) T.m_z_law_pick T.f_z_law_pick.kp T.b_z_law_pick tk (sa_cons (v_ 0) (sa_cons (v_ 3) sa_nil))) (sa_cons (se_call (ok_z_law_pick T) hG (hr.mono (by omega)) (by rfl) T.m_z_law_pick T.f_z_law_pick.kp T.b_z_law_pick tk (sa_cons (v_ 0) (sa_cons (v_ 3) sa_nil))) sa_nil)) rfl)
    (sss_cons (ss_if (st_not (st_val (se_call (ok_z_law_told_right T) hG (hr.mono (by omega)) (by rfl) T.m_z_law_told_right T.f_z_law_told_right.kp T.b_z_law_told_right tk (sa_cons (v_ 1) (sa_cons (se_pur (se_call (ok_moved T) hG (hr.mono (by omega)) (by rfl) T.m_moved T.f_moved.kp T.b_moved tk (sa_cons (v_ 2) (sa_cons (e_sub (v_ 5) (v_ 8)) (sa_cons (e_add (v_ 6) (v_ 8)) sa_nil))))) (sa_cons (se_pur (e_dget1 hr rfl (v_ 4) (se_tup (sa_cons (v_ 5) (sa_cons (v_ 6) sa_nil))))) sa_nil)))))) (sss_one (ss_ret se_bl)) sss_nil)
    (sss_cons (ss_for (passes_of rfl) rfl (si_seq rfl (e_add (lc1_ (by rfl) rfl sc_z_law_small_right.nd (si_dd (v_ 4)) (blkOk_by (own := [("shift", 11)]) (by rfl)) (by decide) (fun _ _ _ _ _ => (pg_name (i := 11) sc_z_law_small_right.nd rfl (Or.inl rfl))) (fun _ _ _ _ _ => sts_nil) (fun _ _ _ _ _ => (se_dix hr rfl (v_ 4) (v_ 11)))) (se_lst (sa_cons (se_call (ok_z_law_levels_v1 T) hG (hr.mono (by omega)) (by rfl) T.m_z_law_levels_v1 T.f_z_law_levels_v1.kp T.b_z_law_levels_v1 tk (sa_cons (v_ 0) (sa_cons se_int sa_nil))) (sa_cons (e_add (v_ 1) (se_sl rfl (v_ 1) so_none (so_some se_int))) sa_nil))))) (sg_name sc_z_law_small_right.nd (i := 9) rfl (Or.inr rfl)) gN_noexc (sss_cons (ss_thenPur (slc1_ (by rfl) rfl sc_z_law_small_right.nd (j := 10) rfl rfl rfl (si_dd (v_ 4)) (blkOk_by (own := [("shift", 11)]) (by rfl)) (by decide) (fun _ _ _ _ _ => (pg_name (i := 11) sc_z_law_small_right.nd rfl (Or.inl rfl))) (fun _ _ _ _ _ => (sts_one (t_eq hr rfl (se_dix hr rfl (v_ 4) (v_ 11)) (v_ 9)))) (fun _ _ _ _ _ => (v_ 11))))
    (sss_one (ss_if (t_ne hr rfl (e_repr rfl hG hr T.n_repr (se_call (ok_shift_between T) hG (hr.mono (by omega)) (by rfl) T.m_shift_between T.f_shift_between.kp T.b_shift_between tk (sa_cons (v_ 2) (sa_cons (se_pur (se_make T.mk0 (ok_Screen___init T) hG (hr.mono (by omega)) (by rfl) T.c0 T.b_Screen___init tk (sa_cons (v_ 9) sa_nil))) sa_nil)))) (e_repr rfl hG hr T.n_repr (se_if (t_ne hr rfl (v_ 10) (se_lst sa_nil)) (e_minP hr rfl rfl T.n_min (v_ 10)) se_non))) (sss_one (ss_ret se_bl)) sss_nil))))
    (sss_one (ss_ret se_bl))))))))))

theorem sc_threshold_at : FnScope ["screen", "x", "y", "found", "spot", "level"] ["screen", "x", "y"] (defScope (top 17)) := ⟨rfl, rfl, rfl, by decide +kernel, rfl, by decide +kernel, by decide +kernel⟩
theorem ok_threshold_at (T : Fx K mg cls A FD) : FnG P w K mg base 1 (A 24) (FD 24) ["screen", "x", "y"] (spF (⟨K, cls, A⟩ : Cg) 3 s_threshold_at) :=
  fn_ok (N := ["screen", "x", "y", "found", "spot", "level"]) (ps := ["screen", "x", "y"]) (k := 0) (h := b_threshold_at) T.f_threshold_at sc_threshold_at fun cdv A0 outer s0 H0 E0 hG hr tk =>
    (sss_cons (ss_set sc_threshold_at.nd (i := 3) rfl (Or.inl rfl) se_int)
    (sss_cons (ss_forT (n := 2) (passes_of rfl) rfl rfl (si_enum rfl (by rfl) T.n_enumerate (se_attr rfl (v_ 0) T.cf0.cl T.na_own_levels)) (sgs_cons (sg_name sc_threshold_at.nd (i := 4) rfl (Or.inl rfl)) (sgs_cons (sg_name sc_threshold_at.nd (i := 5) rfl (Or.inl rfl)) sgs_nil)) (gsC_noexc gN_noexc (gsC_noexc gN_noexc gsN_noexc)) (sss_one (ss_set sc_threshold_at.nd (i := 3) rfl (Or.inl rfl) (e_add (e_mul se_int (v_ 3)) (se_ix rfl (v_ 5) (e_add (e_band (e_shr (v_ 1) (v_ 4)) se_int) (e_mul se_int (e_band (e_shr (v_ 2) (v_ 4)) se_int))))))) (gsC_len gN_noexc (gsC_len gN_noexc gsN_len)))
    (sss_one (ss_ret (v_ 3)))))

theorem sc_Screen_threshold : FnScope ["self", "x", "y"] ["self", "x", "y"] (defScope (inClass (top 16) 6)) := ⟨rfl, rfl, rfl, by decide +kernel, rfl, by decide +kernel, by decide +kernel⟩
theorem ok_Screen_threshold (T : Fx K mg cls A FD) : FnG P w K mg base 5 (A 25) (FD 25) ["self", "x", "y"] (spF (⟨K, cls, A⟩ : Cg) 3 s_Screen_threshold) :=
  fn_ok (N := ["self", "x", "y"]) (ps := ["self", "x", "y"]) (k := 4) (h := b_Screen_threshold) T.f_Screen_threshold sc_Screen_threshold fun cdv A0 outer s0 H0 E0 hG hr tk =>
    (sss_cons (ss_expr (se_call (ok_require_place T) hG (hr.mono (by omega)) (by rfl) T.m_require_place T.f_require_place.kp T.b_require_place tk (sa_cons (v_ 1) (sa_cons (v_ 2) sa_nil))))
    (sss_one (ss_ret (se_call (ok_threshold_at T) hG (hr.mono (by omega)) (by rfl) T.m_threshold_at T.f_threshold_at.kp T.b_threshold_at tk (sa_cons (v_ 0) (sa_cons (v_ 1) (sa_cons (v_ 2) sa_nil)))))))

theorem sc_z_law_deep_right : FnScope ["bag", "most", "levels", "screen", "half", "some", "turn", "x", "y", "told", "again", "right", "down", "due", "at", "last", "others", "axis", "number"] ["bag", "most"] (defScope (top 31)) := ⟨rfl, rfl, rfl, by decide +kernel, rfl, by decide +kernel, by decide +kernel⟩
theorem ok_z_law_deep_right (T : Fx K mg cls A FD) : FnG P w K mg base 6 (A 26) (FD 26) ["bag", "most"] (spF (⟨K, cls, A⟩ : Cg) 2 s_z_law_deep_right) :=
  fn_ok (N := ["bag", "most", "levels", "screen", "half", "some", "turn", "x", "y", "told", "again", "right", "down", "due", "at", "last", "others", "axis", "number"]) (ps := ["bag", "most"]) (k := 5) (h := b_z_law_deep_right) T.f_z_law_deep_right sc_z_law_deep_right fun cdv A0 outer s0 H0 E0 hG hr tk =>
    (sss_cons (ss_set sc_z_law_deep_right.nd (i := 2) rfl (Or.inl rfl) (se_pur (se_call (ok_z_law_levels_v1 T) hG (hr.mono (by omega)) (by rfl) T.m_z_law_levels_v1 T.f_z_law_levels_v1.kp T.b_z_law_levels_v1 tk (sa_cons (v_ 0) (sa_cons (v_ 1) sa_nil)))))
    (sss_cons (ss_asg (se_tup (sa_cons (se_make T.mk0 (ok_Screen___init T) hG (hr.mono (by omega)) (by rfl) T.c0 T.b_Screen___init tk (sa_cons (v_ 2) sa_nil)) (sa_cons (e_shl se_int (e_sub (e_len rfl T.n_len (v_ 2)) se_int)) sa_nil))) (sg_tup rfl rfl (sgs_cons (sg_name sc_z_law_deep_right.nd (i := 3) rfl (Or.inr rfl)) (sgs_cons (sg_name sc_z_law_deep_right.nd (i := 4) rfl (Or.inr rfl)) sgs_nil))) (gT_noexc (gsC_noexc gN_noexc (gsC_noexc gN_noexc gsN_noexc))))
    (sss_cons (ss_set sc_z_law_deep_right.nd (i := 5) rfl (Or.inr rfl) (se_pur (se_lst (sa_cons (e_mul (v_ 4) (e_sub (se_call (ok_z_law_pick T) hG (hr.mono (by omega)) (by rfl) T.m_z_law_pick T.f_z_law_pick.kp T.b_z_law_pick tk (sa_cons (v_ 0) (sa_cons se_int sa_nil))) se_int)) (sa_cons (e_shl se_int (se_call (ok_z_law_pick T) hG (hr.mono (by omega)) (by rfl) T.m_z_law_pick T.f_z_law_pick.kp T.b_z_law_pick tk (sa_cons (v_ 0) (sa_cons (e_add (e_len rfl T.n_len (v_ 2)) se_int) sa_nil)))) (sa_cons (se_call (ok_z_law_pick T) hG (hr.mono (by omega)) (by rfl) T.m_z_law_pick T.f_z_law_pick.kp T.b_z_law_pick tk (sa_cons (v_ 0) (sa_cons (e_pow se_int se_int) sa_nil))) sa_nil))))))
    (sss_cons (ss_for (passes_of rfl) rfl (si_range1 (by rfl) T.n_range (sa_cons se_int sa_nil)) (sg_name sc_z_law_deep_right.nd (i := 6) rfl (Or.inl rfl)) gN_noexc (sss_cons (ss_asg (se_pur (lc1_ (by rfl) rfl sc_z_law_deep_right.nd (si_seq rfl (se_tup (sa_cons se_int (sa_cons se_int sa_nil)))) (blkOk_by (own := [("axis", 17)]) (by rfl)) (by decide) (fun _ _ _ _ _ => (pg_name (i := 17) sc_z_law_deep_right.nd rfl (Or.inl rfl))) (fun _ _ _ _ _ => sts_nil) (fun _ _ _ _ _ => (se_ix rfl (se_lst (sa_cons (e_mul (v_ 4) (se_call (ok_z_law_pick T) hG (hr.mono (by omega)) (by rfl) T.m_z_law_pick T.f_z_law_pick.kp T.b_z_law_pick takesW0 (sa_cons (v_ 0) (sa_cons se_int sa_nil)))) (sa_cons (se_ix rfl (v_ 5) (se_call (ok_z_law_pick T) hG (hr.mono (by omega)) (by rfl) T.m_z_law_pick T.f_z_law_pick.kp T.b_z_law_pick takesW0 (sa_cons (v_ 0) (sa_cons se_int sa_nil)))) sa_nil))) (se_call (ok_z_law_pick T) hG (hr.mono (by omega)) (by rfl) T.m_z_law_pick T.f_z_law_pick.kp T.b_z_law_pick takesW0 (sa_cons (v_ 0) (sa_cons se_int sa_nil))))))) (sg_lst rfl rfl (sgs_cons (sg_name sc_z_law_deep_right.nd (i := 7) rfl (Or.inl rfl)) (sgs_cons (sg_name sc_z_law_deep_right.nd (i := 8) rfl (Or.inl rfl)) sgs_nil))) (gL_noexc (gsC_noexc gN_noexc (gsC_noexc gN_noexc gsN_noexc))))
    (sss_cons (ss_set sc_z_law_deep_right.nd (i := 9) rfl (Or.inl rfl) (se_pur (se_call (ok_moved T) hG (hr.mono (by omega)) (by rfl) T.m_moved T.f_moved.kp T.b_moved tk (sa_cons (v_ 3) (sa_cons (v_ 7) (sa_cons (v_ 8) sa_nil))))))
    (sss_cons (ss_if (t_ne hr rfl (se_isN (v_ 9)) (se_or (e_ne hr rfl (e_mod (e_int T.n_int (v_ 7)) (v_ 4)) se_int) (se_one (e_ne hr rfl (e_mod (e_int T.n_int (v_ 8)) (v_ 4)) se_int)))) (sss_one (ss_ret se_bl)) sss_nil)
    (sss_cons (ss_if (st_isN (v_ 9)) (sss_one ss_cont) sss_nil)
    (sss_cons (ss_for (passes_of rfl) rfl (si_range1 (by rfl) T.n_range (sa_cons se_int sa_nil)) (sg_name sc_z_law_deep_right.nd (i := 10) rfl (Or.inl rfl)) gN_noexc (sss_cons (ss_par rfl sc_z_law_deep_right.nd (i := 11) (j := 12) rfl rfl (by decide) rfl rfl (sa_cons (e_sub (se_call (ok_z_law_pick T) hG (hr.mono (by omega)) (by rfl) T.m_z_law_pick T.f_z_law_pick.kp T.b_z_law_pick tk (sa_cons (v_ 0) (sa_cons (e_pow se_int se_int) sa_nil))) (e_pow se_int se_int)) (sa_cons (e_sub (se_call (ok_z_law_pick T) hG (hr.mono (by omega)) (by rfl) T.m_z_law_pick T.f_z_law_pick.kp T.b_z_law_pick tk (sa_cons (v_ 0) (sa_cons (e_pow se_int se_int) sa_nil))) (e_pow se_int se_int)) sa_nil)) rfl)
    (sss_one (ss_if (t_ne hr rfl (se_meth (v_ 9) T.cf0.cl T.h_Screen_threshold (ok_Screen_threshold T) hG (hr.mono (by omega)) T.b_Screen_threshold tk (sa_cons (v_ 11) (sa_cons (v_ 12) sa_nil))) (se_call (ok_z_law_threshold_v1 T) hG (hr.mono (by omega)) (by rfl) T.m_z_law_threshold_v1 T.f_z_law_threshold_v1.kp T.b_z_law_threshold_v1 tk (sa_cons (v_ 2) (sa_cons (e_sub (v_ 11) (v_ 7)) (sa_cons (e_sub (v_ 12) (v_ 8)) sa_nil))))) (sss_one (ss_ret se_bl)) sss_nil))))
    (sss_cons (ss_set sc_z_law_deep_right.nd (i := 13) rfl (Or.inl rfl) (se_tup (sa_cons (e_mod (e_int T.n_int (v_ 7)) (e_mul se_int (v_ 4))) (sa_cons (e_mod (e_int T.n_int (v_ 8)) (e_mul se_int (v_ 4))) sa_nil))))
    (sss_one (ss_if (st_bool (sw_or (t_ne hr rfl (se_call (ok_shift_between T) hG (hr.mono (by omega)) (by rfl) T.m_shift_between T.f_shift_between.kp T.b_shift_between tk (sa_cons (v_ 3) (sa_cons (v_ 9) sa_nil))) (v_ 13)) (sw_or1 (st_not (st_val (se_call (ok_z_law_told_right T) hG (hr.mono (by omega)) (by rfl) T.m_z_law_told_right T.f_z_law_told_right.kp T.b_z_law_told_right tk (sa_cons (v_ 2) (sa_cons (v_ 9) (sa_cons (se_pur (T.p_Screen_levels.elim fun _ h => se_prop (v_ 9) T.cf0.cl h (ok_Screen_levels T) hG (hr.mono (by omega)) T.b_Screen_levels)) sa_nil))))))))) (sss_one (ss_ret se_bl)) sss_nil)))))))))
    (sss_cons (ss_par rfl sc_z_law_deep_right.nd (i := 14) (j := 15) rfl rfl (by decide) rfl rfl (sa_cons (se_call (ok_z_law_pick T) hG (hr.mono (by omega)) (by rfl) T.m_z_law_pick T.f_z_law_pick.kp T.b_z_law_pick tk (sa_cons (v_ 0) (sa_cons (e_len rfl T.n_len (v_ 2)) sa_nil))) (sa_cons (se_ix rfl (v_ 2) (e_neg se_int)) sa_nil)) rfl)
    (sss_cons (ss_set sc_z_law_deep_right.nd (i := 16) rfl (Or.inl rfl) (se_lst (sa_cons (e_add (se_sl rfl (v_ 2) so_none (so_some (e_neg se_int))) (se_lst (sa_cons (se_tup (sa_cons (se_ix rfl (v_ 15) se_int) (sa_cons (se_ix rfl (v_ 15) se_int) (sa_cons (se_ix rfl (v_ 15) se_int) (sa_cons (se_ix rfl (v_ 15) se_int) sa_nil))))) sa_nil))) (sa_cons (e_add (e_add (se_sl rfl (v_ 2) so_none (so_some (v_ 14))) (se_lst (sa_cons (se_ix rfl (v_ 2) (v_ 14)) sa_nil))) (se_sl rfl (v_ 2) (so_some (v_ 14)) so_none)) sa_nil))))
    (sss_cons (ss_if (t_gt (e_len rfl T.n_len (v_ 2)) se_int) (sss_cons (ss_set sc_z_law_deep_right.nd (i := 14) rfl (Or.inl rfl) (se_call (ok_z_law_pick T) hG (hr.mono (by omega)) (by rfl) T.m_z_law_pick T.f_z_law_pick.kp T.b_z_law_pick tk (sa_cons (v_ 0) (sa_cons (e_sub (e_len rfl T.n_len (v_ 2)) se_int) sa_nil))))
    (sss_one (ss_expr (e_app rfl (v_ 16) (e_add (e_add (se_sl rfl (v_ 2) so_none (so_some (v_ 14))) (se_lst (sa_cons (e_tuple rfl T.n_tuple (lc1_ (by rfl) rfl sc_z_law_deep_right.nd (si_seq rfl (se_ix rfl (v_ 2) (v_ 14))) (blkOk_by (own := [("number", 18)]) (by rfl)) (by decide) (fun _ _ _ _ _ => (pg_name (i := 18) sc_z_law_deep_right.nd rfl (Or.inl rfl))) (fun _ _ _ _ _ => sts_nil) (fun _ _ _ _ _ => (e_sub se_int (v_ 18))))) sa_nil))) (se_sl rfl (v_ 2) (so_some (e_add (v_ 14) se_int)) so_none)))))) sss_nil)
    (sss_one (ss_ret (e_eq hr rfl (lc1_ (by rfl) rfl sc_z_law_deep_right.nd (si_seq rfl (v_ 16)) (blkOk_by (own := [("some", 5)]) (by rfl)) (by decide) (fun _ _ _ _ _ => (pg_name (i := 5) sc_z_law_deep_right.nd rfl (Or.inl rfl))) (fun _ _ _ _ _ => (sts_one (st_bool (sw_and (t_lt (e_len rfl T.n_len (v_ 5)) se_int) (sw_and1 (st_notN (se_call (ok_shift_between T) hG (hr.mono (by omega)) (by rfl) T.m_shift_between T.f_shift_between.kp T.b_shift_between takesW0 (sa_cons (v_ 3) (sa_cons (se_pur (se_make T.mk0 (ok_Screen___init T) hG (hr.mono (by omega)) (by rfl) T.c0 T.b_Screen___init takesW0 (sa_cons (v_ 5) sa_nil))) sa_nil))))))))) (fun _ _ _ _ _ => (v_ 5))) (se_lst sa_nil)))))))))))

theorem sc_law : FnScope ["script", "k", "cell", "bag", "four", "other", "told"] ["script"] (defScope (top 32)) := ⟨rfl, rfl, rfl, by decide +kernel, rfl, by decide +kernel, by decide +kernel⟩
theorem ok_law (T : Fx K mg cls A FD) : FnG P w K mg base 7 (A 27) (FD 27) ["script"] (spF (⟨K, cls, A⟩ : Cg) 1 s_law) :=
  fn_ok (N := ["script", "k", "cell", "bag", "four", "other", "told"]) (ps := ["script"]) (k := 6) (h := b_law) T.f_law sc_law fun cdv A0 outer s0 H0 E0 hG hr tk =>
    (sss_cons (ss_forT (n := 2) (passes_of rfl) rfl rfl (si_enum rfl (by rfl) T.n_enumerate (e_add (se_sl rfl (v_ 0) so_none (so_some se_int)) (se_lst (sa_cons se_int sa_nil)))) (sgs_cons (sg_name sc_law.nd (i := 1) rfl (Or.inl rfl)) (sgs_cons (sg_name sc_law.nd (i := 2) rfl (Or.inl rfl)) sgs_nil)) (gsC_noexc gN_noexc (gsC_noexc gN_noexc gsN_noexc)) (sss_cons (ss_set sc_law.nd (i := 3) rfl (Or.inl rfl) (se_call (ok_z_law_bag T) hG (hr.mono (by omega)) (by rfl) T.m_z_law_bag T.f_z_law_bag.kp T.b_z_law_bag tk (sa_cons (v_ 2) sa_nil)))
    (sss_one (ss_if (st_bool (sw_or (st_not (st_val (se_call (ok_z_law_small_right T) hG (hr.mono (by omega)) (by rfl) T.m_z_law_small_right T.f_z_law_small_right.kp T.b_z_law_small_right tk (sa_cons (v_ 3) sa_nil)))) (sw_or1 (st_not (st_val (se_call (ok_z_law_deep_right T) hG (hr.mono (by omega)) (by rfl) T.m_z_law_deep_right T.f_z_law_deep_right.kp T.b_z_law_deep_right tk (sa_cons (v_ 3) (sa_cons (se_ix rfl (se_lst (sa_cons se_int (sa_cons se_int sa_nil))) (e_int T.n_int (e_eq hr rfl (v_ 1) se_int))) sa_nil)))))))) (sss_one (ss_ret se_bl)) sss_nil))) (gsC_len gN_noexc (gsC_len gN_noexc gsN_len)))
    (sss_cons (ss_par rfl sc_law.nd (i := 4) (j := 5) rfl rfl (by decide) rfl rfl (sa_cons (se_pur (se_make T.mk0 (ok_Screen___init T) hG (hr.mono (by omega)) (by rfl) T.c0 T.b_Screen___init tk (sa_cons (se_pur (e_mul (se_lst (sa_cons (se_tup (sa_cons se_int (sa_cons se_int (sa_cons se_int (sa_cons se_int sa_nil))))) sa_nil)) se_int)) sa_nil))) (sa_cons (se_pur (se_make T.mk0 (ok_Screen___init T) hG (hr.mono (by omega)) (by rfl) T.c0 T.b_Screen___init tk (sa_cons (se_pur (se_lst (sa_cons (se_tup (sa_cons se_int (sa_cons se_int (sa_cons se_int (sa_cons se_int sa_nil))))) (sa_cons (se_tup (sa_cons se_int (sa_cons se_int (sa_cons se_int (sa_cons se_int sa_nil))))) sa_nil)))) sa_nil))) sa_nil)) rfl)
    (sss_cons (ss_set sc_law.nd (i := 6) rfl (Or.inl rfl) (se_pur (se_lst (sa_cons (T.p_Screen_levels.elim fun _ h => se_prop (se_pur (se_call (ok_moved T) hG (hr.mono (by omega)) (by rfl) T.m_moved T.f_moved.kp T.b_moved tk (sa_cons (v_ 4) (sa_cons se_int (sa_cons se_int sa_nil))))) T.cf0.cl h (ok_Screen_levels T) hG (hr.mono (by omega)) T.b_Screen_levels) (sa_cons (se_call (ok_moved T) hG (hr.mono (by omega)) (by rfl) T.m_moved T.f_moved.kp T.b_moved tk (sa_cons (v_ 4) (sa_cons se_int (sa_cons se_int sa_nil)))) (sa_cons (se_call (ok_shift_between T) hG (hr.mono (by omega)) (by rfl) T.m_shift_between T.f_shift_between.kp T.b_shift_between tk (sa_cons (v_ 4) (sa_cons (se_pur (se_call (ok_moved T) hG (hr.mono (by omega)) (by rfl) T.m_moved T.f_moved.kp T.b_moved tk (sa_cons (v_ 4) (sa_cons se_int (sa_cons se_int sa_nil))))) sa_nil))) sa_nil))))))
    (sss_one (ss_ret (e_eq hr rfl (e_add (v_ 6) (se_lst (sa_cons (se_call (ok_shift_between T) hG (hr.mono (by omega)) (by rfl) T.m_shift_between T.f_shift_between.kp T.b_shift_between tk (sa_cons (v_ 4) (sa_cons (v_ 5) sa_nil))) sa_nil))) (se_lst (sa_cons (se_lst (sa_cons (se_tup (sa_cons se_int (sa_cons se_int (sa_cons se_int (sa_cons se_int sa_nil))))) (sa_cons (se_tup (sa_cons se_int (sa_cons se_int (sa_cons se_int (sa_cons se_int sa_nil))))) sa_nil))) (sa_cons se_non (sa_cons (se_tup (sa_cons se_int (sa_cons se_int sa_nil))) (sa_cons se_non sa_nil)))))))))))
end
end K33

set_option Elab.async false
set_option linter.all false
set_option maxRecDepth 100000
set_option exponentiation.threshold 2000
set_option maxHeartbeats 4000000
namespace K33
open PySem PySem.Spec PyProof.Rows L2 Dd Lib
theorem isNK_scr {l : List D} {S : Sg} : isNK (.p (.scr l)) S = .ok (.p (.bl false)) S := Eq.trans rfl rfl
theorem isNK_lst {l : List D} {S : Sg} : isNK (.p (.lst l)) S = .ok (.p (.bl false)) S := Eq.trans rfl rfl
theorem notNK_lst {l : List D} {S : Sg} : notNK (.p (.lst l)) S = .ok (.p (.bl true)) S := Eq.trans rfl rfl
theorem dataR_pl {l : List (List Int)} {S : Sg} : dataR (.p (.lst (lvD l))) S = some (.list (lvP l)) := by
  rw [dataR_p]; unfold toPy
  have := dataK_lv (ls := l)
  rw [dataK_mu] at this
  cases h : toPyL (lvD l) with
  | none => rw [h] at this; cases this
  | some xs => rw [h] at this; simpa using this
theorem ne_same {ns : List Int} {S : Sg} : neDK (dataK (some (.mu (.lst (ns.map .int))))) (dataK (some (.mu (.lst (ns.map .int))))) S = .ok (.p (.bl false)) S := by
  have e : dataK (some (.mu (.lst (ns.map .int)))) = some (.list (ns.map .int)) := by rw [dataK_mu, toPyL_ints]; rfl
  rw [e]
  refine (if_pos ⟨shaped_li _, shaped_li _⟩).trans ?_
  show Res.ok (R.p (.bl (!PyData.eqvAll (ns.map PyData.int) (ns.map PyData.int)))) S = _
  rw [eqvAll_ints]; simp
theorem told_n (l : D) (st : Store) : s_z_law_told_right [.p l, .p .non, .p .non] st = .ok (.val (.bl true)) st := by
  unfold s_z_law_told_right b_z_law_told_right
  simp! [isN_ap, isNK_n]
theorem told_i {ls ms : List (List Int)} (hl : ms.length = ls.length) (lm : LvOk ms) (st : Store) :
    s_z_law_told_right [.p (.lst (lvD ls)), .p (.scr (lvD ms)), .p (.lst (lvD ms))] st = .ok (.val (.bl true)) st := by
  obtain ⟨d1, d2, hp⟩ := id lm
  refine fin_eq ?_
  unfold s_z_law_told_right b_z_law_told_right
  have sh1 : ∀ S : Sg, opShl (.p (.int 1)) (.p (.int (ls.length : Int))) S = .ok (.p (.int (2 ^ ls.length))) S := fun S => by
    rw [opShl_i (cshl1 (by omega) (by omega)), Int.one_mul, Int.toNat_natCast]
  have sh2 : ∀ S : Sg, opShl (.p (.int 1)) (.p (.int (2 * (ls.length : Int)))) S = .ok (.p (.int (4 ^ ls.length))) S := fun S => by
    rw [opShl_i (cshl1 (by omega) (by omega)), shl_four]
  simp! [bnd_bnd, isN_ap, isNK_scr, isNK_lst, levels_p, opNeD_K, dataR_r, dataR_pl, dataK_lv, neDK_ll, screen_make _ lm, pureC_obj objD_scr, opEqU_pp, lvD_len, depth_p, period_p _ d2, shades_p _ d2, hl, sh1, sh2, opMul_i (two_len (show ls.length ≤ 50 by omega))]
  have n3 := fun S => ne_same (ns := [(ls.length : Int), 2 ^ ls.length, 4 ^ ls.length]) (S := S)
  simp only [List.map_cons, List.map_nil] at n3
  simp! [bnd_bnd, n3, sh1, sh2, opMul_i (two_len (show ls.length ≤ 50 by omega))]
  generalize hZ : ([Cell.mu (Con.lst (lvD ms)), Cell.dead, _, _] : Store) = Z
  have p2 := two_pos ls.length
  have p4 : (2 : Int) ^ ls.length < 4 ^ ls.length := by
    have : (4 : Int) ^ ls.length = 2 ^ ls.length * 2 ^ ls.length := by rw [← Int.mul_pow]; rfl
    have q : (2 : Int) ≤ 2 ^ ls.length := by rw [half_two (show 1 ≤ ls.length by omega)]; have := two_pos (ls.length - 1); omega
    have := Int.mul_le_mul_of_nonneg_left q (Int.le_of_lt p2)
    omega
  refine wpf_bnd (wp_loop (I := fun i S => ∃ z w v, S = ⟨[some (.p (.lst (lvD ls))), some (.p (.scr (lvD ms))), some (.p (.lst (lvD ms))), some (.p (.int ls.length)), z, w, v], st ++ Z⟩) ⟨none, none, none, rfl⟩ (fun _ _ _ => trivial) ?_ ?_)
  · rintro j d S hj ⟨z, w, v, rfl⟩
    obtain ⟨k, rfl, k0, k1⟩ : ∃ k : Int, d = .int k ∧ 0 ≤ k ∧ k < 4 ^ ms.length := by
      rw [hl]
      have hm := List.mem_of_getElem? hj
      simp only [List.mem_cons, List.not_mem_nil, or_false] at hm
      rcases hm with rfl | rfl | rfl | rfl
      · exact ⟨_, rfl, by omega, by omega⟩
      · exact ⟨_, rfl, by omega, by omega⟩
      · exact ⟨_, rfl, by omega, by omega⟩
      · exact ⟨_, rfl, by omega, by omega⟩
    have b := plc_bd hp k0 k1
    have t := thr_place hp k0 k1
    rw [hl] at b
    rw [bind_bnd]
    simp! [methU_ap, methK'_scr (m := "place") (by rfl), place_i d2 hp k0 k1, thr4_i hp d2, t, opNeD_i, sh1, b]
    exact wp_ok ⟨_, _, _, rfl⟩
  · rintro S ⟨z, w, v, rfl⟩
    simp! []
    exact wpf_ok ⟨rfl, by simp! []⟩
theorem mdD (ls : List (List Int)) (x y : Int) (n : Nat) : (List.range (n + 1)).map (mdL ls x y) = (List.range n).map (mdL ls x y) ++ [mdL ls x y n] := by
  rw [List.range_succ, List.map_append]; rfl
theorem sh01 {b : Int} (hb : b = 0 ∨ b = 1) {j : Nat} (hj : j ≤ 50) (S : Sg) : opShl (.p (.int b)) (.p (.int (j : Int))) S = .ok (.p (.int (b * 2 ^ j))) S := by
  rcases hb with rfl | rfl
  · rw [opShl_i ⟨by omega, by rw [show Builtin.Int.intBits 0 = 0 from by decide]; omega⟩, Int.toNat_natCast]
  · rw [opShl_i (cshl1 (by omega) (by omega)), Int.toNat_natCast]
/-- a fresh list or one that is read only -/
def FzOr (C : Cell) (l : List D) : Prop := C = .mu (.lst l) ∨ C = .fz l
theorem pur_fz {C : Cell} {l : List D} (h : FzOr C l) (st Z : Store) (sl : List (Option R)) : pure1 (.r st.length) ⟨sl, st ++ C :: Z⟩ = .ok (.lst l) ⟨sl, st ++ .fz l :: Z⟩ := by
  unfold pure1
  simp only [get_app0, List.getElem?_cons_zero]
  rcases h with rfl | rfl
  · unfold pureC
    simp only [set_app0, List.set_cons_zero]
  · rfl
/-- _law_made -/
theorem made_i {ls : List (List Int)} (lok : LvOk ls) (h3 : ls.length ≤ 3) (x y : Int) (st : Store) : WpF (s_z_law_made [.p (.lst (lvD ls)), .p (.int x), .p (.int y)] st) (fun a st' => st' = st ∧ ((Hlf ls x ∧ Hlf ls y) ∧ a = .val (.lst (lvD (mvX ls x y))) ∨ ¬ (Hlf ls x ∧ Hlf ls y) ∧ a = .val .non)) := by
  obtain ⟨d1, d2, hp⟩ := id lok
  have hp : Lvs ls := hp
  unfold s_z_law_made b_z_law_made
  simp! [bnd_bnd, lvD_len, rngK1_n (show ls.length ≤ 1000000 by omega)]
  refine wpf_bnd (wp_loop (I := fun i S => i ≤ ls.length ∧ ∃ (Z : Store) (s5 s6 s7 s8 : Option R), S = ⟨[some (.p (.lst (lvD ls))), some (.p (.int x)), some (.p (.int y)), some (.p (.int ls.length)), some (.r st.length), s5, s6, s7, s8, none, none], st ++ (.mu (.lst (lvD ((List.range i).map (mdL ls x y)))) :: Z)⟩) ⟨Nat.zero_le _, [], none, none, none, none, rfl⟩ (fun _ _ _ => trivial) ?_ ?_)
  · rintro j d S hj ⟨hjl, Z, s5, s6, s7, s8, rfl⟩
    obtain ⟨rfl, hj'⟩ := intsFrom_at hj
    rw [bind_bnd]
    have hjd : j < ls.length := by simpa using hj'
    have e0 : (0 : Int) + (j : Int) = (j : Int) := by omega
    simp! [bnd_bnd, e0]
    have ej : (ls.length : Int) - 1 - (j : Int) = ((ls.length - 1 - j : Nat) : Int) := by omega
    have m2 := fun S : Sg => opMul_i (S := S) (two_len (n := ls.length - 1 - j) (by omega))
    refine wp_bnd (wp_loop (I := fun i S => ∃ (s7 s8 : Option R), S = ⟨[some (.p (.lst (lvD ls))), some (.p (.int x)), some (.p (.int y)), some (.p (.int ls.length)), some (.r st.length), some (.p (.int (j : Int))), some (.r (st.length + (Z.length + 1))), s7, s8, none, none], st ++ (.mu (.lst (lvD ((List.range j).map (mdL ls x y)))) :: (Z ++ [.mu (.lst ((List.range i).map fun c => D.int (thr ls (((c % 2 : Nat) : Int) * 2 ^ j - x) (((c / 2 : Nat) : Int) * 2 ^ j - y) / 4 ^ (ls.length - 1 - j) % 4)))]))⟩) ⟨s7, s8, rfl⟩ (fun _ _ _ => trivial) ?_ ?_)
    · rintro i d S hi ⟨s7, s8, rfl⟩
      obtain ⟨hi4, rfl⟩ : i < 4 ∧ d = .int (i : Int) := by
        match i, hi with
        | 0, hi => exact ⟨by decide, (Option.some.inj hi).symm⟩
        | 1, hi => exact ⟨by decide, (Option.some.inj hi).symm⟩
        | 2, hi => exact ⟨by decide, (Option.some.inj hi).symm⟩
        | 3, hi => exact ⟨by decide, (Option.some.inj hi).symm⟩
      rw [bind_bnd]
      have b2 : (i : Int) % 2 = ((i % 2 : Nat) : Int) := by omega
      have q2 : (i : Int) / 2 = ((i / 2 : Nat) : Int) := by omega
      have t1 : (2 : Int) ^ (1 : Int).toNat = 2 := rfl
      simp! [bnd_bnd, band1, opShr_i (show (0 : Int) ≤ 1 by decide), t1, b2, q2, e0, sh01 (b := ((i % 2 : Nat) : Int)) (by omega) (show j ≤ 50 by omega), sh01 (b := ((i / 2 : Nat) : Int)) (by omega) (show j ≤ 50 by omega), thr4_i hp d2, ej, m2, shr_four', band3, appK_ap (show (((List.range i).map fun c => D.int (thr ls (((c % 2 : Nat) : Int) * 2 ^ j - x) (((c / 2 : Nat) : Int) * 2 ^ j - y) / 4 ^ (ls.length - 1 - j) % 4))).length < 1000000 by rw [List.length_map, List.length_range]; omega)]
      refine wp_ok ?_
      simp only [List.range_succ, List.map_append]
      exact ⟨_, _, rfl⟩
    · rintro S ⟨s7, s8, rfl⟩
      have em : ((List.range ([D.int 0, D.int 1, D.int 2, D.int 3] : List D).length).map fun c => D.int (thr ls (((c % 2 : Nat) : Int) * 2 ^ j - x) (((c / 2 : Nat) : Int) * 2 ^ j - y) / 4 ^ (ls.length - 1 - j) % 4)) = (mdL ls x y j).map .int := by
        unfold mdL; rw [List.map_map]; rfl
      rw [em]
      simp! [bnd_bnd, appK_ap (show (lvD ((List.range j).map (mdL ls x y))).length < 1000000 by rw [lvD_len, List.length_map, List.length_range]; omega)]
      rw [show lvD ((List.range j).map (mdL ls x y)) ++ [D.tup ((mdL ls x y j).map D.int)] = lvD ((List.range (j + 1)).map (mdL ls x y)) by rw [mdD]; unfold lvD; rw [List.map_append]; rfl]
      exact wp_ok ⟨by omega, _, _, _, _, _, rfl⟩
  · rintro S ⟨-, Z, s5, s6, s7, s8, rfl⟩
    have el : (Dd.intsFrom 0 ls.length).length = ls.length := by rw [intsFrom_range, List.length_map, List.length_range]
    rw [el]
    show WpF (Dd.finish _ (seqK _ _ ⟨_, st ++ .mu (.lst (lvD (md ls x y))) :: Z⟩)) _
    have m4 := md_4 ls x y
    have ml := md_len ls x y
    have hs : (2 : Int) ^ ls.length = ((2 ^ ls.length : Nat) : Int) := by norm_cast
    have h8 : 2 ^ ls.length ≤ 8 := by
      have : 2 ^ ls.length ≤ 2 ^ 3 := Nat.pow_le_pow_right (by decide) h3
      omega
    have hp1 : 1 ≤ 2 ^ ls.length := Nat.one_le_two_pow
    have lt : ∀ r : Nat, r < 2 ^ ls.length → (r : Int) < 2 ^ ls.length := fun r hr => by rw [hs]; omega
    have off := md_off lok (x := x) (y := y)
    have hlf := fun (hx : Hlf ls x) (hy : Hlf ls y) => md_hlf lok hx hy
    generalize hN : 2 ^ ls.length = N at *
    simp! [bnd_bnd, sh01 (b := 1) (.inr rfl) d2, Int.one_mul, hs, rngK1_n (show N ≤ 1000000 by omega)]
    refine wpf_bnd (wp_loop (I := fun i S => i ≤ N ∧ (∀ r d : Nat, r < i → d < N → thr (md ls x y) r d = thr ls (r - x) (d - y)) ∧ ∃ (C : Cell) (s9 s10 : Option R), FzOr C (lvD (md ls x y)) ∧ (0 < i → C = .fz (lvD (md ls x y))) ∧ S = ⟨[some (.p (.lst (lvD ls))), some (.p (.int x)), some (.p (.int y)), some (.p (.int ls.length)), some (.r st.length), s5, s6, s7, s8, s9, s10], st ++ C :: Z⟩) ⟨Nat.zero_le _, fun r d h => absurd h (by omega), _, none, none, .inl rfl, fun h => absurd h (by omega), rfl⟩ (fun _ _ _ => trivial) ?_ ?_)
    · rintro j d S hj ⟨hjl, hall, C, s9, s10, hC, -, rfl⟩
      obtain ⟨rfl, hj'⟩ := intsFrom_at hj
      rw [bind_bnd]
      have e0 : (0 : Int) + (j : Int) = (j : Int) := by omega
      simp! [bnd_bnd, e0, sh01 (b := 1) (.inr rfl) d2, Int.one_mul, hs, rngK1_n (show N ≤ 1000000 by omega)]
      refine (wp_loop (I := fun i S => i ≤ N ∧ (∀ d : Nat, d < i → thr (md ls x y) j d = thr ls (j - x) (d - y)) ∧ ∃ (C : Cell) (s10 : Option R), FzOr C (lvD (md ls x y)) ∧ (0 < i → C = .fz (lvD (md ls x y))) ∧ S = ⟨[some (.p (.lst (lvD ls))), some (.p (.int x)), some (.p (.int y)), some (.p (.int ls.length)), some (.r st.length), s5, s6, s7, s8, some (.p (.int j)), s10], st ++ C :: Z⟩) ⟨Nat.zero_le _, fun d h => absurd h (by omega), C, s10, hC, fun h => absurd h (by omega), rfl⟩ (fun _ _ _ => trivial) ?_ ?_)
      · rintro i d S hi ⟨hil, hal, C, s10, hC, -, rfl⟩
        obtain ⟨rfl, hi'⟩ := intsFrom_at hi
        rw [bind_bnd]
        have e1 : (0 : Int) + (i : Int) = (i : Int) := by omega
        simp! [bnd_bnd, e1, pur_fz hC, thr4v_i m4 (show (md ls x y).length ≤ 50 by omega), thr4_i hp d2, opNeD_i]
        by_cases q : thr (md ls x y) j i = thr ls (j - x) (i - y)
        · simp! [bnd_bnd, q]
          refine wp_ok ⟨by omega, fun d hd => ?_, _, _, .inr rfl, fun _ => rfl, rfl⟩
          rcases Nat.lt_succ_iff_lt_or_eq.mp hd with h | rfl
          · exact hal d h
          · exact q
        · simp! [bnd_bnd, q]
          refine wp_ok ?_
          have no : ¬ (Hlf ls x ∧ Hlf ls y) := fun h => q (by rw [hlf h.1 h.2, thr_mvX lok h.1 h.2])
          simp! []
          exact wpf_ok ⟨by simp, .inr ⟨no, rfl⟩⟩
      · rintro S ⟨-, hal, C, s10, hC, hf, rfl⟩
        rw [Dd.intsFrom_length] at hal hf
        refine ⟨by omega, fun r d hr hd => ?_, C, _, _, hC, fun _ => hf (by omega), rfl⟩
        rcases Nat.lt_succ_iff_lt_or_eq.mp hr with h | rfl
        · exact hall r d h hd
        · exact hal d hd
    · rintro S ⟨-, hall, C, s9, s10, hC, hf, rfl⟩
      rw [Dd.intsFrom_length] at hall hf
      obtain rfl := hf (by omega)
      have yes : Hlf ls x ∧ Hlf ls y := Classical.byContradiction fun h => off h fun r d hr hd => hall r d (by rw [hs] at hr; omega) (by rw [hs] at hd; omega)
      simp! [bnd_bnd]
      rw [finishR_fz (l := lvD (md ls x y)) (by simp) (by omega), List.take_left]
      exact wpf_ok ⟨rfl, .inl ⟨yes, by rw [hlf yes.1 yes.2]⟩⟩
theorem cutD_mm {l : List D} : Dd.cutD l none (some (-1)) = l.take (l.length - 1) := by
  unfold Dd.cutD
  have s0 : HT.sIx l.length 0 none = 0 := rfl
  have s1 : HT.sIx l.length l.length (some (-1)) = l.length - 1 := by
    unfold HT.sIx
    simp only
    rw [if_pos (by decide)]; omega
  rw [s0, s1, List.drop_zero, Nat.sub_zero]
theorem lvD_app (a b : List (List Int)) : lvD a ++ lvD b = lvD (a ++ b) := by unfold lvD; rw [List.map_append]
theorem lvD_take (a : List (List Int)) (n : Nat) : (lvD a).take n = lvD (a.take n) := by unfold lvD; rw [List.map_take]
theorem lvD_drop (a : List (List Int)) (n : Nat) : (lvD a).drop n = lvD (a.drop n) := by unfold lvD; rw [List.map_drop]
theorem cutD_fr {α : Type} {l : List α} {n : Nat} : Dd.cutD l (some (n : Int)) none = l.drop n := by
  unfold Dd.cutD
  have s1 : HT.sIx l.length l.length none = l.length := rfl
  have s0 : HT.sIx l.length 0 (some (n : Int)) = min n l.length := by
    unfold HT.sIx
    simp only
    rw [if_neg (by omega)]; omega
  rw [s0, s1]
  by_cases h : n ≤ l.length
  · rw [Nat.min_eq_left h, List.take_of_length_le (by rw [List.length_drop]; exact Nat.le_refl _)]
  · rw [Nat.min_eq_right (by omega), List.drop_of_length_le (Nat.le_refl _), List.drop_of_length_le (by omega)]; simp
noncomputable def tailM : M Fl := (sRt (bin opEqD (lcE [5] [5] unp1 (itL (vr 16)) (mAnd (tst (bin opLt (opA (op1 opLen) (aC (vr 5) aN)) (ci 51))) (tst (notN (callM s_shift_between 2 (aC (vr 3) (aC (pur (makeU 0 s_Screen___init 2 (aC (vr 5) aN))) aN)))))) (vr 5)) (lstE aN)))
theorem tailM_eq : (sRt (bin opEqD (lcE [5] [5] unp1 (itL (vr 16)) (mAnd (tst (bin opLt (opA (op1 opLen) (aC (vr 5) aN)) (ci 51))) (tst (notN (callM s_shift_between 2 (aC (vr 3) (aC (pur (makeU 0 s_Screen___init 2 (aC (vr 5) aN))) aN)))))) (vr 5)) (lstE aN))) = tailM := rfl
theorem tail_i {ls : List (List Int)} (lok : LvOk ls) {B : List (List (List Int))} (hB : ∀ A ∈ B, 51 ≤ A.length ∨ (LvOk A ∧ ∀ c : Nat, c < 4 → mvLv ls c ≠ A)) (hb10 : B.length ≤ 10) {X : Store} {m base : Nat} {s0 s1 s2 s4 s5 s6 s7 s8 s9 s10 s11 s12 s13 s14 s15 s17 s18 : Option R} (hX : X[m]? = some (.mu (.lst (B.map fun A => .lst (lvD A))))) (hbase : base ≤ X.length) :
    WpF (Dd.finish base (tailM ⟨[s0, s1, s2, some (.p (.scr (lvD ls))), s4, s5, s6, s7, s8, s9, s10, s11, s12, s13, s14, s15, some (.r m), s17, s18], X⟩)) (fun a st' => a = .val (.bl true) ∧ st' = X.take base) := by
  unfold tailM
  simp! [bnd_bnd, hX]
  refine wpf_bnd (wp_lcFin (wp_lc (I := fun j acc S => ∃ (Y : Store), acc = [] ∧ S = ⟨[s0, s1, s2, some (.p (.scr (lvD ls))), s4, none, s6, s7, s8, s9, s10, s11, s12, s13, s14, s15, some (.r m), s17, s18], X ++ Y⟩) ⟨[], rfl, by rw [List.append_nil]⟩ ?_ (by simp; omega) ?_ ?_))
  · rintro j acc S ⟨Y, rfl, rfl⟩
    show getLK (X ++ Y)[m]? = _
    rw [get_old hX]; rfl
  · rintro j d acc S hj _ ⟨Y, rfl, rfl⟩
    rw [List.getElem?_map] at hj
    obtain ⟨A, hA, rfl⟩ := Option.map_eq_some_iff.mp hj
    have hA := List.mem_of_getElem? hA
    rw [lcB1_t]
    rcases hB A hA with h51 | ⟨lokA, hno⟩
    · simp! [bnd_bnd, lcbK, lvD_len, show ¬ ((A.length : Int) < 51) from by omega]
      exact wp_ok ⟨_, rfl, rfl⟩
    · have a51 : (A.length : Int) < 51 := by have := lokA.2.1; omega
      simp! [bnd_bnd, lcbK, lvD_len, a51, screen_make _ lokA, pureC_obj objD_scr, shiftN_i lok hno, notN_ap, notNK_n]
      exact wp_ok ⟨_, rfl, rfl⟩
  · rintro acc S ⟨Y, rfl, rfl⟩
    have e0 : dataK (some (.mu (.lst []))) = some (.list (lvP [])) := dataK_lv (ls := [])
    refine ⟨by simp, ?_⟩
    simp! [bnd_bnd, opEqD_K, dataR_r, e0, eqDK_ll]
    exact wpf_ok ⟨rfl, by rw [List.take_append_of_le_length hbase]⟩
theorem p1_no {q : List (List Int)} {a b c d : Int} (lok : LvOk (q ++ [[a, b, c, d]])) : LvOk (q ++ [[b, a, c, d]]) ∧ ∀ e : Nat, e < 4 → mvLv (q ++ [[a, b, c, d]]) e ≠ q ++ [[b, a, c, d]] := by
  obtain ⟨d1, d2, hp⟩ := id lok
  have hl := hp [a, b, c, d] (by simp)
  have nd : [a, b, c, d].Nodup := hl.nodup_iff.mpr (by decide)
  simp only [List.nodup_cons, List.mem_cons, List.not_mem_nil, or_false, not_or] at nd
  obtain ⟨⟨n1, n2, n3⟩, ⟨n4, n5⟩, n6, _⟩ := nd
  refine ⟨⟨by simp, by simpa using d2, fun z hz => ?_⟩, fun e he => ?_⟩
  · rcases List.mem_append.mp hz with h | h
    · exact hp z (by simp [h])
    · rw [List.mem_singleton.mp h]; exact (List.Perm.swap a b [c, d]).trans hl
  · rw [mvL_eq]
    intro h
    have h : xorL [a, b, c, d] e = [b, a, c, d] := by simpa using h
    match e, he with
    | 0, _ => exact n1 (List.cons.inj (show [a, b, c, d] = [b, a, c, d] from h)).1
    | 1, _ => exact n6 (List.cons.inj (List.cons.inj (List.cons.inj (show [b, a, d, c] = [b, a, c, d] from h)).2).2).1.symm
    | 2, _ => exact n4 (List.cons.inj (show [c, d, a, b] = [b, a, c, d] from h)).1.symm
    | 3, _ => exact n5 (List.cons.inj (show [d, c, b, a] = [b, a, c, d] from h)).1.symm
theorem p2_no {ls : List (List Int)} (lok : LvOk ls) {a : Nat} {la : List Int} (h : ls[a]? = some la) : 51 ≤ (ls.take a ++ la :: ls.drop a).length ∨ (LvOk (ls.take a ++ la :: ls.drop a) ∧ ∀ c : Nat, c < 4 → mvLv ls c ≠ ls.take a ++ la :: ls.drop a) := by
  obtain ⟨d1, d2, hp⟩ := id lok
  have ha := (List.getElem?_eq_some_iff.mp h).1
  have el : (ls.take a ++ la :: ls.drop a).length = ls.length + 1 := by
    rw [List.length_append, List.length_cons, List.length_take, List.length_drop]; omega
  by_cases h51 : ls.length = 50
  · exact .inl (by omega)
  · refine .inr ⟨⟨by omega, by omega, fun z hz => ?_⟩, fun c hc e => ?_⟩
    · rcases List.mem_append.mp hz with h' | h'
      · exact hp z (List.mem_of_mem_take h')
      · rcases List.mem_cons.mp h' with rfl | h'
        · exact hp _ (List.mem_of_getElem? h)
        · exact hp z (List.mem_of_mem_drop h')
    · have := (mvL_ok lok hc).2
      rw [e] at this
      omega
theorem p3_no {ls : List (List Int)} (lok : LvOk ls) {a : Nat} {la : List Int} (h : ls[a]? = some la) (ha : a + 1 < ls.length) : LvOk (ls.take a ++ la.map (3 - ·) :: ls.drop (a + 1)) ∧ ∀ c : Nat, c < 4 → mvLv ls c ≠ ls.take a ++ la.map (3 - ·) :: ls.drop (a + 1) := by
  obtain ⟨d1, d2, hp⟩ := id lok
  have hl := hp la (List.mem_of_getElem? h)
  have el : (ls.take a ++ la.map (3 - ·) :: ls.drop (a + 1)).length = ls.length := by
    rw [List.length_append, List.length_cons, List.length_take, List.length_drop]; omega
  refine ⟨⟨by omega, by omega, fun z hz => ?_⟩, fun c hc e => ?_⟩
  · rcases List.mem_append.mp hz with h' | h'
    · exact hp z (List.mem_of_mem_take h')
    · rcases List.mem_cons.mp h' with rfl | h'
      · exact (hl.map (3 - ·)).trans (show [3, 2, 1, 0].Perm [0, 1, 2, 3] from List.reverse_perm [0, 1, 2, 3])
      · exact hp z (List.mem_of_mem_drop h')
  · obtain ⟨q, lv, rfl⟩ : ∃ q lv, ls = q ++ [lv] := ⟨ls.dropLast, ls.getLast (by intro e; rw [e] at d1; simp at d1), (List.dropLast_concat_getLast _).symm⟩
    rw [mvL_eq] at e
    have e : (q ++ [xorL lv c])[a]? = _ := congrArg (fun l => l[a]?) e
    have aq : a < q.length := by simp at ha; omega
    rw [List.getElem?_append_left aq, List.getElem?_append_right (by rw [List.length_take]; omega), List.length_take, Nat.min_eq_left (by omega), Nat.sub_self, List.getElem?_cons_zero] at e
    rw [List.getElem?_append_left aq] at h
    rw [h] at e
    obtain ⟨g0, g1, g2, g3, rfl⟩ := four_of hl
    have : g0 = 3 - g0 := (List.cons.inj (Option.some.inj e)).1
    omega
theorem tail_w {ls : List (List Int)} (lok : LvOk ls) {B : List (List (List Int))} (hB : ∀ A ∈ B, 51 ≤ A.length ∨ (LvOk A ∧ ∀ c : Nat, c < 4 → mvLv ls c ≠ A)) (hb10 : B.length ≤ 10) {X : Store} {m base : Nat} {s0 s1 s2 s4 s5 s6 s7 s8 s9 s10 s11 s12 s13 s14 s15 s17 s18 : Option R} {Q : FR → Store → Prop} (hX : X[m]? = some (.mu (.lst (B.map fun A => .lst (lvD A))))) (hbase : base ≤ X.length) (hQ : Q (.val (.bl true)) (X.take base)) :
    WpF (Dd.finish base (tailM ⟨[s0, s1, s2, some (.p (.scr (lvD ls))), s4, s5, s6, s7, s8, s9, s10, s11, s12, s13, s14, s15, some (.r m), s17, s18], X⟩)) Q := by
  obtain ⟨_, _, e, rfl, rfl⟩ := tail_i lok hB hb10 (s0 := s0) (s1 := s1) (s2 := s2) (s4 := s4) (s5 := s5) (s6 := s6) (s7 := s7) (s8 := s8) (s9 := s9) (s10 := s10) (s11 := s11) (s12 := s12) (s13 := s13) (s14 := s14) (s15 := s15) (s17 := s17) (s18 := s18) hX hbase
  exact ⟨_, _, e, hQ⟩
theorem deep_d {most : Int} (h0 : 0 < most) (h1 : most ≤ 50) : Draws s_z_law_deep_right (fun n => [.r n, .p (.int most)]) (fun v => v = .bl true) 400 := by
  apply dr_of
  intro st n c C hn hb hC
  unfold s_z_law_deep_right b_z_law_deep_right
  rw [tailM_eq]
  simp! [bnd_bnd]
  refine wpf_bnd (wp_drawL0 (levels1_d h0 h1) hn hb (by omega) fun _ c1 ⟨ls, e, lok, lm⟩ B1 => ?_); subst e
  have d1 := lok.1
  have d2 := lok.2.1
  have dl : (ls.length : Int) - 1 = ((ls.length - 1 : Nat) : Int) := by omega
  obtain ⟨q1, q2⟩ := two_bd (show ls.length - 1 ≤ 50 by omega)
  have q3 : (2 : Int) ^ (ls.length - 1) ≤ 2 ^ 49 := pow_bd (by omega)
  have two : (2 : Int) ^ ls.length = 2 * 2 ^ (ls.length - 1) := half_two d1
  have btp : Bt 51 ((2 : Int) ^ (ls.length - 1)) := Bt.of (by
    have : ((2 ^ 51 : Nat) : Int) = 2 * 2 ^ 50 := by decide
    omega)
  have hm49 : (2 : Int) ^ 49 = 562949953421312 := by decide
  rw [hm49] at q3
  have mw : ∀ v : Int, -20 ≤ v → v ≤ 20 → CMulW ((2 : Int) ^ (ls.length - 1)) v := fun v v0 v1 => cmulw (m := 40) btp (Bt.of (by omega))
  have mul2 : ∀ S : Sg, opMul (.p (.int 2)) (.p (.int ((2 : Int) ^ (ls.length - 1)))) S = .ok (.p (.int (2 * (2 : Int) ^ (ls.length - 1)))) S := fun S => opMul_i (cmulw (n := 2) (m := 51) (Bt.of (by decide)) btp)
  have hl : ∀ z : Int, Hlf ls (2 ^ (ls.length - 1) * z) := fun z => by unfold Hlf; exact Int.mul_emod_right _ _
  simp! [bnd_bnd, lvD_len, dl, sh01 (b := 1) (.inr rfl) (show ls.length - 1 ≤ 50 by omega), Int.one_mul, screen_make ls lok, pureC_obj objD_scr]
  generalize hH : (2 : Int) ^ (ls.length - 1) = H at *
  refine wpf_bnd (wp_draw (pick_d (m := 20) (by decide) (by decide)) hn B1 (by omega) fun _ c2 ⟨v1, e, a1, b1⟩ B2 => ?_); subst e
  simp! [bnd_bnd, lvD_len, opMul_i (mw (v1 - 10) (by omega) (by omega))]
  refine wpf_bnd (wp_draw (pick_d (m := (ls.length : Int) + 3) (by omega) (by omega)) hn B2 (by omega) fun _ c3 ⟨v2, e, a2, b2⟩ B3 => ?_); subst e
  obtain ⟨p2, rfl⟩ : ∃ p : Nat, v2 = (p : Int) := ⟨v2.toNat, by omega⟩
  have pw29 : ∀ S : Sg, opPow (.p (.int 10)) (.p (.int 29)) S = .ok (.p (.int 100000000000000000000000000000)) S := fun S => by rw [opPow_i (by decide)]; rfl
  have pw28 : ∀ S : Sg, opPow (.p (.int 10)) (.p (.int 28)) S = .ok (.p (.int 10000000000000000000000000000)) S := fun S => by rw [opPow_i (by decide)]; rfl
  have pw30 : ∀ S : Sg, opPow (.p (.int 10)) (.p (.int 30)) S = .ok (.p (.int (1000000000000000000000000000000 : Int))) S := fun S => by rw [opPow_i (by decide)]; rfl
  simp! [bnd_bnd, opShl_i (cshl1 (j := (p2 : Int)) (by omega) (by omega)), Int.one_mul, Int.toNat_natCast, pw30]
  refine wpf_bnd (wp_draw (pick_d (m := (1000000000000000000000000000000 : Int)) (by decide) (by decide)) hn B3 (by omega) fun _ c4 ⟨v3, e, a3, b3⟩ B4 => ?_); subst e
  have bd : ∀ z : Int, -10 ≤ z → z ≤ 10 → -(10 * 562949953421312) ≤ H * z ∧ H * z ≤ 10 * 562949953421312 := fun z z0 z1 => by
    have a : H * z ≤ H * 10 := Int.mul_le_mul_of_nonneg_left z1 (by omega)
    have b : H * (-10) ≤ H * z := Int.mul_le_mul_of_nonneg_left z0 (by omega)
    omega
  have u1 := bd (v1 - 10) (by omega) (by omega)
  have u2 := pow_bd (show p2 ≤ 60 by omega)
  have u2' := two_pos p2
  have h60 : (2 : Int) ^ 60 = 1152921504606846976 := by decide
  rw [h60] at u2
  generalize hU1 : H * (v1 - 10) = w1 at *
  generalize hU2 : (2 : Int) ^ p2 = w2 at *
  simp! [bnd_bnd]
  generalize hZ : ([Cell.fz (lvD ls), Cell.dead, Cell.fz _] : Store) = Z0
  refine wpf_bnd (wp_loop (I := fun i S => ∃ (c' : Cell) (Z : Store) (s6 s7 s8 s9 s10 s11 s12 s13 : Option R), S = ⟨[some (.r n), some (.p (.int most)), some (.p (.lst (lvD ls))), some (.p (.scr (lvD ls))), some (.p (.int H)), some (.p (.lst [.int w1, .int w2, .int v3])), s6, s7, s8, s9, s10, s11, s12, s13, none, none, none, none, none], st.set n c' ++ Z⟩ ∧ BagC c' (C + 253 + 18 * i)) ⟨c4, Z0, none, none, none, none, none, none, none, none, rfl, BagC.mono B4 (by omega)⟩ (fun _ _ _ => trivial) ?_ ?_)
  · rintro i d S hi ⟨c', Z, s6, s7, s8, s9, s10, s11, s12, s13, rfl, B⟩
    have hi' : i < 6 := by
      refine Classical.byContradiction fun hn => ?_
      rw [List.getElem?_eq_none (by simp; omega)] at hi; cases hi
    rw [bind_bnd]
    simp! [bnd_bnd]
    refine wp_bnd (wp_lcFin (wp_lc (I := fun j acc S => ∃ (c' : Cell) (vs : List Int) (Z : Store), acc = vs.map D.int ∧ vs.length = j ∧ (∀ v ∈ vs, -(1000000000000000000000000000000 : Int) ≤ v ∧ v ≤ (1000000000000000000000000000000 : Int)) ∧ S = ⟨[some (.r n), some (.p (.int most)), some (.p (.lst (lvD ls))), some (.p (.scr (lvD ls))), some (.p (.int H)), some (.p (.lst [.int w1, .int w2, .int v3])), some (.p d), s7, s8, s9, s10, s11, s12, s13, none, none, none, none, none], st.set n c' ++ Z⟩ ∧ BagC c' (C + 253 + 18 * i + 3 * j)) ⟨c', [], Z, rfl, rfl, fun v hv => by simp at hv, rfl, BagC.mono B (by omega)⟩ (fun _ _ _ _ => trivial) (by decide) ?_ ?_))
    · rintro j e acc S hj _ ⟨c', vs, Z, rfl, rfl, hv, rfl, B'⟩
      have i2 : vs.length < 2 := by
        refine Classical.byContradiction fun hn => ?_
        rw [List.getElem?_eq_none (by simp; omega)] at hj; cases hj
      simp! [bnd_bnd]
      refine wp_bnd (wp_draw (pick_d (m := 4) (by decide) (by decide)) hn B' (by omega) fun _ c5 ⟨t1, e, t10, t11⟩ B5 => ?_); subst e
      simp! [bnd_bnd, opMul_i (mw t1 (by omega) (by omega))]
      refine wp_bnd (wp_draw (pick_d (m := 3) (by decide) (by decide)) hn B5 (by omega) fun _ c6 ⟨t2, e, t20, t21⟩ B6 => ?_); subst e
      obtain ⟨g, hg, g0, g1⟩ : ∃ g : Int, (∀ S : Sg, ixK [D.int w1, D.int w2, D.int v3] t2 S = .ok (.p (.int g)) S) ∧ -(1000000000000000000000000000000 : Int) ≤ g ∧ g ≤ (1000000000000000000000000000000 : Int) := by
        rcases (by omega : t2 = 0 ∨ t2 = 1 ∨ t2 = 2) with rfl | rfl | rfl
        · exact ⟨w1, fun S => ixK_0, by omega, by omega⟩
        · exact ⟨w2, fun S => ixK_1, by omega, by omega⟩
        · exact ⟨v3, fun S => ixK_2, by omega, by omega⟩
      simp! [bnd_bnd, hg]
      refine wp_bnd (wp_draw (pick_d (m := 2) (by decide) (by decide)) hn B6 (by omega) fun _ c7 ⟨t3, e, t30, t31⟩ B7 => ?_); subst e
      have bt := bd t1 (by omega) (by omega)
      obtain ⟨g', hg', g0', g1'⟩ : ∃ q : Int, (∀ S : Sg, ixK [D.int (H * t1), D.int g] t3 S = .ok (.p (.int q)) S) ∧ -(1000000000000000000000000000000 : Int) ≤ q ∧ q ≤ (1000000000000000000000000000000 : Int) := by
        rcases (by omega : t3 = 0 ∨ t3 = 1) with rfl | rfl
        · exact ⟨H * t1, fun S => ixK_0, by omega, by omega⟩
        · exact ⟨g, fun S => ixK_1, by omega, by omega⟩
      simp! [bnd_bnd, hg']
      exact wp_ok ⟨c7, vs ++ [g'], _, by rw [List.map_append]; rfl, by simp, fun z hz => by
        rcases List.mem_append.mp hz with h | h
        · exact hv z h
        · rw [List.mem_singleton.mp h]; omega, rfl, BagC.mono B7 (by omega)⟩
    rintro acc S ⟨c5, vs, Z, rfl, hvl, hv, rfl, B5⟩
    obtain ⟨x, y, rfl⟩ : ∃ a b, vs = [a, b] := by
      match vs, (show vs.length = 2 from hvl) with
      | [a, b], _ => exact ⟨a, b, rfl⟩
    obtain ⟨x0, x1⟩ := hv x (by simp)
    obtain ⟨y0, y1⟩ := hv y (by simp)
    refine ⟨by simp, ?_⟩
    have B5 : BagC c5 (C + 253 + 18 * i + 6) := B5
    by_cases hh : Hlf ls x ∧ Hlf ls y
    · obtain ⟨hx, hy⟩ := hh
      have mo := fun st => movedX_i lok x0 x1 y0 y1 hx hy st
      have ex : x % H = 0 := by unfold Hlf at hx; rw [← hH]; exact hx
      have ey : y % H = 0 := by unfold Hlf at hy; rw [← hH]; exact hy
      simp! [bnd_bnd, mo, pureC_obj objD_scr, isN_ap, isNK_scr, opMod_i (show 0 < H by omega), ex, ey, opNeD_i, opNeD_b, pw29, pw28]
      have sh := fun st => shiftX_i lok hx hy st
      rw [two] at sh
      have tr := fun st => told_i (mvX_ok lok x y).2 (mvX_ok lok x y).1 st
      obtain ⟨o1, l1⟩ := mvX_ok lok x y
      have tv := fun X Y a b c e st => threshold_i o1.2.2 o1.2.1 (x := X) (y := Y) a b c e st
      simp only [thr_mvX lok hx hy] at tv
      have ne : ∀ (S : Sg), opNeD (.p (.tup [.int (x % (2 * H)), .int (y % (2 * H))])) (.p (.tup [.int (x % (2 * H)), .int (y % (2 * H))])) S = .ok (.p (.bl false)) S := fun S => by
        rw [opNeD_of (d := .tuple [.int _, .int _]) (e := .tuple [.int _, .int _]) rfl rfl rfl rfl, SeqAt.eqv_refl _ rfl]; rfl
      have mod2 : ∀ (z : Int) (S : Sg), opMod (.p (.int z)) (.p (.int (2 * H))) S = .ok (.p (.int (z % (2 * H)))) S := fun z S => opMod_i (by omega)
      generalize hY : Z ++ _ = Y
      refine wp_bnd (wp_loop (I := fun j S => ∃ (c' : Cell) (Z : Store) (s10 s11 s12 s13 : Option R), S = ⟨[some (.r n), some (.p (.int most)), some (.p (.lst (lvD ls))), some (.p (.scr (lvD ls))), some (.p (.int H)), some (.p (.lst [.int w1, .int w2, .int v3])), some (.p d), some (.p (.int x)), some (.p (.int y)), some (.p (.scr (lvD (mvX ls x y)))), s10, s11, s12, s13, none, none, none, none, none], st.set n c' ++ Z⟩ ∧ BagC c' (C + 253 + 18 * i + 6 + 2 * j)) ⟨c5, Y, s10, s11, s12, s13, rfl, BagC.mono B5 (by omega)⟩ (fun _ _ _ => trivial) ?_ ?_)
      · rintro j e S hj ⟨c', Z, s10, s11, s12, s13, rfl, B⟩
        have hj' : j < 6 := by
          refine Classical.byContradiction fun hn => ?_
          rw [List.getElem?_eq_none (by simp; omega)] at hj; cases hj
        rw [bind_bnd]
        simp! [bnd_bnd, pw29]
        refine wp_bnd (wp_draw (pick_d (m := 100000000000000000000000000000) (by decide) (by decide)) hn B (by omega) fun _ c6 ⟨t1, e, t10, t11⟩ B6 => ?_); subst e
        simp! [bnd_bnd, pw28, pw29]
        refine wp_bnd (wp_draw (pick_d (m := 100000000000000000000000000000) (by decide) (by decide)) hn B6 (by omega) fun _ c7 ⟨t2, e, t20, t21⟩ B7 => ?_); subst e
        simp! [bnd_bnd, pw28, methU_ap, methK'_scr (m := "threshold") (by rfl), tv (t1 - 10000000000000000000000000000) (t2 - 10000000000000000000000000000) (by omega) (by omega) (by omega) (by omega), thr4_i lok.2.2 d2, opNeD_i]
        exact wp_ok ⟨_, _, _, _, _, _, rfl, BagC.mono B7 (by omega)⟩
      · rintro S ⟨c6, Z, s10, s11, s12, s13, rfl, B6⟩
        simp! [bnd_bnd, mul2, mod2, sh, ne, levels_p, tr]
        exact wp_ok ⟨_, _, _, _, _, _, _, _, _, _, rfl, BagC.mono B6 (by simp; omega)⟩
    · have mo := fun st => movedN_i lok x0 x1 y0 y1 hh st
      by_cases hx : x % H = 0
      · have hy : ¬ y % H = 0 := fun e => hh ⟨by unfold Hlf; rw [hH]; exact hx, by unfold Hlf; rw [hH]; exact e⟩
        simp! [bnd_bnd, mo, isN_ap, isNK_n, opMod_i (show 0 < H by omega), hx, hy, opNeD_i, opNeD_b]
        exact wp_ok ⟨_, _, _, _, _, _, _, _, _, _, rfl, BagC.mono B5 (by omega)⟩
      · simp! [bnd_bnd, mo, isN_ap, isNK_n, opMod_i (show 0 < H by omega), hx, opNeD_i, opNeD_b]
        exact wp_ok ⟨_, _, _, _, _, _, _, _, _, _, rfl, BagC.mono B5 (by omega)⟩
  · rintro S ⟨c5, Z, s6, s7, s8, s9, s10, s11, s12, s13, rfl, B5⟩
    simp! [bnd_bnd, lvD_len]
    refine wpf_bnd (wp_draw (pick_d (m := (ls.length : Int)) (by omega) (by omega)) hn B5 (by simp; omega) fun _ c6 ⟨t1, e, t10, t11⟩ B6 => ?_); subst e
    obtain ⟨a, rfl⟩ : ∃ p : Nat, t1 = (p : Int) := ⟨t1.toNat, by omega⟩
    obtain ⟨q, lv, hq⟩ : ∃ q lv, ls = q ++ [lv] := ⟨ls.dropLast, ls.getLast (by intro e; rw [e] at d1; simp at d1), (List.dropLast_concat_getLast _).symm⟩
    have el : lvD ls = lvD q ++ [.tup (lv.map .int)] := by rw [hq]; unfold lvD; rw [List.map_append]; rfl
    have hlv := lok.2.2 lv (by rw [hq]; simp)
    obtain ⟨g0, g1, g2, g3, rfl⟩ := four_of hlv
    have uo : ∀ S : Sg, opt1 (uNeg (ci 1)) S = .ok (some (-1)) S := fun S => by simp! [opt1_ap, opt1K_i]
    have ixl : ∀ S : Sg, ixK (lvD ls) (-1) S = .ok (.p (.tup [.int g0, .int g1, .int g2, .int g3])) S := fun S => by rw [el, ixK_snoc]; rfl
    have hl5 : (lvD ls).length ≤ 50 := by rw [lvD_len]; omega
    have tk : (lvD ls).take ((lvD ls).length - 1) = lvD q := by rw [el]; simp
    obtain ⟨la, hla⟩ : ∃ la, ls[a]? = some la := ⟨_, List.getElem?_eq_getElem (by omega)⟩
    have ixa : ∀ S : Sg, ixK (lvD ls) (a : Int) S = .ok (.p (.tup (la.map .int))) S := fun S => ixK_of (atI_of (by omega) (by unfold lvD; rw [Int.toNat_natCast, List.getElem?_map, hla]; rfl))
    have op1 : ∀ S : Sg, opt1 (vr 14) ⟨[some (.r n), some (.p (.int most)), some (.p (.lst (lvD ls))), some (.p (.scr (lvD ls))), some (.p (.int H)), some (.p (.lst [.int w1, .int w2, .int v3])), s6, s7, s8, s9, s10, s11, s12, s13, some (.p (.int a)), some (.p (.tup [.int g0, .int g1, .int g2, .int g3])), none, none, none], S.st⟩ = .ok (some (a : Int)) ⟨[some (.r n), some (.p (.int most)), some (.p (.lst (lvD ls))), some (.p (.scr (lvD ls))), some (.p (.int H)), some (.p (.lst [.int w1, .int w2, .int v3])), s6, s7, s8, s9, s10, s11, s12, s13, some (.p (.int a)), some (.p (.tup [.int g0, .int g1, .int g2, .int g3])), none, none, none], S.st⟩ := fun S => by simp! [opt1_ap, opt1K_i]
    simp! [bnd_bnd, ixl, slE_ap, opt0_ap, uo, opSl_l (show (lvD ls).length ≤ 1000 by omega), cutD_mm, tk, ixK_0, ixK_1, ixK_2, ixK_3, opAdd_rr, catK_ap (a := lvD q) (b := [.tup [.int g1, .int g0, .int g2, .int g3]]) (by simp [lvD_len]; rw [hq] at d2; simp at d2; omega), opt1_ap, opt1K_i, cutD_to, cutD_fr, ixa, catK_ap (a := (lvD ls).take a) (b := [.tup (la.map .int)]) (by rw [List.length_take]; simp; omega), catK_ap (a := (lvD ls).take a ++ [.tup (la.map .int)]) (b := (lvD ls).drop a) (by rw [List.length_append, List.length_take, List.length_drop]; simp; omega)]
    rw [show ([.tup [.int g1, .int g0, .int g2, .int g3]] : List D) = lvD [[g1, g0, g2, g3]] from rfl, lvD_app, lvD_take, lvD_drop, show lvD (ls.take a) ++ D.tup (la.map D.int) :: lvD (ls.drop a) = lvD (ls.take a ++ la :: ls.drop a) by unfold lvD; rw [List.map_append]; rfl]
    have P1 := p1_no (q := q) (a := g0) (b := g1) (c := g2) (d := g3) (by rw [← hq]; exact lok)
    rw [← hq] at P1
    have P2 := p2_no lok hla
    refine wpf_if (fun hb => ?_) (fun hb => ?_)
    · rw [lvD_len] at hb ⊢
      refine wpf_bnd (wp_draw (pick_d (m := (ls.length : Int) - 1) (by omega) (by omega)) hn B6 (by simp; omega) fun _ c7 ⟨t2, e, t20, t21⟩ B7 => ?_); subst e
      obtain ⟨b, rfl⟩ : ∃ p : Nat, t2 = (p : Int) := ⟨t2.toNat, by omega⟩
      obtain ⟨lb, hlb⟩ : ∃ lb, ls[b]? = some lb := ⟨_, List.getElem?_eq_getElem (by omega)⟩
      have P3 := p3_no lok hlb (by omega)
      have ixb : ∀ S : Sg, ixK (lvD ls) (b : Int) S = .ok (.p (.tup (lb.map .int))) S := fun S => ixK_of (atI_of (by omega) (by unfold lvD; rw [Int.toNat_natCast, List.getElem?_map, hlb]; rfl))
      have fb : lb.length = 4 := (lok.2.2 lb (List.mem_of_getElem? hlb)).length_eq
      have cb1 : Dd.cutD (lvD ls) (some ((b : Int) + 1)) none = (lvD ls).drop (b + 1) := cutD_fr (n := b + 1)
      simp! [bnd_bnd, slE_ap, opt0_ap, opSl_l (show (lvD ls).length ≤ 1000 by omega), opAdd_rr, opt1_ap, opt1K_i, cutD_to, ixb]
      rw [lcL_mapf (ok := fun _ => True) (f := D.int) (g := fun z : Int => D.int (3 - z)) trivial lb [] (fun z _ => by rw [lcB1_ap]; simp! []) (by rw [fb]; simp), List.nil_append, lcFin_ok (acc := lb.map fun z : Int => D.int (3 - z)) (by rw [List.length_map, fb]; omega)]
      simp! [bnd_bnd, slE_ap, opt0_ap, opSl_l (show (lvD ls).length ≤ 1000 by omega), opAdd_rr, opt1_ap, opt1K_i, cb1, cutD_fr, catK_ap (a := (lvD ls).take b) (b := [.tup (lb.map fun z : Int => D.int (3 - z))]) (by rw [List.length_take]; simp; omega), catK_ap (a := (lvD ls).take b ++ [.tup (lb.map fun z : Int => D.int (3 - z))]) (b := (lvD ls).drop (b + 1)) (by rw [List.length_append, List.length_take, List.length_drop]; simp; omega), appK_ap (show ([D.lst (lvD (q ++ [[g1, g0, g2, g3]])), D.lst (lvD (ls.take a ++ la :: ls.drop a))] : List D).length < 1000000 by simp)]
      rw [lvD_take ls b, lvD_drop, show lvD (ls.take b) ++ D.tup (lb.map fun z : Int => D.int (3 - z)) :: lvD (ls.drop (b + 1)) = lvD (ls.take b ++ lb.map (3 - ·) :: ls.drop (b + 1)) by unfold lvD; rw [List.map_append, List.map_cons, List.map_map]; rfl]
      refine tail_w lok (B := [q ++ [[g1, g0, g2, g3]], ls.take a ++ la :: ls.drop a, ls.take b ++ lb.map (3 - ·) :: ls.drop (b + 1)]) (fun A hA => ?_) (by simp) (by simp) (by simp) ⟨_, c7, rfl, by simp, rfl, BagC.mono B7 (by simp)⟩
      simp only [List.mem_cons, List.not_mem_nil, or_false] at hA
      rcases hA with rfl | rfl | rfl
      · exact .inr P1
      · exact P2
      · exact .inr P3
    · refine tail_w lok (B := [q ++ [[g1, g0, g2, g3]], ls.take a ++ la :: ls.drop a]) (fun A hA => ?_) (by simp) (by simp) (by simp) ⟨_, c6, rfl, by simp, rfl, BagC.mono B6 (by simp)⟩
      simp only [List.mem_cons, List.not_mem_nil, or_false] at hA
      rcases hA with rfl | rfl
      · exact .inr P1
      · exact P2
/-- the shifts by halves, as far as they were walked -/
def rowP (H j i : Nat) : List (Int × Int) := ((List.range j).filter fun y : Nat => decide (i % H = 0 ∧ y % H = 0)).map fun y : Nat => ((i : Int), (y : Int))
def prs (H N i : Nat) : List (Int × Int) := (List.range i).flatMap (rowP H N)
theorem rowP_s (H j i : Nat) : rowP H (j + 1) i = rowP H j i ++ (if i % H = 0 ∧ j % H = 0 then [((i : Int), (j : Int))] else []) := by
  unfold rowP
  rw [List.range_succ, List.filter_append, List.map_append]
  by_cases h : i % H = 0 ∧ j % H = 0
  · rw [if_pos h]; simp [h]
  · rw [if_neg h]; simp [h]
theorem prs_s (H N i : Nat) : prs H N (i + 1) = prs H N i ++ rowP H N i := by
  unfold prs
  rw [List.range_succ, List.flatMap_append]; simp
theorem row_mem {H j i : Nat} {p : Int × Int} : p ∈ rowP H j i ↔ ∃ y : Nat, y < j ∧ i % H = 0 ∧ y % H = 0 ∧ p = ((i : Int), (y : Int)) := by
  unfold rowP
  simp only [List.mem_map, List.mem_filter, List.mem_range, decide_eq_true_eq]
  constructor
  · rintro ⟨y, ⟨a, b, c⟩, rfl⟩; exact ⟨y, a, b, c, rfl⟩
  · rintro ⟨y, a, b, c, rfl⟩; exact ⟨y, ⟨a, b, c⟩, rfl⟩
theorem prs_mem {H N i : Nat} {p : Int × Int} : p ∈ prs H N i ↔ ∃ x y : Nat, x < i ∧ y < N ∧ x % H = 0 ∧ y % H = 0 ∧ p = ((x : Int), (y : Int)) := by
  unfold prs
  simp only [List.mem_flatMap, List.mem_range, row_mem]
  constructor
  · rintro ⟨x, hx, y, a, b, c, rfl⟩; exact ⟨x, y, hx, a, b, c, rfl⟩
  · rintro ⟨x, y, hx, a, b, c, rfl⟩; exact ⟨x, hx, y, a, b, c, rfl⟩
theorem prs_new {H N i j : Nat} : ((i : Int), (j : Int)) ∉ prs H N i ++ rowP H j i := fun h => by
  rcases List.mem_append.mp h with h | h
  · obtain ⟨x, y, hx, _, _, _, e⟩ := prs_mem.mp h
    have := (Prod.mk.inj e).1
    omega
  · obtain ⟨y, hy, _, _, e⟩ := row_mem.mp h
    have := (Prod.mk.inj e).2
    omega
theorem prs_len {H N i j : Nat} : (prs H N i ++ rowP H j i).length ≤ i * N + j := by
  have r : ∀ j i, (rowP H j i).length ≤ j := fun j i => by
    unfold rowP
    rw [List.length_map]
    exact Nat.le_trans (List.length_filter_le _ _) (by rw [List.length_range]; exact Nat.le_refl _)
  rw [List.length_append]
  have p : (prs H N i).length ≤ i * N := by
    induction i with
    | zero => simp [prs]
    | succ i ih =>
      rw [prs_s, List.length_append, Nat.succ_mul]
      have := r N i
      omega
  have := r j i
  omega
theorem prs_four {d : Nat} (h1 : 1 ≤ d) (h3 : d ≤ 3) : prs (2 ^ (d - 1)) (2 ^ d) (2 ^ d) = [(0, 0), (0, ((2 ^ (d - 1) : Nat) : Int)), (((2 ^ (d - 1) : Nat) : Int), 0), (((2 ^ (d - 1) : Nat) : Int), ((2 ^ (d - 1) : Nat) : Int))] := by
  rcases (by omega : d = 1 ∨ d = 2 ∨ d = 3) with rfl | rfl | rfl
  · decide
  · decide
  · decide
theorem hlf_nat {ls : List (List Int)} (x : Nat) : Hlf ls (x : Int) ↔ x % 2 ^ (ls.length - 1) = 0 := by
  unfold Hlf
  rw [show ((2 : Int) ^ (ls.length - 1)) = ((2 ^ (ls.length - 1) : Nat) : Int) by norm_cast]
  omega
theorem made_t {ls : List (List Int)} (lok : LvOk ls) (h3 : ls.length ≤ 3) {x y : Int} (h : Hlf ls x ∧ Hlf ls y) (st : Store) : s_z_law_made [.p (.lst (lvD ls)), .p (.int x), .p (.int y)] st = .ok (.val (.lst (lvD (mvX ls x y)))) st := by
  obtain ⟨a, st', e, rfl, q⟩ := made_i lok h3 x y st
  rcases q with ⟨_, rfl⟩ | ⟨n, _⟩
  · exact e
  · exact (n h).elim
theorem made_n {ls : List (List Int)} (lok : LvOk ls) (h3 : ls.length ≤ 3) {x y : Int} (h : ¬ (Hlf ls x ∧ Hlf ls y)) (st : Store) : s_z_law_made [.p (.lst (lvD ls)), .p (.int x), .p (.int y)] st = .ok (.val .non) st := by
  obtain ⟨a, st', e, rfl, q⟩ := made_i lok h3 x y st
  rcases q with ⟨n, _⟩ | ⟨_, rfl⟩
  · exact (h n).elim
  · exact e
/-- whole periods change nothing -/
theorem mvX_far {ls : List (List Int)} (d1 : 1 ≤ ls.length) (x y a b : Int) : mvX ls (x + 2 ^ ls.length * a) (y + 2 ^ ls.length * b) = mvX ls x y ∧ (Hlf ls (x + 2 ^ ls.length * a) ↔ Hlf ls x) ∧ (Hlf ls (y + 2 ^ ls.length * b) ↔ Hlf ls y) := by
  have h2 := half_two d1
  have p := two_pos (ls.length - 1)
  unfold mvX Hlf
  rw [h2]
  generalize (2 : Int) ^ (ls.length - 1) = H at *
  have k : ∀ z c : Int, (z + 2 * H * c) / H = z / H + 2 * c := fun z c => by
    rw [show 2 * H * c = H * (2 * c) by rw [Int.mul_comm 2 H, Int.mul_assoc], Int.add_mul_ediv_left _ _ (by omega)]
  have m : ∀ z c : Int, (z + 2 * H * c) % H = z % H := fun z c => by
    rw [show 2 * H * c = H * (2 * c) by rw [Int.mul_comm 2 H, Int.mul_assoc], Int.add_mul_emod_self_left]
  refine ⟨?_, by rw [m], by rw [m]⟩
  rw [k, k]
  congr 2
  omega
theorem mvLv_inj {ls : List (List Int)} (lok : LvOk ls) {c d : Nat} (hc : c < 4) (hd : d < 4) (h : mvLv ls c = mvLv ls d) : c = d := by
  obtain ⟨d1, d2, hp⟩ := id lok
  obtain ⟨q, lv, rfl⟩ : ∃ q lv, ls = q ++ [lv] := ⟨ls.dropLast, ls.getLast (by intro e; rw [e] at d1; simp at d1), (List.dropLast_concat_getLast _).symm⟩
  rw [mvL_eq, mvL_eq] at h
  exact xorL_inj (hp lv (by simp)) hc hd (by simpa using h)
/-- which shift a list of levels is -/
theorem fit_one {ls : List (List Int)} (lok : LvOk ls) {H : Nat} (hH : 2 ^ (ls.length - 1) = H) (A : List (List Int)) : (∃ q ∈ ([(0, 0), (0, (H : Int)), ((H : Int), 0), ((H : Int), (H : Int))] : List (Int × Int)), ([(0, 0), (0, (H : Int)), ((H : Int), 0), ((H : Int), (H : Int))] : List (Int × Int)).filter (fun q => decide (mvX ls q.1 q.2 = A)) = [q] ∧ A = mvX ls q.1 q.2) ∨ (([(0, 0), (0, (H : Int)), ((H : Int), 0), ((H : Int), (H : Int))] : List (Int × Int)).filter (fun q => decide (mvX ls q.1 q.2 = A)) = [] ∧ ∀ c : Nat, c < 4 → mvLv ls c ≠ A) := by
  have hz : ((2 : Int) ^ (ls.length - 1)) = (H : Int) := by rw [← hH]; norm_cast
  have p : 0 < H := by rw [← hH]; exact Nat.two_pow_pos _
  have dv : (H : Int) / H = 1 := Int.ediv_self (by omega)
  have e0 : mvX ls 0 0 = mvLv ls 0 := by unfold mvX; rw [Int.zero_ediv]; rfl
  have e1 : mvX ls 0 H = mvLv ls 2 := by unfold mvX; rw [hz, Int.zero_ediv, dv]; rfl
  have e2 : mvX ls H 0 = mvLv ls 1 := by unfold mvX; rw [hz, Int.zero_ediv, dv]; rfl
  have e3 : mvX ls H H = mvLv ls 3 := by unfold mvX; rw [hz, dv]; rfl
  have ne : ∀ c d : Nat, c < 4 → d < 4 → c ≠ d → (mvLv ls c = mvLv ls d) = False := fun c d hc hd h => eq_false fun e => h (mvLv_inj lok hc hd e)
  by_cases h0 : mvLv ls 0 = A
  · subst h0
    refine .inl ⟨(0, 0), by simp, ?_, e0.symm⟩
    simp [e0, e1, e2, e3, ne 2 0 (by decide) (by decide) (by decide), ne 1 0 (by decide) (by decide) (by decide), ne 3 0 (by decide) (by decide) (by decide)]
  by_cases h1 : mvLv ls 1 = A
  · subst h1
    refine .inl ⟨((H : Int), 0), by simp, ?_, e2.symm⟩
    simp [e0, e1, e2, e3, h0, ne 2 1 (by decide) (by decide) (by decide), ne 3 1 (by decide) (by decide) (by decide)]
  by_cases h2 : mvLv ls 2 = A
  · subst h2
    refine .inl ⟨(0, (H : Int)), by simp, ?_, e1.symm⟩
    simp [e0, e1, e2, e3, h0, h1, ne 3 2 (by decide) (by decide) (by decide)]
  by_cases h3 : mvLv ls 3 = A
  · subst h3
    refine .inl ⟨((H : Int), (H : Int)), by simp, ?_, e3.symm⟩
    simp [e0, e1, e2, e3, h0, h1, h2]
  refine .inr ⟨by simp [e0, e1, e2, e3, h0, h1, h2, h3], fun c hc => ?_⟩
  match c, hc with
  | 0, _ => exact h0
  | 1, _ => exact h1
  | 2, _ => exact h2
  | 3, _ => exact h3
theorem lcL_fmap {α β : Type} {ok : Sg → Prop} {body : α → M (Option D)} {f : β → α} {p : β → Bool} {g : β → D} {S : Sg} (hok : ok S) : ∀ (l : List β) (acc : List D), (∀ d ∈ l, body (f d) S = .ok (if p d = true then some (g d) else none) S) → acc.length + l.length ≤ 1000000 → lcL ok body (l.map f) acc S = .ok (acc ++ (l.filter p).map g) S
  | [], acc, h, hl => by rw [List.map_nil, lcL_nil' hok]; simp
  | d :: ds, acc, h, hl => by
    rw [List.map_cons, lcL_cons hok (h d List.mem_cons_self)]
    rw [List.length_cons] at hl
    by_cases e : p d = true
    · rw [if_pos e]
      show (if acc.length < sizeLine then lcL ok body (ds.map f) (acc ++ [g d]) S else .bad) = _
      rw [if_pos (Nat.lt_of_lt_of_le (by omega : acc.length < 1000000) (by rw [sizeLine_eq]; decide))]
      rw [lcL_fmap hok ds (acc ++ [g d]) (fun x hx => h x (List.mem_cons_of_mem _ hx)) (by rw [List.length_append]; simp only [List.length_cons, List.length_nil]; omega)]
      rw [List.filter_cons_of_pos e, List.map_cons, List.append_assoc]; rfl
    · rw [if_neg e]
      show lcL ok body (ds.map f) acc S = _
      rw [lcL_fmap hok ds acc (fun x hx => h x (List.mem_cons_of_mem _ hx)) (by omega), List.filter_cons_of_neg e]
theorem bt8 {q : Nat} (h : q < 8) : Bt 240 (q : Int) := Bt.mono (m := 240) (Bt.of (n := 10) ⟨by omega, Int.lt_of_lt_of_le (show (q : Int) < 8 by omega) (by decide)⟩) (by decide)
noncomputable def tM : M R := callM s_z_law_told_right 3 (aC (vr 1) (aC (pur (callM s_moved 3 (aC (vr 2) (aC (bin opSub (vr 5) (vr 8)) (aC (bin opAdd (vr 6) (vr 8)) aN))))) (aC (pur (methM isDD opDget1 (vr 4) (aC (tupE (aC (vr 5) (aC (vr 6) aN))) aN))) aN)))
theorem tM_eq : callM s_z_law_told_right 3 (aC (vr 1) (aC (pur (callM s_moved 3 (aC (vr 2) (aC (bin opSub (vr 5) (vr 8)) (aC (bin opAdd (vr 6) (vr 8)) aN))))) (aC (pur (methM isDD opDget1 (vr 4) (aC (tupE (aC (vr 5) (aC (vr 6) aN))) aN))) aN))) = tM := rfl
noncomputable def loopM : M Fl := (sSq (sSq (sSet 10 (lcE [11] [11] unp1 (itDD (vr 4)) (tst (bin opEqD (bin opDix (vr 4) (vr 11)) (vr 9))) (vr 11))) (sPur 10))
    (sIf (tst (bin opNeD (opA (op1 opRepr) (aC (callM s_shift_between 2 (aC (vr 2) (aC (pur (makeU 0 s_Screen___init 2 (aC (vr 9) aN))) aN))) aN)) (opA (op1 opRepr) (aC (eIf (tst (bin opNeD (vr 10) (lstE aN))) (opA (op1 opMinP) (aC (vr 10) aN)) cn) aN)))) (sRt (cb false)) sNx))
theorem loopM_eq : (sSq (sSq (sSet 10 (lcE [11] [11] unp1 (itDD (vr 4)) (tst (bin opEqD (bin opDix (vr 4) (vr 11)) (vr 9))) (vr 11))) (sPur 10))
    (sIf (tst (bin opNeD (opA (op1 opRepr) (aC (callM s_shift_between 2 (aC (vr 2) (aC (pur (makeU 0 s_Screen___init 2 (aC (vr 9) aN))) aN))) aN)) (opA (op1 opRepr) (aC (eIf (tst (bin opNeD (vr 10) (lstE aN))) (opA (op1 opMinP) (aC (vr 10) aN)) cn) aN)))) (sRt (cb false)) sNx)) = loopM := rfl
theorem small_d : Draws s_z_law_small_right (fun n => [.r n]) (fun v => v = .bl true) 600 := by
  apply dr_of
  intro st n c C hn hb hC
  unfold s_z_law_small_right b_z_law_small_right
  rw [tM_eq, loopM_eq]
  simp! [bnd_bnd]
  refine wpf_bnd (wp_drawL0 (levels1_d (most := 3) (by decide) (by decide)) hn hb (by omega) fun _ c1 ⟨ls, e, lok, lm⟩ B1 => ?_); subst e
  have d1 := lok.1
  have d2 := lok.2.1
  have h3 : ls.length ≤ 3 := by omega
  have hs : (2 : Int) ^ ls.length = ((2 ^ ls.length : Nat) : Int) := by norm_cast
  have h8 : 2 ^ ls.length ≤ 8 := by
    have : 2 ^ ls.length ≤ 2 ^ 3 := Nat.pow_le_pow_right (by decide) h3
    omega
  have hp1 : 1 ≤ 2 ^ ls.length := Nat.one_le_two_pow
  have hf := prs_four d1 h3
  have hn1 := hlf_nat (ls := ls)
  have far := mvX_far (ls := ls) d1
  rw [hs] at far
  have sX := fun x y hx hy st => shiftX_i lok (x := x) (y := y) hx hy st
  rw [hs] at sX
  generalize hN : 2 ^ ls.length = N at *
  generalize hH : 2 ^ (ls.length - 1) = H at *
  simp! [bnd_bnd, lvD_len, sh01 (b := 1) (.inr rfl) d2, Int.one_mul, hs, screen_make ls lok, pureC_obj objD_scr, dtE_ap, rngK1_n (show N ≤ 1000000 by omega)]
  obtain ⟨X, hX⟩ : ∃ X, X = st.set n c1 ++ [Cell.fz (lvD ls), Cell.dead] := ⟨_, rfl⟩
  have hl : st.length + 2 = X.length := by rw [hX]; simp
  have hs' : st.set n c1 ++ [Cell.fz (lvD ls), Cell.dead, Cell.mu (Con.dt [])] = X ++ [Cell.mu (Con.dt [])] := by rw [hX]; simp
  rw [hl, hs']
  refine wpf_bnd (wp_loop (I := fun i S => i ≤ N ∧ ∃ (J : Store) (s5 s6 s7 : Option R), S = ⟨[some (.r n), some (.p (.lst (lvD ls))), some (.p (.scr (lvD ls))), some (.p (.int N)), some (.r X.length), s5, s6, s7, none, none, none, none], X ++ (.mu (.dt ((prs H N i).map (entP fun p => .lst (lvD (mvX ls p.1 p.2))))) :: J)⟩) ⟨Nat.zero_le _, [], none, none, none, rfl⟩ (fun _ _ _ => trivial) ?_ ?_)
  · rintro i d S hi ⟨hiN, J, s5, s6, s7, rfl⟩
    obtain ⟨rfl, hi'⟩ := intsFrom_at hi
    rw [bind_bnd]
    have e0 : (0 : Int) + (i : Int) = (i : Int) := by omega
    simp! [bnd_bnd, e0, rngK1_n (show N ≤ 1000000 by omega)]
    refine (wp_loop (I := fun j S => j ≤ N ∧ ∃ (J : Store) (s6 s7 : Option R), S = ⟨[some (.r n), some (.p (.lst (lvD ls))), some (.p (.scr (lvD ls))), some (.p (.int N)), some (.r X.length), some (.p (.int i)), s6, s7, none, none, none, none], X ++ (.mu (.dt ((prs H N i ++ rowP H j i).map (entP fun p => .lst (lvD (mvX ls p.1 p.2))))) :: J)⟩) ⟨Nat.zero_le _, J, s6, s7, by rw [show rowP H 0 i = [] from rfl, List.append_nil]⟩ (fun _ _ _ => trivial) ?_ ?_)
    · rintro j d S hj ⟨hjN, J, s6, s7, rfl⟩
      obtain ⟨rfl, hj'⟩ := intsFrom_at hj
      rw [bind_bnd]
      have e1 : (0 : Int) + (j : Int) = (j : Int) := by omega
      have len := prs_len (H := H) (N := N) (i := i) (j := j)
      have le2 : i * N + j < 100000 := by
        have : i * N ≤ 8 * 8 := Nat.mul_le_mul (by omega) (by omega)
        omega
      by_cases hh : Hlf ls (i : Int) ∧ Hlf ls (j : Int)
      · have hm : i % H = 0 ∧ j % H = 0 := ⟨(hn1 i).mp hh.1, (hn1 j).mp hh.2⟩
        obtain ⟨o1, l1⟩ := mvX_ok lok (i : Int) (j : Int)
        have ds : ∀ (sl : List (Option R)) (J : Store), dsetK (.r X.length) (.tup [.int (i : Int), .int (j : Int)]) (.lst (lvD (mvX ls i j))) ⟨sl, X ++ (.mu (.dt ((prs H N i ++ rowP H j i).map (entP fun p => .lst (lvD (mvX ls p.1 p.2))))) :: J)⟩ = .ok .nx ⟨sl, X ++ (.mu (.dt (((prs H N i ++ rowP H j i) ++ [((i : Int), (j : Int))]).map (entP fun p => .lst (lvD (mvX ls p.1 p.2))))) :: J)⟩ := fun sl J => dset_P (V := fun p => .lst (lvD (mvX ls p.1 p.2))) (q := ((i : Int), (j : Int))) prs_new (by omega)
        simp! [bnd_bnd, e1, made_t lok h3 hh, movedX_i lok (x := (i : Int)) (y := (j : Int)) (by omega) (by omega) (by omega) (by omega) hh.1 hh.2, pureC_obj objD_scr, told_i l1 o1, notN_ap, notNK_lst, sDset_ap, ds]
        refine wp_ok ?_
        simp only [rowP_s, if_pos hm]
        exact ⟨by omega, _, _, _, rfl⟩
      · have hm : ¬ (i % H = 0 ∧ j % H = 0) := fun h => hh ⟨(hn1 i).mpr h.1, (hn1 j).mpr h.2⟩
        simp! [bnd_bnd, e1, made_n lok h3 hh, movedN_i lok (x := (i : Int)) (y := (j : Int)) (by omega) (by omega) (by omega) (by omega) hh, told_n, notN_ap, notNK_n]
        refine wp_ok ?_
        simp only [rowP_s, if_neg hm, List.append_nil]
        exact ⟨by omega, _, _, _, rfl⟩
    · rintro S ⟨-, J, s6, s7, rfl⟩
      rw [Dd.intsFrom_length]
      exact ⟨by omega, J, _, _, _, by rw [prs_s]⟩
  · rintro S ⟨-, J, s5, s6, s7, rfl⟩
    rw [Dd.intsFrom_length]
    have pd := fun (sl : List (Option R)) => pur_dt (V := fun p : Int × Int => D.lst (lvD (mvX ls p.1 p.2))) (P := prs H N N) (X := X) (J := J) (sl := sl)
    have fget := fun (a b : Int) (S : Sg) => opDget1_P (V := fun p : Int × Int => D.lst (lvD (mvX ls p.1 p.2))) (P := prs H N N) (q := (a, b)) (S := S)
    have fdix := fun (q : Int × Int) (hq : q ∈ prs H N N) (S : Sg) => opDix_P (V := fun p : Int × Int => D.lst (lvD (mvX ls p.1 p.2))) (S := S) hq
    have fk := fun (S : Sg) => ddkK_P (V := fun p : Int × Int => D.lst (lvD (mvX ls p.1 p.2))) (P := prs H N N) (S := S)
    have fis := fun (S : Sg) => isDD_P (V := fun p : Int × Int => D.lst (lvD (mvX ls p.1 p.2))) (P := prs H N N) (S := S)
    generalize ddP (fun p : Int × Int => D.lst (lvD (mvX ls p.1 p.2))) (prs H N N) = DD at *
    simp! [bnd_bnd, sPur_ap, pd]
    rw [hX, List.append_assoc]
    generalize hZ : [Cell.fz (lvD ls), Cell.dead] ++ _ = Z0
    have pw20 : ∀ S : Sg, opPow (.p (.int 10)) (.p (.int 20)) S = .ok (.p (.int 100000000000000000000)) S := fun S => by rw [opPow_i (by decide)]; rfl
    have m20 : ∀ S : Sg, opMul (.p (.int 2)) (.p (.int 100000000000000000000)) S = .ok (.p (.int 200000000000000000000)) S := fun S => by rw [opMul_i (cmulw (n := 3) (m := 70) (Bt.of (by decide)) (Bt.of (by decide)))]; rfl
    simp! [bnd_bnd, pw20, m20]
    refine wpf_bnd (wp_draw (pick_d (m := 200000000000000000000) (by decide) (by decide)) hn B1 (by omega) fun _ c2 ⟨v1, e, a1, b1⟩ B2 => ?_); subst e
    obtain ⟨F, hF⟩ : ∃ F, v1 - 100000000000000000000 = F := ⟨_, rfl⟩
    have mF : ∀ S : Sg, opMul (.p (.int (N : Int))) (.p (.int F)) S = .ok (.p (.int ((N : Int) * F))) S := fun S => opMul_i (cmulw (n := 4) (m := 70) (Bt.of (by omega)) (Bt.of (by omega)))
    simp! [bnd_bnd, pw20, hF, mF]
    refine wpf_bnd (wp_draw (pick_d (m := (N : Int)) (by omega) (by omega)) hn B2 (by omega) fun _ c3 ⟨x, e, x0, x1⟩ B3 => ?_); subst e
    simp! [bnd_bnd]
    refine wpf_bnd (wp_draw (pick_d (m := (N : Int)) (by omega) (by omega)) hn B3 (by omega) fun _ c4 ⟨y, e, y0, y1⟩ B4 => ?_); subst e
    have bF : -(8 * 100000000000000000000) ≤ (N : Int) * F ∧ (N : Int) * F ≤ 8 * 100000000000000000000 := by
      have a : (N : Int) * F ≤ N * 100000000000000000000 := Int.mul_le_mul_of_nonneg_left (by omega) (by omega)
      have b : (N : Int) * (-100000000000000000000) ≤ N * F := Int.mul_le_mul_of_nonneg_left (by omega) (by omega)
      omega
    obtain ⟨f1, f2, f3⟩ := far x y (-F) F
    rw [Int.mul_neg] at f1 f2
    obtain ⟨x, rfl⟩ : ∃ p : Nat, x = (p : Int) := ⟨x.toNat, by omega⟩
    obtain ⟨y, rfl⟩ : ∃ p : Nat, y = (p : Int) := ⟨y.toNat, by omega⟩
    have ex : (x : Int) + -((N : Int) * F) = x - N * F := by omega
    rw [ex] at f1 f2
    generalize (N : Int) * F = NF at *
    obtain ⟨W, tl⟩ : ∃ W : Store, ∀ (s7 : Option R) (st : Store), tM ⟨[some (.r n), some (.p (.lst (lvD ls))), some (.p (.scr (lvD ls))), some (.p (.int N)), some (.p DD), some (.p (.int x)), some (.p (.int y)), s7, some (.p (.int NF)), none, none, none], st⟩ = .ok (.p (.bl true)) ⟨[some (.r n), some (.p (.lst (lvD ls))), some (.p (.scr (lvD ls))), some (.p (.int N)), some (.p DD), some (.p (.int x)), some (.p (.int y)), s7, some (.p (.int NF)), none, none, none], st ++ W⟩ := by
      unfold tM
      by_cases hh : Hlf ls (x : Int) ∧ Hlf ls (y : Int)
      · obtain ⟨o1, l1⟩ := mvX_ok lok (x : Int) (y : Int)
        have mo := fun st => movedX_i lok (x := (x : Int) - NF) (y := (y : Int) + NF) (by omega) (by omega) (by omega) (by omega) (f2.mpr hh.1) (f3.mpr hh.2) st
        rw [f1] at mo
        have hm : ((x : Int), (y : Int)) ∈ prs H N N := prs_mem.mpr ⟨x, y, by omega, by omega, (hn1 x).mp hh.1, (hn1 y).mp hh.2, rfl⟩
        have fg : ∀ S, opDget1 (.p DD) [.p (.tup [.int x, .int y])] S = .ok (.p (.lst (lvD (mvX ls x y)))) S := fun S => by
          have := fget x y S
          rw [if_pos hm] at this
          exact this
        refine ⟨[.dead], fun s7 st => ?_⟩
        simp! [mo, pureC_obj objD_scr, methM_ap, methK, fis, fg, told_i l1 o1]
      · have mo := fun st => movedN_i lok (x := (x : Int) - NF) (y := (y : Int) + NF) (by omega) (by omega) (by omega) (by omega) (fun h => hh ⟨f2.mp h.1, f3.mp h.2⟩) st
        have hm : ((x : Int), (y : Int)) ∉ prs H N N := fun h => by
          obtain ⟨x', y', _, _, q1, q2, e⟩ := prs_mem.mp h
          have e1 : x = x' := by have := (Prod.mk.inj e).1; omega
          have e2 : y = y' := by have := (Prod.mk.inj e).2; omega
          subst e1 e2
          exact hh ⟨(hn1 x).mpr q1, (hn1 y).mpr q2⟩
        have fg : ∀ S, opDget1 (.p DD) [.p (.tup [.int x, .int y])] S = .ok (.p .non) S := fun S => by
          have := fget x y S
          rw [if_neg hm] at this
          exact this
        refine ⟨[], fun s7 st => ?_⟩
        simp! [mo, methM_ap, methK, fis, fg, told_n, List.append_nil]
    simp! [bnd_bnd, tl, itDD_ap, fk]
    rw [lcL_mapf (ok := fun _ => True) (f := Lib.prD) (g := fun p : Int × Int => D.lst (lvD (mvX ls p.1 p.2))) trivial (prs H N N) [] (fun p hp => by
      rw [lcB1_ap]
      simp! [fdix p hp]) (by rw [hf]; simp), List.nil_append, lcFin_ok (acc := (prs H N N).map fun p : Int × Int => D.lst (lvD (mvX ls p.1 p.2))) (by rw [hf]; simp)]
    simp! [bnd_bnd]
    refine wpf_bnd (wp_drawL (levels1_d (most := 3) (by decide) (by decide)) hn B4 (by omega) fun _ c5 ⟨l3, e, lok3, lm3⟩ B5 => ?_); subst e
    have c1 : Dd.cutD (lvD ls) none (some 1) = (lvD ls).take 1 := cutD_to (n := 1)
    have fl : (lvD ls).length ≤ 3 := by rw [lvD_len]; exact h3
    have ft : ((lvD ls).take 1).length ≤ 1 := by rw [List.length_take]; omega
    have fp : ((prs H N N).map fun p : Int × Int => D.lst (lvD (mvX ls p.1 p.2))).length = 4 := by rw [List.length_map, hf]; rfl
    simp! [bnd_bnd, slE_ap, opt0_ap, opt1_ci, opSl_l (show (lvD ls).length ≤ 1000 by omega), c1, opAdd_pr, opAdd_rr, catK_ap (a := lvD ls) (b := (lvD ls).take 1) (by omega), catK_ap (a := (prs H N N).map fun p : Int × Int => D.lst (lvD (mvX ls p.1 p.2))) (b := [.lst (lvD l3), .lst (lvD ls ++ (lvD ls).take 1)]) (by rw [fp]; simp)]
    have eSL : ((prs H N N).map (fun p : Int × Int => D.lst (lvD (mvX ls p.1 p.2))) ++ [D.lst (lvD l3), D.lst (lvD ls ++ (lvD ls).take 1)]) = (((prs H N N).map fun p : Int × Int => mvX ls p.1 p.2) ++ [l3, ls ++ ls.take 1]).map fun A => D.lst (lvD A) := by
      rw [List.map_append, List.map_map, lvD_take, lvD_app]; rfl
    have okSL : ∀ A ∈ ((prs H N N).map fun p : Int × Int => mvX ls p.1 p.2) ++ [l3, ls ++ ls.take 1], LvOk A := fun A hA => by
      rcases List.mem_append.mp hA with h | h
      · obtain ⟨p, _, rfl⟩ := List.mem_map.mp h
        exact (mvX_ok lok p.1 p.2).1
      · simp only [List.mem_cons, List.not_mem_nil, or_false] at h
        rcases h with rfl | rfl
        · exact lok3
        · refine ⟨by rw [List.length_append]; omega, by rw [List.length_append, List.length_take]; omega, fun z hz => ?_⟩
          rcases List.mem_append.mp hz with h | h
          · exact lok.2.2 z h
          · exact lok.2.2 z (List.mem_of_mem_take h)
    rw [eSL]
    generalize ((prs H N N).map fun p : Int × Int => mvX ls p.1 p.2) ++ [l3, ls ++ ls.take 1] = SL at *
    generalize hY : st.set n c5 ++ _ = Y0
    have hYm : Y0[st.length + (Z0.length + (List.length W + 5))]? = some (.mu (.lst (SL.map fun A => D.lst (lvD A)))) := by
      rw [← hY]
      simp
    have hYt : ∀ W', (Y0 ++ W').take st.length = st.set n c5 := fun W' => by rw [← hY]; simp
    generalize st.length + (Z0.length + (List.length W + 5)) = m at *
    refine wpf_bnd (wp_loop (I := fun _ S => ∃ (W' : Store) (s9 s10 : Option R), S = ⟨[some (.r n), some (.p (.lst (lvD ls))), some (.p (.scr (lvD ls))), some (.p (.int N)), some (.p DD), some (.p (.int x)), some (.p (.int y)), s7, some (.p (.int NF)), s9, s10, none], Y0 ++ W'⟩) ⟨[], none, none, by rw [List.append_nil]⟩ ?_ ?_ ?_)
    · rintro j S ⟨W', s9, s10, rfl⟩
      show getLK (Y0 ++ W')[m]? = _
      rw [get_old hYm]; rfl
    · rintro j d S hj ⟨W', s9, s10, rfl⟩
      rw [List.getElem?_map] at hj
      obtain ⟨A, hA, rfl⟩ := Option.map_eq_some_iff.mp hj
      have lokA := okSL A (List.mem_of_getElem? hA)
      rw [bind_bnd]
      unfold loopM
      have eqA : ∀ (q : Int × Int) (S : Sg), opEqD (.p (.lst (lvD (mvX ls q.1 q.2)))) (.p (.lst (lvD A))) S = .ok (.p (.bl (decide (mvX ls q.1 q.2 = A)))) S := fun q S => by
        rw [opEqD_K, dataR_pl, dataR_pl, eqDK_ll]
      simp! [bnd_bnd, itDD_ap, fk]
      rw [lcL_fmap (ok := fun _ => True) (f := Lib.prD) (g := Lib.prD) (p := fun q : Int × Int => decide (mvX ls q.1 q.2 = A)) trivial (prs H N N) [] (fun q hq => by
        rw [lcB1_t]
        cases hb : decide (mvX ls q.1 q.2 = A)
        · have e := eqA q
          rw [hb] at e
          simp! [lcbK, fdix q hq, e]
        · have e := eqA q
          rw [hb] at e
          simp! [lcbK, fdix q hq, e]) (by rw [hf]; simp), List.nil_append]
      rw [hf]
      rcases fit_one lok hH A with ⟨q, hq, hfl, hqA⟩ | ⟨hfl, hno⟩
      · rw [hfl, lcFin_ok (by simp)]
        have hq' := hq
        rw [← hf] at hq'
        obtain ⟨qx, qy, q1, q2, q3, q4, rfl⟩ := prs_mem.mp hq'
        have sh := fun st => sX qx qy ((hn1 qx).mpr q3) ((hn1 qy).mpr q4) st
        simp only at hqA
        rw [← hqA, Int.emod_eq_of_lt (by omega) (by omega), Int.emod_eq_of_lt (by omega) (by omega)] at sh
        obtain ⟨T, so, rp⟩ := opRepr_pt (o := some ((qx : Int), (qy : Int))) (fun p hp => by
          cases hp
          exact ⟨bt8 (by omega), bt8 (by omega)⟩)
        have rp : ∀ S : Sg, opRepr (.p (.tup [.int (qx : Int), .int (qy : Int)])) S = .ok (.p (.str T)) S := rp
        have n1 : ∀ (m : Nat) (S : Sg), S.st[m]? = some (.mu (.lst [])) → opNeD (.p (.lst [Lib.prD ((qx : Int), (qy : Int))])) (.r m) S = .ok (.p (.bl true)) S := fun m S h => opNeD_pn (F := [((qx : Int), (qy : Int))]) h
        have mk : ∀ S : Sg, opMinP (.p (.lst [Lib.prD ((qx : Int), (qy : Int))])) S = .ok (.p (.tup [.int qx, .int qy])) S := fun S => (opMinP_e).trans (minPK_ap (p := ((qx : Int), (qy : Int))) (ps := []))
        simp! [bnd_bnd, sPur_ap, screen_make A lokA, pureC_obj objD_scr, sh, rp, n1, mk, opNeD_t so so]
        try simp! [bnd_bnd, n1, mk, rp, opNeD_t so so]
        exact wp_ok ⟨_, _, _, rfl⟩
      · rw [hfl, lcFin_ok (by simp)]
        have sh := fun st => shiftN_i lok hno st
        obtain ⟨T, so, rp⟩ := opRepr_pt (o := none) (fun p hp => by cases hp)
        have rp : ∀ S : Sg, opRepr (.p .non) S = .ok (.p (.str T)) S := rp
        have n0 : ∀ (m : Nat) (S : Sg), S.st[m]? = some (.mu (.lst [])) → opNeD (.p (.lst [])) (.r m) S = .ok (.p (.bl false)) S := fun m S h => opNeD_pn (F := []) h
        simp! [bnd_bnd, sPur_ap, screen_make A lokA, pureC_obj objD_scr, sh, rp, n0, opNeD_t so so]
        try simp! [bnd_bnd, n0, rp, opNeD_t so so]
        exact wp_ok ⟨_, _, _, rfl⟩
    · rintro S ⟨W', s9, s10, rfl⟩
      simp! [bnd_bnd]
      exact wpf_ok ⟨_, c5, rfl, hYt W', rfl, BagC.mono B5 (by omega)⟩
theorem law_true : ∀ ns : List Int, ns.length ≤ 63 → ∃ st, s_law [.p (.scp (ns.map D.int))] [] = .ok (.val (.bl true)) st := by
  intro ns hn
  suffices h : WpF (s_law [.p (.scp (ns.map D.int))] []) fun a _ => a = .val (.bl true) by
    obtain ⟨_, st, e, rfl⟩ := h
    exact ⟨st, e⟩
  unfold s_law b_law
  simp! [bnd_bnd, slE_ap, opt0_ap, opt1_ci, opSl_scp (l := ns.map D.int) (by rw [List.length_map]; omega), opAdd_rr, cutD_6, catK_ap (a := (ns.take 6).map D.int) (b := [D.int 0]) (by rw [List.length_map, List.length_take]; simp; omega)]
  refine wpf_bnd (wp_loop (I := fun _ S => ∃ k1 k2 k3 X, S = ⟨[some (.p (.scp (ns.map D.int))), k1, k2, k3, none, none, none], X⟩ ∧ X[2]? = some (.mu (.lst ((ns.take 6).map D.int ++ [D.int 0])))) ?_ ?_ ?_ ?_)
  · exact ⟨_, _, _, _, rfl, rfl⟩
  · rintro j S ⟨k1, k2, k3, X, rfl, hX⟩
    simp! [hX]
  · rintro j d S hj ⟨k1, k2, k3, X, rfl, hX⟩
    obtain ⟨d', rfl, hd⟩ := numbered_at hj
    obtain ⟨i, rfl⟩ : ∃ i : Int, d' = .int i := by
      rcases List.mem_append.mp (List.mem_of_getElem? hd) with h | h
      · obtain ⟨i, _, rfl⟩ := List.mem_map.mp h; exact ⟨i, rfl⟩
      · exact ⟨0, by simpa using h⟩
    rw [bind_bnd]
    obtain ⟨m, hm, m0, m1⟩ : ∃ m : Int, (∀ S : Sg, ixK [D.int 9, D.int 50] (if decide ((j : Int) = 0) = true then 1 else 0) S = .ok (.p (.int m)) S) ∧ 0 < m ∧ m ≤ 50 := by
      by_cases h0 : (j : Int) = 0
      · refine ⟨50, fun S => ?_, by decide, by decide⟩
        rw [if_pos (by simpa using h0)]; simp! []
      · refine ⟨9, fun S => ?_, by decide, by decide⟩
        rw [if_neg (by simpa using h0)]; simp! []
    simp! [bnd_bnd, bag_i, Nat.zero_add, hm]
    refine wp_bnd (wp_drawE small_d (bag0 i) (by omega) fun v1 c1 e1 B1 => ?_); subst e1
    simp! [bnd_bnd, hm]
    refine wp_bnd (wp_drawE (deep_d m0 m1) B1 (by omega) fun v2 c2 e2 B2 => ?_); subst e2
    simp! [bnd_bnd]
    exact wp_ok ⟨_, _, _, _, rfl, get_old hX⟩
  · rintro S ⟨k1, k2, k3, X, rfl, hX⟩
    have lf : LvOk [[0, 2, 3, 1], [0, 2, 3, 1]] := ⟨by decide, by decide, by decide⟩
    have lo : LvOk [[0, 2, 3, 1], [1, 0, 2, 3]] := ⟨by decide, by decide, by decide⟩
    have h2 : (2 : Int) ^ (([[0, 2, 3, 1], [0, 2, 3, 1]] : List (List Int)).length - 1) = 2 := by decide
    have hf : ∀ x : Int, x % 2 = 0 → Hlf [[0, 2, 3, 1], [0, 2, 3, 1]] x := fun x h => by unfold Hlf; rw [h2]; exact h
    have m1 := fun st => movedX_i lf (x := 2) (y := 4) (by decide) (by decide) (by decide) (by decide) (hf 2 (by decide)) (hf 4 (by decide)) st
    have m2 := fun st => movedN_i lf (x := 1) (y := 0) (by decide) (by decide) (by decide) (by decide) (fun h => by have := h.1; unfold Hlf at this; rw [h2] at this; omega) st
    have m3 := fun st => movedX_i lf (x := 2) (y := 2) (by decide) (by decide) (by decide) (by decide) (hf 2 (by decide)) (hf 2 (by decide)) st
    have sh := fun st => shiftX_i lf (x := 2) (y := 2) (hf 2 (by decide)) (hf 2 (by decide)) st
    have sn := fun st => shiftN_i (ls := [[0, 2, 3, 1], [0, 2, 3, 1]]) (ms := [[0, 2, 3, 1], [1, 0, 2, 3]]) lf (by decide) st
    have e1 : mvX [[0, 2, 3, 1], [0, 2, 3, 1]] 2 4 = [[0, 2, 3, 1], [2, 0, 1, 3]] := by decide
    have e2 : mvX [[0, 2, 3, 1], [0, 2, 3, 1]] 2 2 = [[0, 2, 3, 1], [1, 3, 2, 0]] := by decide
    have e3 : (2 : Int) % 2 ^ ([[0, 2, 3, 1], [0, 2, 3, 1]] : List (List Int)).length = 2 := by decide
    rw [e1] at m1
    rw [e2] at m3 sh
    rw [e3] at sh
    have lf1 := fun S => screen_make [[0, 2, 3, 1], [0, 2, 3, 1]] lf S
    have lo1 := fun S => screen_make [[0, 2, 3, 1], [1, 0, 2, 3]] lo S
    simp only [lvD, List.map_cons, List.map_nil] at m1 m2 m3 sh sn lf1 lo1
    simp! [bnd_bnd, opMul_r, mulK_2 (l := [D.tup [D.int 0, D.int 2, D.int 3, D.int 1]]) (by simp), lf1, lo1, pureC_obj objD_scr, m1, m2, m3, sh, sn, levels_p, opAdd_pr, catK_ap (a := [D.lst [D.tup [D.int 0, D.int 2, D.int 3, D.int 1], D.tup [D.int 2, D.int 0, D.int 1, D.int 3]], D.non, D.tup [D.int 2, D.int 2]]) (b := [D.non]) (by simp), opEqD_K, dataR_r]
    have ed : dataK (some (.mu (.lst [D.lst [D.tup [D.int 0, D.int 2, D.int 3, D.int 1], D.tup [D.int 2, D.int 0, D.int 1, D.int 3]], D.non, D.tup [D.int 2, D.int 2], D.non]))) = some (.list [.list [.tuple [.int 0, .int 2, .int 3, .int 1], .tuple [.int 2, .int 0, .int 1, .int 3]], .none, .tuple [.int 2, .int 2], .none]) := rfl
    have eq : ∀ S : Sg, eqDK (some (.list [.list [.tuple [.int 0, .int 2, .int 3, .int 1], .tuple [.int 2, .int 0, .int 1, .int 3]], .none, .tuple [.int 2, .int 2], .none])) (some (.list [.list [.tuple [.int 0, .int 2, .int 3, .int 1], .tuple [.int 2, .int 0, .int 1, .int 3]], .none, .tuple [.int 2, .int 2], .none])) S = .ok (.p (.bl true)) S := fun S => rfl
    simp! [bnd_bnd, ed, eq]
    exact wpf_ok rfl
end K33

set_option Elab.async false
set_option linter.all false
set_option maxRecDepth 100000
set_option maxHeartbeats 4000000
namespace K33
open PySem PySem.Spec PyProof.Rows L2 Dd Lib
theorem all_mk {P : Program} {w : World} {K : PySem.W.Frag} {h : Heap} {mg : Str → Option Value} {fa : Addr} (X : K.In h) (G : h.Ns mainGlobals mg) (hfa : mg "law" = some (.ref fa))
    {C0 : Addr}
    {C100 : Addr}
    {C101 N101 : Addr} {q101 : Str} {bs101 sub101 : List Value} {ab101 : Bool} {sn101 : List Str} {col101 : Option Bool} {dd101 : Option Addr} {k0_101 k1_101 k2_101 k3_101 k5_101 : Option Value}
    {fx101 : Addr} {xod101 xan101 : Option Addr} {xsl101 : Array (Option Value)} {xoc101 xdc101 xpm101 xcd101 xct101 : Value}
    {C108 N108 : Addr} {q108 : Str} {bs108 sub108 : List Value} {hd108 ab108 : Bool} {sn108 : List Str} {col108 : Option Bool} {dd108 : Option Addr} {k0_108 k1_108 k2_108 k3_108 k5_108 : Option Value}
    {C111 N111 : Addr} {q111 : Str} {bs111 sub111 : List Value} {hd111 ab111 : Bool} {sn111 : List Str} {col111 : Option Bool} {dd111 : Option Addr} {k0_111 k1_111 k2_111 k3_111 k5_111 : Option Value}
    {C114 N114 : Addr} {q114 : Str} {bs114 sub114 : List Value} {hd114 ab114 : Bool} {sn114 : List Str} {col114 : Option Bool} {dd114 : Option Addr} {k0_114 k1_114 k2_114 k3_114 k5_114 : Option Value}
    {f0 : Addr} {od0 an0 : Option Addr} {sl0 : Array (Option Value)} {oc0 kV0 dc0 pm0 cd0 ct0 : Value}
    {f1 : Addr} {od1 an1 : Option Addr} {sl1 : Array (Option Value)} {oc1 kV1 dc1 pm1 cd1 ct1 : Value}
    {f2 : Addr} {od2 an2 : Option Addr} {sl2 : Array (Option Value)} {oc2 kV2 dc2 pm2 cd2 ct2 : Value}
    {f3 : Addr} {od3 an3 : Option Addr} {sl3 : Array (Option Value)} {oc3 kV3 dc3 pm3 cd3 ct3 : Value}
    {f4 : Addr} {od4 an4 : Option Addr} {sl4 : Array (Option Value)} {oc4 kV4 dc4 pm4 cd4 ct4 : Value}
    {p4 : Addr} {r4 : List Value}
    {f5 : Addr} {od5 an5 : Option Addr} {sl5 : Array (Option Value)} {oc5 kV5 dc5 pm5 cd5 ct5 : Value}
    {f6 : Addr} {od6 an6 : Option Addr} {sl6 : Array (Option Value)} {oc6 kV6 dc6 pm6 cd6 ct6 : Value}
    {f7 : Addr} {od7 an7 : Option Addr} {sl7 : Array (Option Value)} {oc7 kV7 dc7 pm7 cd7 ct7 : Value}
    {f8 : Addr} {od8 an8 : Option Addr} {sl8 : Array (Option Value)} {oc8 kV8 dc8 pm8 cd8 ct8 : Value}
    {f9 : Addr} {od9 an9 : Option Addr} {sl9 : Array (Option Value)} {oc9 kV9 dc9 pm9 cd9 ct9 : Value}
    {p9 : Addr} {r9 : List Value}
    {f10 : Addr} {od10 an10 : Option Addr} {sl10 : Array (Option Value)} {oc10 kV10 dc10 pm10 cd10 ct10 : Value}
    {f11 : Addr} {od11 an11 : Option Addr} {sl11 : Array (Option Value)} {oc11 kV11 dc11 pm11 cd11 ct11 : Value}
    {f12 : Addr} {od12 an12 : Option Addr} {sl12 : Array (Option Value)} {oc12 kV12 dc12 pm12 cd12 ct12 : Value}
    {f13 : Addr} {od13 an13 : Option Addr} {sl13 : Array (Option Value)} {oc13 kV13 dc13 pm13 cd13 ct13 : Value}
    {f14 : Addr} {od14 an14 : Option Addr} {sl14 : Array (Option Value)} {oc14 kV14 dc14 pm14 cd14 ct14 : Value}
    {f15 : Addr} {od15 an15 : Option Addr} {sl15 : Array (Option Value)} {oc15 kV15 dc15 pm15 cd15 ct15 : Value}
    {f16 : Addr} {od16 an16 : Option Addr} {sl16 : Array (Option Value)} {oc16 kV16 dc16 pm16 cd16 ct16 : Value}
    {f17 : Addr} {od17 an17 : Option Addr} {sl17 : Array (Option Value)} {oc17 kV17 dc17 pm17 cd17 ct17 : Value}
    {f18 : Addr} {od18 an18 : Option Addr} {sl18 : Array (Option Value)} {oc18 kV18 dc18 pm18 cd18 ct18 : Value}
    {p18 : Addr} {r18 : List Value}
    {f19 : Addr} {od19 an19 : Option Addr} {sl19 : Array (Option Value)} {oc19 kV19 dc19 pm19 cd19 ct19 : Value}
    {p19 : Addr} {r19 : List Value}
    {f20 : Addr} {od20 an20 : Option Addr} {sl20 : Array (Option Value)} {oc20 kV20 dc20 pm20 cd20 ct20 : Value}
    {f21 : Addr} {od21 an21 : Option Addr} {sl21 : Array (Option Value)} {oc21 kV21 dc21 pm21 cd21 ct21 : Value}
    {f22 : Addr} {od22 an22 : Option Addr} {sl22 : Array (Option Value)} {oc22 kV22 dc22 pm22 cd22 ct22 : Value}
    {f23 : Addr} {od23 an23 : Option Addr} {sl23 : Array (Option Value)} {oc23 kV23 dc23 pm23 cd23 ct23 : Value}
    {f24 : Addr} {od24 an24 : Option Addr} {sl24 : Array (Option Value)} {oc24 kV24 dc24 pm24 cd24 ct24 : Value}
    {f25 : Addr} {od25 an25 : Option Addr} {sl25 : Array (Option Value)} {oc25 kV25 dc25 pm25 cd25 ct25 : Value}
    {f26 : Addr} {od26 an26 : Option Addr} {sl26 : Array (Option Value)} {oc26 kV26 dc26 pm26 cd26 ct26 : Value}
    {f27 : Addr} {od27 an27 : Option Addr} {sl27 : Array (Option Value)} {oc27 kV27 dc27 pm27 cd27 ct27 : Value}
    {t_MOST_LEVELS : Tok}
    {t_MOST_PLACE : Tok}
    (aC0 : PySem.W.nsIn K mainGlobals "Screen" = some (some (.ref C0)))
    (pg0 : PySem.W.plainGet K C0 Str.empty = true)
    (hd0 : PySem.W.hasDictIn K C0 = true)
    (po0 : PySem.W.plainOver K C0 = true)
    (sa0 : PySem.W.findIn K (.ref C0) "__setattr__" = some (some (.builtin "object.__setattr__")))
    (mk0 : PySem.W.makesIn K C0 = true)
    (kc0 : PySem.W.keepIn K (.ref C0) = true)
    (ha0 : PySem.W.findIn K (.ref C0) "__class__" = some (some (.builtin "object.__class__")))
    (hn0 : PySem.W.specialIn K (.builtin "object.__class__") "__get__" = some (some (.builtin "getset_descriptor.__get__")))
    (tk0 : PySem.W.takesIn K (.builtin "object.__class__") = some true)
    (mro0 : PySem.W.mroIn K C0 (.type "object") = some true)
    (ty0 : PySem.W.typeIn K (.ref C0) = some (.type "type"))
    (y0bool : PySem.W.subIn K (.ref C0) (.type "bool") = some false)
    (y0int : PySem.W.subIn K (.ref C0) (.type "int") = some false)
    (y0str : PySem.W.subIn K (.ref C0) (.type "str") = some false)
    (y0tuple : PySem.W.subIn K (.ref C0) (.type "tuple") = some false)
    (y0list : PySem.W.subIn K (.ref C0) (.type "list") = some false)
    (y0dict : PySem.W.subIn K (.ref C0) (.type "dict") = some false)
    (z0NoneType : PySem.W.subIn K (.type "NoneType") (.ref C0) = some false)
    (z0bool : PySem.W.subIn K (.type "bool") (.ref C0) = some false)
    (z0int : PySem.W.subIn K (.type "int") (.ref C0) = some false)
    (z0str : PySem.W.subIn K (.type "str") (.ref C0) = some false)
    (z0tuple : PySem.W.subIn K (.type "tuple") (.ref C0) = some false)
    (z0list : PySem.W.subIn K (.type "list") (.ref C0) = some false)
    (z0dict : PySem.W.subIn K (.type "dict") (.ref C0) = some false)
    (nf0own_levels : PySem.W.findIn K (.ref C0) "own_levels" = some none)
    (ax101 : PySem.W.nsIn K mainGlobals "InvalidLevels" = some (some (.ref C101)))
    (xo101 : K.lookup C101 = some (excClassObj "InvalidLevels" q101 C101 N101 bs101 [.ref C100, .type "ValueError", .type "Exception", .type "BaseException", .type "object"] true sn101 sub101 ab101 col101 dd101 k0_101 k1_101 k2_101 k3_101 k5_101 "ValueError.__new__"))
    (xa101 : PySem.W.findIn K (.ref C101) "__getattribute__" = some (some (.builtin "BaseException.__getattribute__")))
    (xg101 : PySem.W.findIn K (.ref C101) "__getattr__" = some none)
    (xh101 : PySem.W.findIn K (.ref C101) "__class__" = some (some (.builtin "object.__class__")))
    (xk101 : PySem.W.keepIn K (.ref C101) = true)
    (xs101 : PySem.W.findIn K (.ref C101) "__setattr__" = some (some (.builtin "object.__setattr__")))
    (xn101 : PySem.W.findIn K (.ref C101) "level" = some none)
    (xd101 : PySem.W.hasDictIn K C101 = true)
    (xt101 : PySem.W.findIn K (.ref C101) "__init__" = some (some (.ref fx101)))
    (xf101 : PySem.W.typeIn K (.ref fx101) = some (.type "function"))
    (xl101 : K.lookup fx101 = some ⟨xoc101, xod101, .func (PySem.W.fnOf "__init__" "InvalidLevels.__init__" (defArgs (inClass (top 5) 0)) (defBody (inClass (top 5) 0)) (defScope (inClass (top 5) 0)) .none .none xdc101 xpm101 xan101 xcd101 xct101), xsl101⟩)
    (xc101 : PySem.W.codeIn K xcd101 "InvalidLevels.__init__" = true)
    (ax108 : PySem.W.nsIn K mainGlobals "InvalidScreen" = some (some (.ref C108)))
    (xo108 : K.lookup C108 = some (excClassObj "InvalidScreen" q108 C108 N108 bs108 [.ref C100, .type "ValueError", .type "Exception", .type "BaseException", .type "object"] hd108 sn108 sub108 ab108 col108 dd108 k0_108 k1_108 k2_108 k3_108 k5_108 "ValueError.__new__"))
    (xa108 : PySem.W.findIn K (.ref C108) "__getattribute__" = some (some (.builtin "BaseException.__getattribute__")))
    (xg108 : PySem.W.findIn K (.ref C108) "__getattr__" = some none)
    (xh108 : PySem.W.findIn K (.ref C108) "__class__" = some (some (.builtin "object.__class__")))
    (xk108 : PySem.W.keepIn K (.ref C108) = true)
    (xi108 : PySem.W.excIn K C108 [.type "ValueError", .type "Exception", .type "BaseException", .type "object"] "ValueError.__new__" = true)
    (ax111 : PySem.W.nsIn K mainGlobals "InvalidPlace" = some (some (.ref C111)))
    (xo111 : K.lookup C111 = some (excClassObj "InvalidPlace" q111 C111 N111 bs111 [.ref C100, .type "ValueError", .type "Exception", .type "BaseException", .type "object"] hd111 sn111 sub111 ab111 col111 dd111 k0_111 k1_111 k2_111 k3_111 k5_111 "ValueError.__new__"))
    (xa111 : PySem.W.findIn K (.ref C111) "__getattribute__" = some (some (.builtin "BaseException.__getattribute__")))
    (xg111 : PySem.W.findIn K (.ref C111) "__getattr__" = some none)
    (xh111 : PySem.W.findIn K (.ref C111) "__class__" = some (some (.builtin "object.__class__")))
    (xk111 : PySem.W.keepIn K (.ref C111) = true)
    (xi111 : PySem.W.excIn K C111 [.type "ValueError", .type "Exception", .type "BaseException", .type "object"] "ValueError.__new__" = true)
    (ax114 : PySem.W.nsIn K mainGlobals "InvalidNumber" = some (some (.ref C114)))
    (xo114 : K.lookup C114 = some (excClassObj "InvalidNumber" q114 C114 N114 bs114 [.ref C100, .type "ValueError", .type "Exception", .type "BaseException", .type "object"] hd114 sn114 sub114 ab114 col114 dd114 k0_114 k1_114 k2_114 k3_114 k5_114 "ValueError.__new__"))
    (xa114 : PySem.W.findIn K (.ref C114) "__getattribute__" = some (some (.builtin "BaseException.__getattribute__")))
    (xg114 : PySem.W.findIn K (.ref C114) "__getattr__" = some none)
    (xh114 : PySem.W.findIn K (.ref C114) "__class__" = some (some (.builtin "object.__class__")))
    (xk114 : PySem.W.keepIn K (.ref C114) = true)
    (xi114 : PySem.W.excIn K C114 [.type "ValueError", .type "Exception", .type "BaseException", .type "object"] "ValueError.__new__" = true)
    (a0 : PySem.W.nsIn K mainGlobals "_law_bag" = some (some (.ref f0)))
    (l0 : K.lookup f0 = some ⟨oc0, od0, .func (PySem.W.fnOf "_law_bag" "_law_bag" (defArgs (top 24)) (defBody (top 24)) (defScope (top 24)) .none kV0 dc0 pm0 an0 cd0 ct0), sl0⟩)
    (c0 : PySem.W.codeIn K cd0 "_law_bag" = true)
    (k0 : PySem.W.keepIn K (.ref f0) = true)
    (a1 : PySem.W.nsIn K mainGlobals "is_int" = some (some (.ref f1)))
    (l1 : K.lookup f1 = some ⟨oc1, od1, .func (PySem.W.fnOf "is_int" "is_int" (defArgs (top 1)) (defBody (top 1)) (defScope (top 1)) .none kV1 dc1 pm1 an1 cd1 ct1), sl1⟩)
    (c1 : PySem.W.codeIn K cd1 "is_int" = true)
    (k1 : PySem.W.keepIn K (.ref f1) = true)
    (a2 : PySem.W.nsIn K mainGlobals "is_level" = some (some (.ref f2)))
    (l2 : K.lookup f2 = some ⟨oc2, od2, .func (PySem.W.fnOf "is_level" "is_level" (defArgs (top 15)) (defBody (top 15)) (defScope (top 15)) .none kV2 dc2 pm2 an2 cd2 ct2), sl2⟩)
    (c2 : PySem.W.codeIn K cd2 "is_level" = true)
    (k2 : PySem.W.keepIn K (.ref f2) = true)
    (a3 : PySem.W.findIn K (.ref C0) "__init__" = some (some (.ref f3)))
    (i3 : PySem.W.isFn K (.ref f3) = true)
    (l3 : K.lookup f3 = some ⟨oc3, od3, .func (PySem.W.fnOf "__init__" "Screen.__init__" (defArgs (inClass (top 16) 0)) (defBody (inClass (top 16) 0)) (defScope (inClass (top 16) 0)) .none kV3 dc3 pm3 an3 cd3 ct3), sl3⟩)
    (c3 : PySem.W.codeIn K cd3 "Screen.__init__" = true)
    (k3 : PySem.W.keepIn K (.ref f3) = true)
    (a4 : PySem.W.findIn K (.ref C0) "levels" = some (some (.ref p4)))
    (b4 : PySem.W.specialIn K (.ref p4) "__get__" = some (some (.builtin "property.__get__")))
    (d4 : PySem.W.takesIn K (.ref p4) = some true)
    (e4 : PySem.W.recIn K p4 "property" = some (.ref f4 :: r4))
    (l4 : K.lookup f4 = some ⟨oc4, od4, .func (PySem.W.fnOf "levels" "Screen.levels" (defArgs (inClass (top 16) 2)) (defBody (inClass (top 16) 2)) (defScope (inClass (top 16) 2)) .none kV4 dc4 pm4 an4 cd4 ct4), sl4⟩)
    (c4 : PySem.W.codeIn K cd4 "Screen.levels" = true)
    (k4 : PySem.W.keepIn K (.ref f4) = true)
    (a5 : PySem.W.nsIn K mainGlobals "require_screen" = some (some (.ref f5)))
    (l5 : K.lookup f5 = some ⟨oc5, od5, .func (PySem.W.fnOf "require_screen" "require_screen" (defArgs (top 12)) (defBody (top 12)) (defScope (top 12)) .none kV5 dc5 pm5 an5 cd5 ct5), sl5⟩)
    (c5 : PySem.W.codeIn K cd5 "require_screen" = true)
    (k5 : PySem.W.keepIn K (.ref f5) = true)
    (a6 : PySem.W.nsIn K mainGlobals "is_whole" = some (some (.ref f6)))
    (l6 : K.lookup f6 = some ⟨oc6, od6, .func (PySem.W.fnOf "is_whole" "is_whole" (defArgs (top 2)) (defBody (top 2)) (defScope (top 2)) .none kV6 dc6 pm6 an6 cd6 ct6), sl6⟩)
    (c6 : PySem.W.codeIn K cd6 "is_whole" = true)
    (k6 : PySem.W.keepIn K (.ref f6) = true)
    (a7 : PySem.W.nsIn K mainGlobals "require_coordinate" = some (some (.ref f7)))
    (l7 : K.lookup f7 = some ⟨oc7, od7, .func (PySem.W.fnOf "require_coordinate" "require_coordinate" (defArgs (top 13)) (defBody (top 13)) (defScope (top 13)) .none kV7 dc7 pm7 an7 cd7 ct7), sl7⟩)
    (c7 : PySem.W.codeIn K cd7 "require_coordinate" = true)
    (k7 : PySem.W.keepIn K (.ref f7) = true)
    (a8 : PySem.W.nsIn K mainGlobals "require_place" = some (some (.ref f8)))
    (l8 : K.lookup f8 = some ⟨oc8, od8, .func (PySem.W.fnOf "require_place" "require_place" (defArgs (top 14)) (defBody (top 14)) (defScope (top 14)) .none kV8 dc8 pm8 an8 cd8 ct8), sl8⟩)
    (c8 : PySem.W.codeIn K cd8 "require_place" = true)
    (k8 : PySem.W.keepIn K (.ref f8) = true)
    (a9 : PySem.W.findIn K (.ref C0) "depth" = some (some (.ref p9)))
    (b9 : PySem.W.specialIn K (.ref p9) "__get__" = some (some (.builtin "property.__get__")))
    (d9 : PySem.W.takesIn K (.ref p9) = some true)
    (e9 : PySem.W.recIn K p9 "property" = some (.ref f9 :: r9))
    (l9 : K.lookup f9 = some ⟨oc9, od9, .func (PySem.W.fnOf "depth" "Screen.depth" (defArgs (inClass (top 16) 3)) (defBody (inClass (top 16) 3)) (defScope (inClass (top 16) 3)) .none kV9 dc9 pm9 an9 cd9 ct9), sl9⟩)
    (c9 : PySem.W.codeIn K cd9 "Screen.depth" = true)
    (k9 : PySem.W.keepIn K (.ref f9) = true)
    (a10 : PySem.W.nsIn K mainGlobals "moved_levels" = some (some (.ref f10)))
    (l10 : K.lookup f10 = some ⟨oc10, od10, .func (PySem.W.fnOf "moved_levels" "moved_levels" (defArgs (top 20)) (defBody (top 20)) (defScope (top 20)) .none kV10 dc10 pm10 an10 cd10 ct10), sl10⟩)
    (c10 : PySem.W.codeIn K cd10 "moved_levels" = true)
    (k10 : PySem.W.keepIn K (.ref f10) = true)
    (a11 : PySem.W.nsIn K mainGlobals "moved" = some (some (.ref f11)))
    (l11 : K.lookup f11 = some ⟨oc11, od11, .func (PySem.W.fnOf "moved" "moved" (defArgs (top 21)) (defBody (top 21)) (defScope (top 21)) .none kV11 dc11 pm11 an11 cd11 ct11), sl11⟩)
    (c11 : PySem.W.codeIn K cd11 "moved" = true)
    (k11 : PySem.W.keepIn K (.ref f11) = true)
    (a12 : PySem.W.nsIn K mainGlobals "shift_between" = some (some (.ref f12)))
    (l12 : K.lookup f12 = some ⟨oc12, od12, .func (PySem.W.fnOf "shift_between" "shift_between" (defArgs (top 22)) (defBody (top 22)) (defScope (top 22)) .none kV12 dc12 pm12 an12 cd12 ct12), sl12⟩)
    (c12 : PySem.W.codeIn K cd12 "shift_between" = true)
    (k12 : PySem.W.keepIn K (.ref f12) = true)
    (a13 : PySem.W.nsIn K mainGlobals "_law_pick" = some (some (.ref f13)))
    (l13 : K.lookup f13 = some ⟨oc13, od13, .func (PySem.W.fnOf "_law_pick" "_law_pick" (defArgs (top 25)) (defBody (top 25)) (defScope (top 25)) .none kV13 dc13 pm13 an13 cd13 ct13), sl13⟩)
    (c13 : PySem.W.codeIn K cd13 "_law_pick" = true)
    (k13 : PySem.W.keepIn K (.ref f13) = true)
    (a14 : PySem.W.nsIn K mainGlobals "_law_levels" = some (some (.ref f14)))
    (l14 : K.lookup f14 = some ⟨oc14, od14, .func (PySem.W.fnOf "_law_levels" "_law_levels" (defArgs (top 26)) (defBody (top 26)) (defScope (top 26)) .none kV14 dc14 pm14 an14 cd14 ct14), sl14⟩)
    (c14 : PySem.W.codeIn K cd14 "_law_levels" = true)
    (k14 : PySem.W.keepIn K (.ref f14) = true)
    (a15 : PySem.W.nsIn K mainGlobals "place_of" = some (some (.ref f15)))
    (l15 : K.lookup f15 = some ⟨oc15, od15, .func (PySem.W.fnOf "place_of" "place_of" (defArgs (top 18)) (defBody (top 18)) (defScope (top 18)) .none kV15 dc15 pm15 an15 cd15 ct15), sl15⟩)
    (c15 : PySem.W.codeIn K cd15 "place_of" = true)
    (k15 : PySem.W.keepIn K (.ref f15) = true)
    (a16 : PySem.W.findIn K (.ref C0) "place" = some (some (.ref f16)))
    (i16 : PySem.W.isFn K (.ref f16) = true)
    (l16 : K.lookup f16 = some ⟨oc16, od16, .func (PySem.W.fnOf "place" "Screen.place" (defArgs (inClass (top 16) 7)) (defBody (inClass (top 16) 7)) (defScope (inClass (top 16) 7)) .none kV16 dc16 pm16 an16 cd16 ct16), sl16⟩)
    (c16 : PySem.W.codeIn K cd16 "Screen.place" = true)
    (k16 : PySem.W.keepIn K (.ref f16) = true)
    (a17 : PySem.W.findIn K (.ref C0) "__eq__" = some (some (.ref f17)))
    (i17 : PySem.W.isFn K (.ref f17) = true)
    (l17 : K.lookup f17 = some ⟨oc17, od17, .func (PySem.W.fnOf "__eq__" "Screen.__eq__" (defArgs (inClass (top 16) 1)) (defBody (inClass (top 16) 1)) (defScope (inClass (top 16) 1)) .none kV17 dc17 pm17 an17 cd17 ct17), sl17⟩)
    (c17 : PySem.W.codeIn K cd17 "Screen.__eq__" = true)
    (k17 : PySem.W.keepIn K (.ref f17) = true)
    (a18 : PySem.W.findIn K (.ref C0) "period" = some (some (.ref p18)))
    (b18 : PySem.W.specialIn K (.ref p18) "__get__" = some (some (.builtin "property.__get__")))
    (d18 : PySem.W.takesIn K (.ref p18) = some true)
    (e18 : PySem.W.recIn K p18 "property" = some (.ref f18 :: r18))
    (l18 : K.lookup f18 = some ⟨oc18, od18, .func (PySem.W.fnOf "period" "Screen.period" (defArgs (inClass (top 16) 4)) (defBody (inClass (top 16) 4)) (defScope (inClass (top 16) 4)) .none kV18 dc18 pm18 an18 cd18 ct18), sl18⟩)
    (c18 : PySem.W.codeIn K cd18 "Screen.period" = true)
    (k18 : PySem.W.keepIn K (.ref f18) = true)
    (a19 : PySem.W.findIn K (.ref C0) "shades" = some (some (.ref p19)))
    (b19 : PySem.W.specialIn K (.ref p19) "__get__" = some (some (.builtin "property.__get__")))
    (d19 : PySem.W.takesIn K (.ref p19) = some true)
    (e19 : PySem.W.recIn K p19 "property" = some (.ref f19 :: r19))
    (l19 : K.lookup f19 = some ⟨oc19, od19, .func (PySem.W.fnOf "shades" "Screen.shades" (defArgs (inClass (top 16) 5)) (defBody (inClass (top 16) 5)) (defScope (inClass (top 16) 5)) .none kV19 dc19 pm19 an19 cd19 ct19), sl19⟩)
    (c19 : PySem.W.codeIn K cd19 "Screen.shades" = true)
    (k19 : PySem.W.keepIn K (.ref f19) = true)
    (a20 : PySem.W.nsIn K mainGlobals "_law_threshold" = some (some (.ref f20)))
    (l20 : K.lookup f20 = some ⟨oc20, od20, .func (PySem.W.fnOf "_law_threshold" "_law_threshold" (defArgs (top 27)) (defBody (top 27)) (defScope (top 27)) .none kV20 dc20 pm20 an20 cd20 ct20), sl20⟩)
    (c20 : PySem.W.codeIn K cd20 "_law_threshold" = true)
    (k20 : PySem.W.keepIn K (.ref f20) = true)
    (a21 : PySem.W.nsIn K mainGlobals "_law_told_right" = some (some (.ref f21)))
    (l21 : K.lookup f21 = some ⟨oc21, od21, .func (PySem.W.fnOf "_law_told_right" "_law_told_right" (defArgs (top 29)) (defBody (top 29)) (defScope (top 29)) .none kV21 dc21 pm21 an21 cd21 ct21), sl21⟩)
    (c21 : PySem.W.codeIn K cd21 "_law_told_right" = true)
    (k21 : PySem.W.keepIn K (.ref f21) = true)
    (a22 : PySem.W.nsIn K mainGlobals "_law_made" = some (some (.ref f22)))
    (l22 : K.lookup f22 = some ⟨oc22, od22, .func (PySem.W.fnOf "_law_made" "_law_made" (defArgs (top 28)) (defBody (top 28)) (defScope (top 28)) .none kV22 dc22 pm22 an22 cd22 ct22), sl22⟩)
    (c22 : PySem.W.codeIn K cd22 "_law_made" = true)
    (k22 : PySem.W.keepIn K (.ref f22) = true)
    (a23 : PySem.W.nsIn K mainGlobals "_law_small_right" = some (some (.ref f23)))
    (l23 : K.lookup f23 = some ⟨oc23, od23, .func (PySem.W.fnOf "_law_small_right" "_law_small_right" (defArgs (top 30)) (defBody (top 30)) (defScope (top 30)) .none kV23 dc23 pm23 an23 cd23 ct23), sl23⟩)
    (c23 : PySem.W.codeIn K cd23 "_law_small_right" = true)
    (k23 : PySem.W.keepIn K (.ref f23) = true)
    (a24 : PySem.W.nsIn K mainGlobals "threshold_at" = some (some (.ref f24)))
    (l24 : K.lookup f24 = some ⟨oc24, od24, .func (PySem.W.fnOf "threshold_at" "threshold_at" (defArgs (top 17)) (defBody (top 17)) (defScope (top 17)) .none kV24 dc24 pm24 an24 cd24 ct24), sl24⟩)
    (c24 : PySem.W.codeIn K cd24 "threshold_at" = true)
    (k24 : PySem.W.keepIn K (.ref f24) = true)
    (a25 : PySem.W.findIn K (.ref C0) "threshold" = some (some (.ref f25)))
    (i25 : PySem.W.isFn K (.ref f25) = true)
    (l25 : K.lookup f25 = some ⟨oc25, od25, .func (PySem.W.fnOf "threshold" "Screen.threshold" (defArgs (inClass (top 16) 6)) (defBody (inClass (top 16) 6)) (defScope (inClass (top 16) 6)) .none kV25 dc25 pm25 an25 cd25 ct25), sl25⟩)
    (c25 : PySem.W.codeIn K cd25 "Screen.threshold" = true)
    (k25 : PySem.W.keepIn K (.ref f25) = true)
    (a26 : PySem.W.nsIn K mainGlobals "_law_deep_right" = some (some (.ref f26)))
    (l26 : K.lookup f26 = some ⟨oc26, od26, .func (PySem.W.fnOf "_law_deep_right" "_law_deep_right" (defArgs (top 31)) (defBody (top 31)) (defScope (top 31)) .none kV26 dc26 pm26 an26 cd26 ct26), sl26⟩)
    (c26 : PySem.W.codeIn K cd26 "_law_deep_right" = true)
    (k26 : PySem.W.keepIn K (.ref f26) = true)
    (a27 : PySem.W.nsIn K mainGlobals "law" = some (some (.ref f27)))
    (l27 : K.lookup f27 = some ⟨oc27, od27, .func (PySem.W.fnOf "law" "law" (defArgs (top 32)) (defBody (top 32)) (defScope (top 32)) .none kV27 dc27 pm27 an27 cd27 ct27), sl27⟩)
    (c27 : PySem.W.codeIn K cd27 "law" = true)
    (k27 : PySem.W.keepIn K (.ref f27) = true)
    (n_all : PySem.W.nsIn K mainGlobals "all" = some none)
    (n_bool : PySem.W.nsIn K mainGlobals "bool" = some none)
    (n_enumerate : PySem.W.nsIn K mainGlobals "enumerate" = some none)
    (n_int : PySem.W.nsIn K mainGlobals "int" = some none)
    (n_isinstance : PySem.W.nsIn K mainGlobals "isinstance" = some none)
    (n_len : PySem.W.nsIn K mainGlobals "len" = some none)
    (n_list : PySem.W.nsIn K mainGlobals "list" = some none)
    (n_max : PySem.W.nsIn K mainGlobals "max" = some none)
    (n_min : PySem.W.nsIn K mainGlobals "min" = some none)
    (n_range : PySem.W.nsIn K mainGlobals "range" = some none)
    (n_repr : PySem.W.nsIn K mainGlobals "repr" = some none)
    (n_sorted : PySem.W.nsIn K mainGlobals "sorted" = some none)
    (n_tuple : PySem.W.nsIn K mainGlobals "tuple" = some none)
    (q_MOST_LEVELS : PySem.W.nsIn K mainGlobals "MOST_LEVELS" = some (some (.int 50 t_MOST_LEVELS)))
    (q_MOST_PLACE : PySem.W.nsIn K mainGlobals "MOST_PLACE" = some (some (.int 1000000000000000000000000000000 t_MOST_PLACE))) :
    ∃ (cls fna : Nat → Addr) (fd : FuncData), (∀ (s : Shared) (v : Value), BindsTo s fd ⟨[v], []⟩ [("script", v)]) ∧ ∀ base : Heap, K.In base → base.Ns mainGlobals mg → FnG P w K mg base 7 fa fd ["script"] (spF ⟨K, cls, fna⟩ 1 s_law) := by
  have e : f27 = fa := by have q := hfa.symm.trans (PySem.W.mg_of X G a27); cases q; rfl
  subst e
  have F0 := fun_mk (st := (top 24)) l0 c0 k0
  have B0 := F0.binds (ps := ["cell"]) fun _ _ _ _ _ _ us hl => match us, hl with | [_], _ => rfl
  have F1 := fun_mk (st := (top 1)) l1 c1 k1
  have B1 := F1.binds (ps := ["value"]) fun _ _ _ _ _ _ us hl => match us, hl with | [_], _ => rfl
  have F2 := fun_mk (st := (top 15)) l2 c2 k2
  have B2 := F2.binds (ps := ["value"]) fun _ _ _ _ _ _ us hl => match us, hl with | [_], _ => rfl
  have F3 := fun_mk (st := (inClass (top 16) 0)) l3 c3 k3
  have B3 := F3.binds (ps := ["self", "levels"]) fun _ _ _ _ _ _ us hl => match us, hl with | [_, _], _ => rfl
  have F4 := fun_mk (st := (inClass (top 16) 2)) l4 c4 k4
  have B4 := F4.binds (ps := ["self"]) fun _ _ _ _ _ _ us hl => match us, hl with | [_], _ => rfl
  have F5 := fun_mk (st := (top 12)) l5 c5 k5
  have B5 := F5.binds (ps := ["value"]) fun _ _ _ _ _ _ us hl => match us, hl with | [_], _ => rfl
  have F6 := fun_mk (st := (top 2)) l6 c6 k6
  have B6 := F6.binds (ps := ["value", "low", "high"]) fun _ _ _ _ _ _ us hl => match us, hl with | [_, _, _], _ => rfl
  have F7 := fun_mk (st := (top 13)) l7 c7 k7
  have B7 := F7.binds (ps := ["value"]) fun _ _ _ _ _ _ us hl => match us, hl with | [_], _ => rfl
  have F8 := fun_mk (st := (top 14)) l8 c8 k8
  have B8 := F8.binds (ps := ["x", "y"]) fun _ _ _ _ _ _ us hl => match us, hl with | [_, _], _ => rfl
  have F9 := fun_mk (st := (inClass (top 16) 3)) l9 c9 k9
  have B9 := F9.binds (ps := ["self"]) fun _ _ _ _ _ _ us hl => match us, hl with | [_], _ => rfl
  have F10 := fun_mk (st := (top 20)) l10 c10 k10
  have B10 := F10.binds (ps := ["levels", "x", "y"]) fun _ _ _ _ _ _ us hl => match us, hl with | [_, _, _], _ => rfl
  have F11 := fun_mk (st := (top 21)) l11 c11 k11
  have B11 := F11.binds (ps := ["screen", "x", "y"]) fun _ _ _ _ _ _ us hl => match us, hl with | [_, _, _], _ => rfl
  have F12 := fun_mk (st := (top 22)) l12 c12 k12
  have B12 := F12.binds (ps := ["screen", "second"]) fun _ _ _ _ _ _ us hl => match us, hl with | [_, _], _ => rfl
  have F13 := fun_mk (st := (top 25)) l13 c13 k13
  have B13 := F13.binds (ps := ["bag", "many"]) fun _ _ _ _ _ _ us hl => match us, hl with | [_, _], _ => rfl
  have F14 := fun_mk (st := (top 26)) l14 c14 k14
  have B14 := F14.binds (ps := ["bag", "most"]) fun _ _ _ _ _ _ us hl => match us, hl with | [_, _], _ => rfl
  have F15 := fun_mk (st := (top 18)) l15 c15 k15
  have B15 := F15.binds (ps := ["levels", "number"]) fun _ _ _ _ _ _ us hl => match us, hl with | [_, _], _ => rfl
  have F16 := fun_mk (st := (inClass (top 16) 7)) l16 c16 k16
  have B16 := F16.binds (ps := ["self", "number"]) fun _ _ _ _ _ _ us hl => match us, hl with | [_, _], _ => rfl
  have F17 := fun_mk (st := (inClass (top 16) 1)) l17 c17 k17
  have B17 := F17.binds (ps := ["self", "other"]) fun _ _ _ _ _ _ us hl => match us, hl with | [_, _], _ => rfl
  have F18 := fun_mk (st := (inClass (top 16) 4)) l18 c18 k18
  have B18 := F18.binds (ps := ["self"]) fun _ _ _ _ _ _ us hl => match us, hl with | [_], _ => rfl
  have F19 := fun_mk (st := (inClass (top 16) 5)) l19 c19 k19
  have B19 := F19.binds (ps := ["self"]) fun _ _ _ _ _ _ us hl => match us, hl with | [_], _ => rfl
  have F20 := fun_mk (st := (top 27)) l20 c20 k20
  have B20 := F20.binds (ps := ["levels", "x", "y"]) fun _ _ _ _ _ _ us hl => match us, hl with | [_, _, _], _ => rfl
  have F21 := fun_mk (st := (top 29)) l21 c21 k21
  have B21 := F21.binds (ps := ["levels", "told", "due"]) fun _ _ _ _ _ _ us hl => match us, hl with | [_, _, _], _ => rfl
  have F22 := fun_mk (st := (top 28)) l22 c22 k22
  have B22 := F22.binds (ps := ["levels", "x", "y"]) fun _ _ _ _ _ _ us hl => match us, hl with | [_, _, _], _ => rfl
  have F23 := fun_mk (st := (top 30)) l23 c23 k23
  have B23 := F23.binds (ps := ["bag"]) fun _ _ _ _ _ _ us hl => match us, hl with | [_], _ => rfl
  have F24 := fun_mk (st := (top 17)) l24 c24 k24
  have B24 := F24.binds (ps := ["screen", "x", "y"]) fun _ _ _ _ _ _ us hl => match us, hl with | [_, _, _], _ => rfl
  have F25 := fun_mk (st := (inClass (top 16) 6)) l25 c25 k25
  have B25 := F25.binds (ps := ["self", "x", "y"]) fun _ _ _ _ _ _ us hl => match us, hl with | [_, _, _], _ => rfl
  have F26 := fun_mk (st := (top 31)) l26 c26 k26
  have B26 := F26.binds (ps := ["bag", "most"]) fun _ _ _ _ _ _ us hl => match us, hl with | [_, _], _ => rfl
  have F27 := fun_mk (st := (top 32)) l27 c27 k27
  have B27 := F27.binds (ps := ["script"]) fun _ _ _ _ _ _ us hl => match us, hl with | [_], _ => rfl
  have CF0 : ClsF K C0 := ClsF.of ⟨pg0, hd0, po0, sa0⟩ ha0 hn0 tk0 mro0 ty0 (by intro t ht; simp only [List.mem_cons, List.not_mem_nil, or_false] at ht; rcases ht with rfl | rfl | rfl | rfl | rfl | rfl <;> assumption) (by intro t ht; simp only [List.mem_cons, List.not_mem_nil, or_false] at ht; rcases ht with rfl | rfl | rfl | rfl | rfl | rfl | rfl <;> assumption)
  have X101 : XcF K (fun j => [C0, 0, 0, 0, 0, 0, 0, 0, 0, 0, 0, 0, 0, 0, 0, 0, 0, 0, 0, 0, 0, 0, 0, 0, 0, 0, 0, 0, 0, 0, 0, 0, 0, 0, 0, 0, 0, 0, 0, 0, 0, 0, 0, 0, 0, 0, 0, 0, 0, 0, 0, 0, 0, 0, 0, 0, 0, 0, 0, 0, 0, 0, 0, 0, 0, 0, 0, 0, 0, 0, 0, 0, 0, 0, 0, 0, 0, 0, 0, 0, 0, 0, 0, 0, 0, 0, 0, 0, 0, 0, 0, 0, 0, 0, 0, 0, 0, 0, 0, 0, C100, C101, 0, 0, 0, 0, 0, 0, C108, 0, 0, C111, 0, 0, C114, 0, 0, 0, 0, 0].getD j 0) 101 := ⟨⟨_, _, _, _, _, _, _, _, _, _, _, _, _, _, xo101⟩, xa101, xg101, xh101, xk101⟩
  have X108 : XcF K (fun j => [C0, 0, 0, 0, 0, 0, 0, 0, 0, 0, 0, 0, 0, 0, 0, 0, 0, 0, 0, 0, 0, 0, 0, 0, 0, 0, 0, 0, 0, 0, 0, 0, 0, 0, 0, 0, 0, 0, 0, 0, 0, 0, 0, 0, 0, 0, 0, 0, 0, 0, 0, 0, 0, 0, 0, 0, 0, 0, 0, 0, 0, 0, 0, 0, 0, 0, 0, 0, 0, 0, 0, 0, 0, 0, 0, 0, 0, 0, 0, 0, 0, 0, 0, 0, 0, 0, 0, 0, 0, 0, 0, 0, 0, 0, 0, 0, 0, 0, 0, 0, C100, C101, 0, 0, 0, 0, 0, 0, C108, 0, 0, C111, 0, 0, C114, 0, 0, 0, 0, 0].getD j 0) 108 := ⟨⟨_, _, _, _, _, _, _, _, _, _, _, _, _, _, xo108⟩, xa108, xg108, xh108, xk108⟩
  have X111 : XcF K (fun j => [C0, 0, 0, 0, 0, 0, 0, 0, 0, 0, 0, 0, 0, 0, 0, 0, 0, 0, 0, 0, 0, 0, 0, 0, 0, 0, 0, 0, 0, 0, 0, 0, 0, 0, 0, 0, 0, 0, 0, 0, 0, 0, 0, 0, 0, 0, 0, 0, 0, 0, 0, 0, 0, 0, 0, 0, 0, 0, 0, 0, 0, 0, 0, 0, 0, 0, 0, 0, 0, 0, 0, 0, 0, 0, 0, 0, 0, 0, 0, 0, 0, 0, 0, 0, 0, 0, 0, 0, 0, 0, 0, 0, 0, 0, 0, 0, 0, 0, 0, 0, C100, C101, 0, 0, 0, 0, 0, 0, C108, 0, 0, C111, 0, 0, C114, 0, 0, 0, 0, 0].getD j 0) 111 := ⟨⟨_, _, _, _, _, _, _, _, _, _, _, _, _, _, xo111⟩, xa111, xg111, xh111, xk111⟩
  have X114 : XcF K (fun j => [C0, 0, 0, 0, 0, 0, 0, 0, 0, 0, 0, 0, 0, 0, 0, 0, 0, 0, 0, 0, 0, 0, 0, 0, 0, 0, 0, 0, 0, 0, 0, 0, 0, 0, 0, 0, 0, 0, 0, 0, 0, 0, 0, 0, 0, 0, 0, 0, 0, 0, 0, 0, 0, 0, 0, 0, 0, 0, 0, 0, 0, 0, 0, 0, 0, 0, 0, 0, 0, 0, 0, 0, 0, 0, 0, 0, 0, 0, 0, 0, 0, 0, 0, 0, 0, 0, 0, 0, 0, 0, 0, 0, 0, 0, 0, 0, 0, 0, 0, 0, C100, C101, 0, 0, 0, 0, 0, 0, C108, 0, 0, C111, 0, 0, C114, 0, 0, 0, 0, 0].getD j 0) 114 := ⟨⟨_, _, _, _, _, _, _, _, _, _, _, _, _, _, xo114⟩, xa114, xg114, xh114, xk114⟩
  have XF101 : XfF K (fun j => [C0, 0, 0, 0, 0, 0, 0, 0, 0, 0, 0, 0, 0, 0, 0, 0, 0, 0, 0, 0, 0, 0, 0, 0, 0, 0, 0, 0, 0, 0, 0, 0, 0, 0, 0, 0, 0, 0, 0, 0, 0, 0, 0, 0, 0, 0, 0, 0, 0, 0, 0, 0, 0, 0, 0, 0, 0, 0, 0, 0, 0, 0, 0, 0, 0, 0, 0, 0, 0, 0, 0, 0, 0, 0, 0, 0, 0, 0, 0, 0, 0, 0, 0, 0, 0, 0, 0, 0, 0, 0, 0, 0, 0, 0, 0, 0, 0, 0, 0, 0, C100, C101, 0, 0, 0, 0, 0, 0, C108, 0, 0, C111, 0, 0, C114, 0, 0, 0, 0, 0].getD j 0) 101 := ⟨xs101, xn101, xd101, fx101, xt101, xf101, xinit_level ⟨_, _, _, _, _, _, _, _, _, _, _, _, _, _, _, xo101, rfl⟩ xs101 xn101 xl101 xc101⟩
  have T : Fx K mg (fun j => [C0, 0, 0, 0, 0, 0, 0, 0, 0, 0, 0, 0, 0, 0, 0, 0, 0, 0, 0, 0, 0, 0, 0, 0, 0, 0, 0, 0, 0, 0, 0, 0, 0, 0, 0, 0, 0, 0, 0, 0, 0, 0, 0, 0, 0, 0, 0, 0, 0, 0, 0, 0, 0, 0, 0, 0, 0, 0, 0, 0, 0, 0, 0, 0, 0, 0, 0, 0, 0, 0, 0, 0, 0, 0, 0, 0, 0, 0, 0, 0, 0, 0, 0, 0, 0, 0, 0, 0, 0, 0, 0, 0, 0, 0, 0, 0, 0, 0, 0, 0, C100, C101, 0, 0, 0, 0, 0, 0, C108, 0, 0, C111, 0, 0, C114, 0, 0, 0, 0, 0].getD j 0) (fun j => [f0, f1, f2, f3, f4, f5, f6, f7, f8, f9, f10, f11, f12, f13, f14, f15, f16, f17, f18, f19, f20, f21, f22, f23, f24, f25, f26, f27].getD j 0) (fun j => [(PySem.W.fnOf "_law_bag" "_law_bag" (defArgs (top 24)) (defBody (top 24)) (defScope (top 24)) .none kV0 dc0 pm0 an0 cd0 ct0), (PySem.W.fnOf "is_int" "is_int" (defArgs (top 1)) (defBody (top 1)) (defScope (top 1)) .none kV1 dc1 pm1 an1 cd1 ct1), (PySem.W.fnOf "is_level" "is_level" (defArgs (top 15)) (defBody (top 15)) (defScope (top 15)) .none kV2 dc2 pm2 an2 cd2 ct2), (PySem.W.fnOf "__init__" "Screen.__init__" (defArgs (inClass (top 16) 0)) (defBody (inClass (top 16) 0)) (defScope (inClass (top 16) 0)) .none kV3 dc3 pm3 an3 cd3 ct3), (PySem.W.fnOf "levels" "Screen.levels" (defArgs (inClass (top 16) 2)) (defBody (inClass (top 16) 2)) (defScope (inClass (top 16) 2)) .none kV4 dc4 pm4 an4 cd4 ct4), (PySem.W.fnOf "require_screen" "require_screen" (defArgs (top 12)) (defBody (top 12)) (defScope (top 12)) .none kV5 dc5 pm5 an5 cd5 ct5), (PySem.W.fnOf "is_whole" "is_whole" (defArgs (top 2)) (defBody (top 2)) (defScope (top 2)) .none kV6 dc6 pm6 an6 cd6 ct6), (PySem.W.fnOf "require_coordinate" "require_coordinate" (defArgs (top 13)) (defBody (top 13)) (defScope (top 13)) .none kV7 dc7 pm7 an7 cd7 ct7), (PySem.W.fnOf "require_place" "require_place" (defArgs (top 14)) (defBody (top 14)) (defScope (top 14)) .none kV8 dc8 pm8 an8 cd8 ct8), (PySem.W.fnOf "depth" "Screen.depth" (defArgs (inClass (top 16) 3)) (defBody (inClass (top 16) 3)) (defScope (inClass (top 16) 3)) .none kV9 dc9 pm9 an9 cd9 ct9), (PySem.W.fnOf "moved_levels" "moved_levels" (defArgs (top 20)) (defBody (top 20)) (defScope (top 20)) .none kV10 dc10 pm10 an10 cd10 ct10), (PySem.W.fnOf "moved" "moved" (defArgs (top 21)) (defBody (top 21)) (defScope (top 21)) .none kV11 dc11 pm11 an11 cd11 ct11), (PySem.W.fnOf "shift_between" "shift_between" (defArgs (top 22)) (defBody (top 22)) (defScope (top 22)) .none kV12 dc12 pm12 an12 cd12 ct12), (PySem.W.fnOf "_law_pick" "_law_pick" (defArgs (top 25)) (defBody (top 25)) (defScope (top 25)) .none kV13 dc13 pm13 an13 cd13 ct13), (PySem.W.fnOf "_law_levels" "_law_levels" (defArgs (top 26)) (defBody (top 26)) (defScope (top 26)) .none kV14 dc14 pm14 an14 cd14 ct14), (PySem.W.fnOf "place_of" "place_of" (defArgs (top 18)) (defBody (top 18)) (defScope (top 18)) .none kV15 dc15 pm15 an15 cd15 ct15), (PySem.W.fnOf "place" "Screen.place" (defArgs (inClass (top 16) 7)) (defBody (inClass (top 16) 7)) (defScope (inClass (top 16) 7)) .none kV16 dc16 pm16 an16 cd16 ct16), (PySem.W.fnOf "__eq__" "Screen.__eq__" (defArgs (inClass (top 16) 1)) (defBody (inClass (top 16) 1)) (defScope (inClass (top 16) 1)) .none kV17 dc17 pm17 an17 cd17 ct17), (PySem.W.fnOf "period" "Screen.period" (defArgs (inClass (top 16) 4)) (defBody (inClass (top 16) 4)) (defScope (inClass (top 16) 4)) .none kV18 dc18 pm18 an18 cd18 ct18), (PySem.W.fnOf "shades" "Screen.shades" (defArgs (inClass (top 16) 5)) (defBody (inClass (top 16) 5)) (defScope (inClass (top 16) 5)) .none kV19 dc19 pm19 an19 cd19 ct19), (PySem.W.fnOf "_law_threshold" "_law_threshold" (defArgs (top 27)) (defBody (top 27)) (defScope (top 27)) .none kV20 dc20 pm20 an20 cd20 ct20), (PySem.W.fnOf "_law_told_right" "_law_told_right" (defArgs (top 29)) (defBody (top 29)) (defScope (top 29)) .none kV21 dc21 pm21 an21 cd21 ct21), (PySem.W.fnOf "_law_made" "_law_made" (defArgs (top 28)) (defBody (top 28)) (defScope (top 28)) .none kV22 dc22 pm22 an22 cd22 ct22), (PySem.W.fnOf "_law_small_right" "_law_small_right" (defArgs (top 30)) (defBody (top 30)) (defScope (top 30)) .none kV23 dc23 pm23 an23 cd23 ct23), (PySem.W.fnOf "threshold_at" "threshold_at" (defArgs (top 17)) (defBody (top 17)) (defScope (top 17)) .none kV24 dc24 pm24 an24 cd24 ct24), (PySem.W.fnOf "threshold" "Screen.threshold" (defArgs (inClass (top 16) 6)) (defBody (inClass (top 16) 6)) (defScope (inClass (top 16) 6)) .none kV25 dc25 pm25 an25 cd25 ct25), (PySem.W.fnOf "_law_deep_right" "_law_deep_right" (defArgs (top 31)) (defBody (top 31)) (defScope (top 31)) .none kV26 dc26 pm26 an26 cd26 ct26), (PySem.W.fnOf "law" "law" (defArgs (top 32)) (defBody (top 32)) (defScope (top 32)) .none kV27 dc27 pm27 an27 cd27 ct27)].getD j (PySem.W.fnOf "law" "law" (defArgs (top 32)) (defBody (top 32)) (defScope (top 32)) .none kV27 dc27 pm27 an27 cd27 ct27)) := {
    f_z_law_bag := F0,
    b_z_law_bag := B0,
    m_z_law_bag := PySem.W.mg_of X G a0,
    f_is_int := F1,
    b_is_int := B1,
    m_is_int := PySem.W.mg_of X G a1,
    f_is_level := F2,
    b_is_level := B2,
    m_is_level := PySem.W.mg_of X G a2,
    f_Screen___init := F3,
    b_Screen___init := B3,
    mk0 := ⟨mk0, a3, i3, kc0⟩,
    f_Screen_levels := F4,
    b_Screen_levels := B4,
    p_Screen_levels := ⟨p4, a4, b4, d4, _, e4⟩,
    f_require_screen := F5,
    b_require_screen := B5,
    m_require_screen := PySem.W.mg_of X G a5,
    f_is_whole := F6,
    b_is_whole := B6,
    m_is_whole := PySem.W.mg_of X G a6,
    f_require_coordinate := F7,
    b_require_coordinate := B7,
    m_require_coordinate := PySem.W.mg_of X G a7,
    f_require_place := F8,
    b_require_place := B8,
    m_require_place := PySem.W.mg_of X G a8,
    f_Screen_depth := F9,
    b_Screen_depth := B9,
    p_Screen_depth := ⟨p9, a9, b9, d9, _, e9⟩,
    f_moved_levels := F10,
    b_moved_levels := B10,
    m_moved_levels := PySem.W.mg_of X G a10,
    f_moved := F11,
    b_moved := B11,
    m_moved := PySem.W.mg_of X G a11,
    f_shift_between := F12,
    b_shift_between := B12,
    m_shift_between := PySem.W.mg_of X G a12,
    f_z_law_pick := F13,
    b_z_law_pick := B13,
    m_z_law_pick := PySem.W.mg_of X G a13,
    f_z_law_levels_v1 := F14,
    b_z_law_levels_v1 := B14,
    m_z_law_levels_v1 := PySem.W.mg_of X G a14,
    f_place_of := F15,
    b_place_of := B15,
    m_place_of := PySem.W.mg_of X G a15,
    f_Screen_place := F16,
    b_Screen_place := B16,
    h_Screen_place := ⟨a16, i16, k16⟩,
    f_Screen___eq := F17,
    b_Screen___eq := B17,
    h_Screen___eq := ⟨a17, i17, k17⟩,
    f_Screen_period := F18,
    b_Screen_period := B18,
    p_Screen_period := ⟨p18, a18, b18, d18, _, e18⟩,
    f_Screen_shades := F19,
    b_Screen_shades := B19,
    p_Screen_shades := ⟨p19, a19, b19, d19, _, e19⟩,
    f_z_law_threshold_v1 := F20,
    b_z_law_threshold_v1 := B20,
    m_z_law_threshold_v1 := PySem.W.mg_of X G a20,
    f_z_law_told_right := F21,
    b_z_law_told_right := B21,
    m_z_law_told_right := PySem.W.mg_of X G a21,
    f_z_law_made := F22,
    b_z_law_made := B22,
    m_z_law_made := PySem.W.mg_of X G a22,
    f_z_law_small_right := F23,
    b_z_law_small_right := B23,
    m_z_law_small_right := PySem.W.mg_of X G a23,
    f_threshold_at := F24,
    b_threshold_at := B24,
    m_threshold_at := PySem.W.mg_of X G a24,
    f_Screen_threshold := F25,
    b_Screen_threshold := B25,
    h_Screen_threshold := ⟨a25, i25, k25⟩,
    f_z_law_deep_right := F26,
    b_z_law_deep_right := B26,
    m_z_law_deep_right := PySem.W.mg_of X G a26,
    f_law := F27,
    b_law := B27,
    m_law := PySem.W.mg_of X G a27,
    cf0 := CF0,
    c0 := PySem.W.mg_of X G aC0,
    na_own_levels := nf0own_levels,
    xc101 := X101,
    xc108 := X108,
    xc111 := X111,
    xc114 := X114,
    xf101 := XF101,
    gx101 := PySem.W.mg_of X G ax101,
    gx108 := PySem.W.mg_of X G ax108,
    gx111 := PySem.W.mg_of X G ax111,
    gx114 := PySem.W.mg_of X G ax114,
    xi108 := xi108,
    xi111 := xi111,
    xi114 := xi114,
    n_all := PySem.W.mg_none_of X G n_all,
    n_bool := PySem.W.mg_none_of X G n_bool,
    n_enumerate := PySem.W.mg_none_of X G n_enumerate,
    n_int := PySem.W.mg_none_of X G n_int,
    n_isinstance := PySem.W.mg_none_of X G n_isinstance,
    n_len := PySem.W.mg_none_of X G n_len,
    n_list := PySem.W.mg_none_of X G n_list,
    n_max := PySem.W.mg_none_of X G n_max,
    n_min := PySem.W.mg_none_of X G n_min,
    n_range := PySem.W.mg_none_of X G n_range,
    n_repr := PySem.W.mg_none_of X G n_repr,
    n_sorted := PySem.W.mg_none_of X G n_sorted,
    n_tuple := PySem.W.mg_none_of X G n_tuple,
    k_MOST_LEVELS := ⟨_, PySem.W.mg_of X G q_MOST_LEVELS⟩,
    k_MOST_PLACE := ⟨_, PySem.W.mg_of X G q_MOST_PLACE⟩ }
  exact ⟨(fun j => [C0, 0, 0, 0, 0, 0, 0, 0, 0, 0, 0, 0, 0, 0, 0, 0, 0, 0, 0, 0, 0, 0, 0, 0, 0, 0, 0, 0, 0, 0, 0, 0, 0, 0, 0, 0, 0, 0, 0, 0, 0, 0, 0, 0, 0, 0, 0, 0, 0, 0, 0, 0, 0, 0, 0, 0, 0, 0, 0, 0, 0, 0, 0, 0, 0, 0, 0, 0, 0, 0, 0, 0, 0, 0, 0, 0, 0, 0, 0, 0, 0, 0, 0, 0, 0, 0, 0, 0, 0, 0, 0, 0, 0, 0, 0, 0, 0, 0, 0, 0, C100, C101, 0, 0, 0, 0, 0, 0, C108, 0, 0, C111, 0, 0, C114, 0, 0, 0, 0, 0].getD j 0), (fun j => [f0, f1, f2, f3, f4, f5, f6, f7, f8, f9, f10, f11, f12, f13, f14, f15, f16, f17, f18, f19, f20, f21, f22, f23, f24, f25, f26, f27].getD j 0), (PySem.W.fnOf "law" "law" (defArgs (top 32)) (defBody (top 32)) (defScope (top 32)) .none kV27 dc27 pm27 an27 cd27 ct27), (fun s v => .of_eq rfl), fun base _ _ => ok_law T⟩
theorem walk {l : PySem.W.OpenLaw} {q : Program} {loose : List Str} {XP : (Str → Option Value) → Heap → Prop} {YP : World → Heap → Prop} {d : DefRec} {K : Params → PySem.W.Frag} (hn : l.most = some 63) (hdf : d.params.defaults = [])
    (hY : ∀ (w : World) (h : Heap), YP w h → (K w.params).In h)
    (F : ∀ (w : World) (mg : Str → Option Value) (fa : Addr) (h : Heap), (K w.params).In h → h.Ns mainGlobals mg → mg d.name = some (.ref fa) →
      ∃ (cls fna : Nat → Addr) (fd : FuncData), (∀ (s : Shared) (u : Value), BindsTo s fd ⟨[u], []⟩ [("script", u)]) ∧ ∀ base : Heap, (K w.params).In base → base.Ns mainGlobals mg → FnG l.prog w (K w.params) mg base 7 fa fd ["script"] (spF ⟨K w.params, cls, fna⟩ 1 s_law)) :
    PySem.W.WalkO q loose XP YP l.row.toRowW d [] (fun f vs => PySem.call f vs) :=
  walk_ofG (k := 7) (x := "script") hn (by decide) hdf ⟨rfl, by decide, by decide⟩ hY F law_true
end K33
open PySem PySem.W PyProof.Rows
set_option maxRecDepth 100000 in
set_option maxHeartbeats 0 in
theorem PySem.Challenge.cw_ditherdepths_k33_moved_screens_holds : PySem.Challenge.rw_ditherdepths_k33_moved_screens.Holds := by
  w_on; o_law; k_head; (case hw => w_witness2)
  k_fill
  refine K33.walk (l := PySem.Challenge.rw_ditherdepths_k33_moved_screens) rfl rfl (fun w h Y => PySem.W.kIn_of Y) ?F
  case F =>
    intro w mg fa h KX G hmg
    refine' K33.all_mk KX G hmg ?aC0 ?pg0 ?hd0 ?po0 ?sa0 ?mk0 ?kc0 ?ha0 ?hn0 ?tk0 ?mro0 ?ty0 ?y0bool ?y0int ?y0str ?y0tuple ?y0list ?y0dict ?z0NoneType ?z0bool ?z0int ?z0str ?z0tuple ?z0list ?z0dict ?nf0own_levels ?ax101 ?xo101 ?xa101 ?xg101 ?xh101 ?xk101 ?xs101 ?xn101 ?xd101 ?xt101 ?xf101 ?xl101 ?xc101 ?ax108 ?xo108 ?xa108 ?xg108 ?xh108 ?xk108 ?xi108 ?ax111 ?xo111 ?xa111 ?xg111 ?xh111 ?xk111 ?xi111 ?ax114 ?xo114 ?xa114 ?xg114 ?xh114 ?xk114 ?xi114 ?a0 ?l0 ?c0 ?k0 ?a1 ?l1 ?c1 ?k1 ?a2 ?l2 ?c2 ?k2 ?a3 ?i3 ?l3 ?c3 ?k3 ?a4 ?b4 ?d4 ?e4 ?l4 ?c4 ?k4 ?a5 ?l5 ?c5 ?k5 ?a6 ?l6 ?c6 ?k6 ?a7 ?l7 ?c7 ?k7 ?a8 ?l8 ?c8 ?k8 ?a9 ?b9 ?d9 ?e9 ?l9 ?c9 ?k9 ?a10 ?l10 ?c10 ?k10 ?a11 ?l11 ?c11 ?k11 ?a12 ?l12 ?c12 ?k12 ?a13 ?l13 ?c13 ?k13 ?a14 ?l14 ?c14 ?k14 ?a15 ?l15 ?c15 ?k15 ?a16 ?i16 ?l16 ?c16 ?k16 ?a17 ?i17 ?l17 ?c17 ?k17 ?a18 ?b18 ?d18 ?e18 ?l18 ?c18 ?k18 ?a19 ?b19 ?d19 ?e19 ?l19 ?c19 ?k19 ?a20 ?l20 ?c20 ?k20 ?a21 ?l21 ?c21 ?k21 ?a22 ?l22 ?c22 ?k22 ?a23 ?l23 ?c23 ?k23 ?a24 ?l24 ?c24 ?k24 ?a25 ?i25 ?l25 ?c25 ?k25 ?a26 ?l26 ?c26 ?k26 ?a27 ?l27 ?c27 ?k27 ?n_all ?n_bool ?n_enumerate ?n_int ?n_isinstance ?n_len ?n_list ?n_max ?n_min ?n_range ?n_repr ?n_sorted ?n_tuple ?q_MOST_LEVELS ?q_MOST_PLACE
    (case aC0 => k_is)
    (case pg0 => k_is)
    (case hd0 => k_is)
    (case po0 => k_is)
    (case sa0 => k_is)
    (case mk0 => k_is)
    (case kc0 => k_is)
    (case ha0 => k_is)
    (case hn0 => k_is)
    (case tk0 => k_is)
    (case mro0 => k_is)
    (case ty0 => k_is)
    (case y0bool => k_is)
    (case y0int => k_is)
    (case y0str => k_is)
    (case y0tuple => k_is)
    (case y0list => k_is)
    (case y0dict => k_is)
    (case z0NoneType => k_is)
    (case z0bool => k_is)
    (case z0int => k_is)
    (case z0str => k_is)
    (case z0tuple => k_is)
    (case z0list => k_is)
    (case z0dict => k_is)
    (case nf0own_levels => k_is)
    (case ax101 => k_is)
    (case xo101 => k_is)
    (case xa101 => k_is)
    (case xg101 => k_is)
    (case xh101 => k_is)
    (case xk101 => k_is)
    (case xs101 => k_is)
    (case xn101 => k_is)
    (case xd101 => k_is)
    (case xt101 => k_is)
    (case xf101 => k_is)
    (case xl101 => k_is)
    (case xc101 => k_is)
    (case ax108 => k_is)
    (case xo108 => k_is)
    (case xa108 => k_is)
    (case xg108 => k_is)
    (case xh108 => k_is)
    (case xk108 => k_is)
    (case xi108 => k_exc)
    (case ax111 => k_is)
    (case xo111 => k_is)
    (case xa111 => k_is)
    (case xg111 => k_is)
    (case xh111 => k_is)
    (case xk111 => k_is)
    (case xi111 => k_exc)
    (case ax114 => k_is)
    (case xo114 => k_is)
    (case xa114 => k_is)
    (case xg114 => k_is)
    (case xh114 => k_is)
    (case xk114 => k_is)
    (case xi114 => k_exc)
    (case a0 => k_is)
    (case l0 => k_is)
    (case c0 => k_is)
    (case k0 => k_is)
    (case a1 => k_is)
    (case l1 => k_is)
    (case c1 => k_is)
    (case k1 => k_is)
    (case a2 => k_is)
    (case l2 => k_is)
    (case c2 => k_is)
    (case k2 => k_is)
    (case a3 => k_is)
    (case i3 => k_is)
    (case l3 => k_is)
    (case c3 => k_is)
    (case k3 => k_is)
    (case a4 => k_is)
    (case b4 => k_is)
    (case d4 => k_is)
    (case e4 => k_is)
    (case l4 => k_is)
    (case c4 => k_is)
    (case k4 => k_is)
    (case a5 => k_is)
    (case l5 => k_is)
    (case c5 => k_is)
    (case k5 => k_is)
    (case a6 => k_is)
    (case l6 => k_is)
    (case c6 => k_is)
    (case k6 => k_is)
    (case a7 => k_is)
    (case l7 => k_is)
    (case c7 => k_is)
    (case k7 => k_is)
    (case a8 => k_is)
    (case l8 => k_is)
    (case c8 => k_is)
    (case k8 => k_is)
    (case a9 => k_is)
    (case b9 => k_is)
    (case d9 => k_is)
    (case e9 => k_is)
    (case l9 => k_is)
    (case c9 => k_is)
    (case k9 => k_is)
    (case a10 => k_is)
    (case l10 => k_is)
    (case c10 => k_is)
    (case k10 => k_is)
    (case a11 => k_is)
    (case l11 => k_is)
    (case c11 => k_is)
    (case k11 => k_is)
    (case a12 => k_is)
    (case l12 => k_is)
    (case c12 => k_is)
    (case k12 => k_is)
    (case a13 => k_is)
    (case l13 => k_is)
    (case c13 => k_is)
    (case k13 => k_is)
    (case a14 => k_is)
    (case l14 => k_is)
    (case c14 => k_is)
    (case k14 => k_is)
    (case a15 => k_is)
    (case l15 => k_is)
    (case c15 => k_is)
    (case k15 => k_is)
    (case a16 => k_is)
    (case i16 => k_is)
    (case l16 => k_is)
    (case c16 => k_is)
    (case k16 => k_is)
    (case a17 => k_is)
    (case i17 => k_is)
    (case l17 => k_is)
    (case c17 => k_is)
    (case k17 => k_is)
    (case a18 => k_is)
    (case b18 => k_is)
    (case d18 => k_is)
    (case e18 => k_is)
    (case l18 => k_is)
    (case c18 => k_is)
    (case k18 => k_is)
    (case a19 => k_is)
    (case b19 => k_is)
    (case d19 => k_is)
    (case e19 => k_is)
    (case l19 => k_is)
    (case c19 => k_is)
    (case k19 => k_is)
    (case a20 => k_is)
    (case l20 => k_is)
    (case c20 => k_is)
    (case k20 => k_is)
    (case a21 => k_is)
    (case l21 => k_is)
    (case c21 => k_is)
    (case k21 => k_is)
    (case a22 => k_is)
    (case l22 => k_is)
    (case c22 => k_is)
    (case k22 => k_is)
    (case a23 => k_is)
    (case l23 => k_is)
    (case c23 => k_is)
    (case k23 => k_is)
    (case a24 => k_is)
    (case l24 => k_is)
    (case c24 => k_is)
    (case k24 => k_is)
    (case a25 => k_is)
    (case i25 => k_is)
    (case l25 => k_is)
    (case c25 => k_is)
    (case k25 => k_is)
    (case a26 => k_is)
    (case l26 => k_is)
    (case c26 => k_is)
    (case k26 => k_is)
    (case a27 => k_is)
    (case l27 => k_is)
    (case c27 => k_is)
    (case k27 => k_is)
    (case n_all => k_is)
    (case n_bool => k_is)
    (case n_enumerate => k_is)
    (case n_int => k_is)
    (case n_isinstance => k_is)
    (case n_len => k_is)
    (case n_list => k_is)
    (case n_max => k_is)
    (case n_min => k_is)
    (case n_range => k_is)
    (case n_repr => k_is)
    (case n_sorted => k_is)
    (case n_tuple => k_is)
    (case q_MOST_LEVELS => k_is)
    (case q_MOST_PLACE => k_is)
#print axioms PySem.Challenge.cw_ditherdepths_k33_moved_screens_holds
